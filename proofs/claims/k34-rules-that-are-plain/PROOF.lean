import PyProof.Rows.All
import HandS.ForMost
import HandS.Exc
import HandS.ExcOwn
import HandS.Deep
import HandS.Flow
import HandS.TupAny
import HandS.Style
import HandS.Wide
import HandS.Conv
import HandS.IsInst
import HandS.RaiseMore
import HandS.Iter
import HandS.Comp
import HandS.WordsExc
import KE.GoesEnum
import HandS.Defaults
import HandS.MakeKwOnly
import HandS.ExcInit
import KE.KSuper
import KE.KExcSuper
import HandS.ExcField
import HandS.ExcIs
import KE.KExcIs
import KE.KCallOwn
import HandS.Text
import HandS.Star
import HandS.ClsMeth
import HandS.Strs
import HandS.FStr
import HandS.SortKw
import HandS.Keys
import PyProof.TableCode
import Wide.All
import OpenK.AllK
import Wide.FinOn
import PySem.Challenge.RW_plainroads_k34_rules_that_are_plain
set_option Elab.async false
set_option linter.all false
set_option maxRecDepth 100000
set_option autoImplicit false
/-! VL0: the value layer: deep values, the relation of a plain state to the abstract heap, readings by plain functions. -/
namespace VL
open PySem L2

/-- a deep value: tuples, frozen lists and frozen objects by what they hold; loc n: the n-th own cell -/
inductive D where
  | non | bl (b : Bool) | int (i : Int) | str (x : Str)
  | tup (ds : List D) | lst (ds : List D) | frl (ds : List D)
  | obj (C : Nat) (ks : List Str) (ds : List D)
  | cls (C : Nat)
  | loc (n : Nat)

/-- an own cell, that the def may change -/
inductive Cell where
  | lst (ds : List D)
  | dk (ks : List Key) (ds : List D)
  | ins (C : Nat) (ks : List Str) (ds : List D)

/-- an exception of an own class: its class, its own fields -/
structure Exn where
  C : Nat
  ks : List Str
  ds : List D

/-- a state: the slots, the cells -/
structure S where
  env : List (Option D)
  cs : List Cell

/-- the written part, and where the classes stand in it -/
structure Kt where
  K : PySem.W.Frag
  κ : Nat → Addr

section
variable (K : Kt) (ρ : List Addr) (F : Hp)
mutual
inductive RV : D → V → Prop
  | non : RV .non .non
  | bl (b : Bool) : RV (.bl b) (.bl b)
  | int (i : Int) : RV (.int i) (.int i)
  | str (x : Str) : RV (.str x) (.str x)
  | tup {a : Addr} {vs : List V} {ds : List D} : SqT K.K F a vs → RVs ds vs → RV (.tup ds) (.ref a)
  | lst {a : Addr} {vs : List V} {ds : List D} : F a = some (.lst vs) → RVs ds vs → RV (.lst ds) (.ref a)
  | frl {a : Addr} {vs : List V} {ds : List D} : SqL K.K F a vs → RVs ds vs → RV (.frl ds) (.ref a)
  | obj {a dx : Addr} {C : Nat} {ks : List Str} {vs : List V} {ds : List D} : F a = some (.ins (K.κ C) dx (ks.zip vs)) → ks.length = vs.length → RVs ds vs → RV (.obj C ks ds) (.ref a)
  | cls (C : Nat) : RV (.cls C) (.ref (K.κ C))
  | loc {n : Nat} {a : Addr} : ρ[n]? = some a → RV (.loc n) (.ref a)
inductive RVs : List D → List V → Prop
  | nil : RVs [] []
  | cons {d : D} {ds : List D} {v : V} {vs : List V} : RV d v → RVs ds vs → RVs (d :: ds) (v :: vs)
end
end

theorem sqT_same {K : PySem.W.Frag} {H H' : Hp} {a : Addr} {xs : List V} (e : Same H H') (h : SqT K H a xs) : SqT K H' a xs := by
  rcases h with (h | ⟨o, h⟩) | h
  · exact .inl (.inl (e _ _ h))
  · exact .inl (.inr ⟨o, e _ _ h⟩)
  · exact .inr h

/-- the own cells go on, what is frozen goes on -/
structure Ext (ρ : List Addr) (F : Hp) (ρ' : List Addr) (F' : Hp) : Prop where
  pre : ρ <+: ρ'
  fz : Same F F'
theorem Ext.refl {ρ : List Addr} {F : Hp} : Ext ρ F ρ F := ⟨List.prefix_refl _, Same.refl _⟩
theorem Ext.trans {ρ ρ1 ρ2 : List Addr} {F F1 F2 : Hp} (a : Ext ρ F ρ1 F1) (b : Ext ρ1 F1 ρ2 F2) : Ext ρ F ρ2 F2 := ⟨a.pre.trans b.pre, a.fz.trans b.fz⟩
theorem Ext.at {ρ ρ' : List Addr} {F F' : Hp} (x : Ext ρ F ρ' F') {n : Nat} {a : Addr} (h : ρ[n]? = some a) : ρ'[n]? = some a := by
  obtain ⟨t, rfl⟩ := x.pre
  rw [List.getElem?_append_left (List.getElem?_eq_some_iff.mp h).1]
  exact h

mutual
theorem RV.ext {K : Kt} {ρ ρ' : List Addr} {F F' : Hp} (x : Ext ρ F ρ' F') : ∀ {d : D} {v : V}, RV K ρ F d v → RV K ρ' F' d v
  | _, _, .non => .non
  | _, _, .bl b => .bl b
  | _, _, .int i => .int i
  | _, _, .str z => .str z
  | _, _, .tup h r => .tup (sqT_same x.fz h) (RVs.ext x r)
  | _, _, .lst h r => .lst (x.fz _ _ h) (RVs.ext x r)
  | _, _, .frl h r => .frl (x.fz.seq h) (RVs.ext x r)
  | _, _, .obj h l r => .obj (x.fz _ _ h) l (RVs.ext x r)
  | _, _, .cls C => .cls C
  | _, _, .loc h => .loc (x.at h)
theorem RVs.ext {K : Kt} {ρ ρ' : List Addr} {F F' : Hp} (x : Ext ρ F ρ' F') : ∀ {ds : List D} {vs : List V}, RVs K ρ F ds vs → RVs K ρ' F' ds vs
  | _, _, .nil => .nil
  | _, _, .cons h r => .cons (RV.ext x h) (RVs.ext x r)
end

def CellAt (K : Kt) (ρ : List Addr) (F H : Hp) (a : Addr) : Cell → Prop
  | .lst ds => ∃ vs, H a = some (.lst vs) ∧ RVs K ρ F ds vs
  | .dk ks ds => ∃ vs, H a = some (.dK (ks.zip vs)) ∧ ks.length = vs.length ∧ RVs K ρ F ds vs
  | .ins C ks ds => ∃ dx vs, H a = some (.ins (K.κ C) dx (ks.zip vs)) ∧ ks.length = vs.length ∧ RVs K ρ F ds vs
theorem CellAt.some {K : Kt} {ρ : List Addr} {F H : Hp} {a : Addr} : ∀ {c : Cell}, CellAt K ρ F H a c → ∃ o, H a = some o
  | .lst _, ⟨_, h, _⟩ => ⟨_, h⟩
  | .dk _ _, ⟨_, h, _⟩ => ⟨_, h⟩
  | .ins _ _ _, ⟨_, _, h, _⟩ => ⟨_, h⟩
theorem CellAt.ext {K : Kt} {ρ ρ' : List Addr} {F F' H H' : Hp} {a : Addr} (x : Ext ρ F ρ' F') (e : H' a = H a) : ∀ {c : Cell}, CellAt K ρ F H a c → CellAt K ρ' F' H' a c
  | .lst _, ⟨_, h, r⟩ => ⟨_, e.trans h, r.ext x⟩
  | .dk _ _, ⟨_, h, l, r⟩ => ⟨_, e.trans h, l, r.ext x⟩
  | .ins _ _ _, ⟨_, _, h, l, r⟩ => ⟨_, _, e.trans h, l, r.ext x⟩

/-- the entry of the def: the written part, the heap, what was frozen, the cells that were handed in -/
structure Gx where
  K : Kt
  H0 : Hp
  F0 : Hp
  A0 : List Addr

structure Rel (G : Gx) (ρ : List Addr) (F : Hp) (st : S) (σ : St) (H : Hp) : Prop where
  len : st.env.length = σ.length
  env : ∀ (i : Nat) (d : D), st.env[i]? = some (some d) → ∃ v : V, σ[i]? = some (some v) ∧ RV G.K ρ F d v
  cl : ρ.length = st.cs.length
  cell : ∀ (i : Nat) (c : Cell) (a : Addr), st.cs[i]? = some c → ρ[i]? = some a → CellAt G.K ρ F H a c
  nd : ρ.Nodup
  fz : Same F H
  sep : ∀ a ∈ ρ, F a = none
  fr : ∀ a o, G.H0 a = some o → a ∉ G.A0 → H a = some o
  own : ∀ a ∈ ρ, a ∈ G.A0 ∨ G.H0 a = none
  new : ∀ a o, F a = some o → G.F0 a = some o ∨ G.H0 a = none
  old : Same G.F0 F
  a0 : G.A0 <+: ρ

section
variable {G : Gx} {ρ ρ' : List Addr} {F F' : Hp} {st : S} {σ : St} {H H' : Hp}
theorem Rel.inρ (r : Rel G ρ F st σ H) {a : Addr} (h : a ∈ ρ) : ∃ o, H a = some o := by
  obtain ⟨i, hi, rfl⟩ := List.getElem_of_mem h
  have hc : i < st.cs.length := by rw [← r.cl]; exact hi
  exact (r.cell i st.cs[i] ρ[i] (List.getElem?_eq_getElem hc) (List.getElem?_eq_getElem hi)).some
theorem Rel.free (r : Rel G ρ F st σ H) {p : Addr} (h : H p = none) : p ∉ ρ := fun hm => by
  obtain ⟨o, e⟩ := r.inρ hm
  rw [h] at e; cases e
theorem Rel.free0 (r : Rel G ρ F st σ H) {p : Addr} (h : H p = none) : G.H0 p = none := by
  cases e : G.H0 p with
  | none => rfl
  | some o =>
    by_cases ha : p ∈ G.A0
    · exact absurd (r.a0.subset ha) (r.free h)
    · have := r.fr p o e ha
      rw [h] at this; cases this
theorem Rel.freeF (r : Rel G ρ F st σ H) {p : Addr} (h : H p = none) : F p = none := r.fz.free h
theorem same_upd' {H : Hp} {p : Addr} {o : HO} (h : H p = none) : Same H (upd H p o) := fun b x e => by
  rw [upd_ne (ne_of_none e h)]
  exact e
/-- something new that stays as it is -/
theorem Rel.fresh (r : Rel G ρ F st σ H) {p : Addr} {o : HO} (h : H p = none) : Ext ρ F ρ (upd F p o) ∧ Rel G ρ (upd F p o) st σ (upd H p o) := by
  have x : Ext ρ F ρ (upd F p o) := ⟨List.prefix_refl _, same_upd' (r.freeF h)⟩
  have hne : ∀ a ∈ ρ, a ≠ p := fun a ha e => r.free h (e ▸ ha)
  refine ⟨x, ⟨r.len, fun i d e => ?_, r.cl, fun i c a e1 e2 => ?_, r.nd, fun b u e => ?_, fun a ha => ?_, fun a u e1 e2 => ?_, r.own, fun a u e => ?_, r.old.trans x.fz, r.a0⟩⟩
  · obtain ⟨v, e1, e2⟩ := r.env i d e
    exact ⟨v, e1, e2.ext x⟩
  · exact (r.cell i c a e1 e2).ext x (upd_ne (hne a (List.mem_of_getElem? e2)))
  · by_cases hb : b = p
    · subst hb
      rw [upd_same] at e ⊢
      exact e
    · rw [upd_ne hb] at e ⊢
      exact r.fz b u e
  · rw [upd_ne (hne a ha)]
    exact r.sep a ha
  · rw [upd_ne (fun z => by rw [z, r.free0 h] at e1; cases e1)]
    exact r.fr a u e1 e2
  · by_cases hb : a = p
    · subst hb
      exact .inr (r.free0 h)
    · rw [upd_ne hb] at e
      exact r.new a u e
/-- a new own cell -/
theorem Rel.cellNew (r : Rel G ρ F st σ H) {p : Addr} {o : HO} {c : Cell} (h : H p = none) (hc : CellAt G.K (ρ ++ [p]) F (upd H p o) p c) : Ext ρ F (ρ ++ [p]) F ∧ Rel G (ρ ++ [p]) F ⟨st.env, st.cs ++ [c]⟩ σ (upd H p o) := by
  have x : Ext ρ F (ρ ++ [p]) F := ⟨List.prefix_append _ _, Same.refl _⟩
  have hne : ∀ a ∈ ρ, a ≠ p := fun a ha e => r.free h (e ▸ ha)
  refine ⟨x, ⟨r.len, fun i d e => ?_, ?_, fun i c' a e1 e2 => ?_, ?_, fun b u e => ?_, fun a ha => ?_, fun a u e1 e2 => ?_, fun a ha => ?_, r.new, r.old, r.a0.trans x.pre⟩⟩
  · obtain ⟨v, e1, e2⟩ := r.env i d e
    exact ⟨v, e1, e2.ext x⟩
  · show (ρ ++ [p]).length = (st.cs ++ [c]).length
    rw [List.length_append, List.length_append, r.cl]; rfl
  · by_cases hi : i < ρ.length
    · rw [List.getElem?_append_left hi] at e2
      rw [show (S.mk st.env (st.cs ++ [c])).cs = st.cs ++ [c] from rfl, List.getElem?_append_left (by rw [← r.cl]; exact hi)] at e1
      exact (r.cell i c' a e1 e2).ext x (upd_ne (hne a (List.mem_of_getElem? e2)))
    · have hi2 : i = ρ.length := by
        have := (List.getElem?_eq_some_iff.mp e2).1
        rw [List.length_append] at this
        have : i < ρ.length + 1 := this
        omega
      subst hi2
      have f2 : p = a := by
        rw [List.getElem?_append_right (Nat.le_refl _), Nat.sub_self] at e2
        exact Option.some.inj e2
      have f1 : c = c' := by
        rw [show (S.mk st.env (st.cs ++ [c])).cs = st.cs ++ [c] from rfl, List.getElem?_append_right (by rw [r.cl]; exact Nat.le_refl _), r.cl, Nat.sub_self] at e1
        exact Option.some.inj e1
      subst f1 f2
      exact hc
  · refine List.nodup_append.mpr ⟨r.nd, List.nodup_cons.mpr ⟨List.not_mem_nil, List.nodup_nil⟩, fun a ha b hb => ?_⟩
    rw [List.mem_singleton.mp hb]
    exact hne a ha
  · rw [upd_ne (ne_of_none (r.fz b u e) h)]
    exact r.fz b u e
  · rcases List.mem_append.mp ha with ha | ha
    · exact r.sep a ha
    · rw [List.mem_singleton.mp ha]
      exact r.freeF h
  · rw [upd_ne (fun z => by rw [z, r.free0 h] at e1; cases e1)]
    exact r.fr a u e1 e2
  · rcases List.mem_append.mp ha with ha | ha
    · exact r.own a ha
    · rw [List.mem_singleton.mp ha]
      exact .inr (r.free0 h)
/-- an own cell is changed -/
theorem Rel.cellSet (r : Rel G ρ F st σ H) {n : Nat} {a : Addr} {o : HO} {c : Cell} (ha : ρ[n]? = some a) (hc : CellAt G.K ρ F (upd H a o) a c) : Rel G ρ F ⟨st.env, st.cs.set n c⟩ σ (upd H a o) := by
  have hm : a ∈ ρ := List.mem_of_getElem? ha
  refine ⟨r.len, r.env, ?_, fun i c' b e1 e2 => ?_, r.nd, fun b u e => ?_, r.sep, fun b u e1 e2 => ?_, r.own, r.new, r.old, r.a0⟩
  · show ρ.length = (st.cs.set n c).length
    rw [List.length_set, r.cl]
  · by_cases hi : i = n
    · subst hi
      rw [ha] at e2
      cases e2
      have hl : i < st.cs.length := by rw [← r.cl]; exact (List.getElem?_eq_some_iff.mp ha).1
      rw [show (S.mk st.env (st.cs.set i c)).cs = st.cs.set i c from rfl, List.getElem?_set_self hl] at e1
      cases e1
      exact hc
    · rw [show (S.mk st.env (st.cs.set n c)).cs = st.cs.set n c from rfl, List.getElem?_set_ne (fun z => hi z.symm)] at e1
      have hb : b ≠ a := fun z => by
        subst z
        obtain ⟨h1, h1'⟩ := List.getElem?_eq_some_iff.mp e2
        obtain ⟨h2, h2'⟩ := List.getElem?_eq_some_iff.mp ha
        exact hi ((List.getElem_inj r.nd).mp (h1'.trans h2'.symm))
      exact (r.cell i c' b e1 e2).ext Ext.refl (upd_ne hb)
  · rw [upd_ne (fun z => by rw [z, r.sep a hm] at e; cases e)]
    exact r.fz b u e
  · have hb : b ≠ a := fun z => by
      subst z
      rcases r.own b hm with q | q
      · exact e2 q
      · rw [q] at e1; cases e1
    rw [upd_ne hb]
    exact r.fr b u e1 e2
/-- a slot is set -/
theorem Rel.slot (r : Rel G ρ F st σ H) {i : Nat} {d : D} {v : V} (h : RV G.K ρ F d v) : Rel G ρ F ⟨st.env.set i (some d), st.cs⟩ (σ.set i (some v)) H := by
  refine ⟨?_, fun j e h2 => ?_, r.cl, r.cell, r.nd, r.fz, r.sep, r.fr, r.own, r.new, r.old, r.a0⟩
  · show (st.env.set i (some d)).length = _
    rw [List.length_set, List.length_set, r.len]
  · by_cases hj : i = j
    · subst hj
      have hl : i < st.env.length := by
        have := (List.getElem?_eq_some_iff.mp h2).1
        rw [show (S.mk (st.env.set i (some d)) st.cs).env = st.env.set i (some d) from rfl, List.length_set] at this
        exact this
      rw [show (S.mk (st.env.set i (some d)) st.cs).env = st.env.set i (some d) from rfl, List.getElem?_set_self hl] at h2
      cases h2
      exact ⟨v, List.getElem?_set_self (by rw [← r.len]; exact hl), h⟩
    · rw [show (S.mk (st.env.set i (some d)) st.cs).env = st.env.set i (some d) from rfl, List.getElem?_set_ne hj] at h2
      obtain ⟨u, e1, e2⟩ := r.env j e h2
      exact ⟨u, by rw [List.getElem?_set_ne hj]; exact e1, e2⟩
/-- slots are forgotten -/
theorem Rel.forget (r : Rel G ρ F st σ H) {env' : List (Option D)} (hl : env'.length = st.env.length) (h : ∀ (i : Nat) (d : D), env'[i]? = some (some d) → st.env[i]? = some (some d)) : Rel G ρ F ⟨env', st.cs⟩ σ H :=
  ⟨hl.trans r.len, fun i d e => r.env i d (h i d e), r.cl, r.cell, r.nd, r.fz, r.sep, r.fr, r.own, r.new, r.old, r.a0⟩
end

/-! ### results and readings -/
inductive Out (α : Type) where
  | ok (a : α) (cs : List Cell)
  | ex (e : Exn) (cs : List Cell)
  | no
def Out.bind {α β : Type} : Out α → (α → List Cell → Out β) → Out β
  | .ok a cs, k => k a cs
  | .ex e cs, _ => .ex e cs
  | .no, _ => .no
/-- an exception e stands as the class cls with the own dict d -/
def XAt (K : Kt) (ρ : List Addr) (F : Hp) (e : Exn) (cls : Value) (d : Option Addr) : Prop :=
  cls = .ref (K.κ e.C) ∧ ∃ x vs, d = some x ∧ F x = some (.xd (e.ks.zip vs)) ∧ e.ks.length = vs.length ∧ RVs K ρ F e.ds vs
section
variable {α β γ δ : Type}
def Post (R : Kt → List Addr → Hp → α → β → Prop) (G : Gx) (W : WX) (ρ : List Addr) (F : Hp) (env : List (Option D)) (σ : St) (Q : β → Hp → Prop) : Out α → Prop
  | .ok d cs => ∀ ρ' F' H' v, Ext ρ F ρ' F' → Rel G ρ' F' ⟨env, cs⟩ σ H' → R G.K ρ' F' d v → Q v H'
  | .ex e cs => ∀ ρ' F' H' cls dx, Ext ρ F ρ' F' → Rel G ρ' F' ⟨env, cs⟩ σ H' → XAt G.K ρ' F' e cls dx → W cls dx σ H'
  | .no => False
def tX (R : Kt → List Addr → Hp → α → β → Prop) (G : Gx) (W : WX) (f : S → Out α) (σ : St) (H : Hp) (Q : β → Hp → Prop) : Prop :=
  ∃ ρ F st, Rel G ρ F st σ H ∧ Post R G W ρ F st.env σ Q (f st)
theorem Post.ext {R : Kt → List Addr → Hp → α → β → Prop} {G : Gx} {W : WX} {ρ ρ' : List Addr} {F F' : Hp} {env : List (Option D)} {σ : St} {Q : β → Hp → Prop} (x : Ext ρ F ρ' F') : ∀ {o : Out α}, Post R G W ρ F env σ Q o → Post R G W ρ' F' env σ Q o
  | .ok _ _, h => fun ρ2 F2 H2 v y r rv => h ρ2 F2 H2 v (x.trans y) r rv
  | .ex _ _, h => fun ρ2 F2 H2 c d y r rv => h ρ2 F2 H2 c d (x.trans y) r rv
  | .no, h => h
theorem seqX {R : Kt → List Addr → Hp → α → β → Prop} {R' : Kt → List Addr → Hp → γ → δ → Prop} {G : Gx} {W : WX} {ρ : List Addr} {F : Hp} {st : S} {σ : St} {H : Hp} {f : S → Out α} {k : α → List Cell → Out γ} {Q : δ → Hp → Prop} {Q' : β → Hp → Prop}
    (r : Rel G ρ F st σ H) (p : Post R' G W ρ F st.env σ Q ((f st).bind k))
    (h : ∀ ρ' F' H' a cs v, Ext ρ F ρ' F' → Rel G ρ' F' ⟨st.env, cs⟩ σ H' → R G.K ρ' F' a v → Post R' G W ρ' F' st.env σ Q (k a cs) → Q' v H') : tX R G W f σ H Q' := by
  refine ⟨ρ, F, st, r, ?_⟩
  cases e : f st with
  | ok a cs =>
    rw [e] at p
    exact fun ρ' F' H' v x r' rv => h ρ' F' H' a cs v x r' rv (Post.ext x p)
  | ex e' cs =>
    rw [e] at p
    exact p
  | no =>
    rw [e] at p
    exact p
theorem Post.here {R : Kt → List Addr → Hp → α → β → Prop} {G : Gx} {W : WX} {ρ : List Addr} {F : Hp} {st : S} {σ : St} {H : Hp} {Q : β → Hp → Prop} {d : α} {cs : List Cell} {v : β}
    (p : Post R G W ρ F st.env σ Q (.ok d cs)) (r : Rel G ρ F ⟨st.env, cs⟩ σ H) (h : R G.K ρ F d v) : Q v H := p ρ F H v Ext.refl r h
end
abbrev Ex := S → Out D
abbrev tE := @tX D V RV
abbrev tAs := @tX (List D) (List V) RVs
def RB (_ : Kt) (_ : List Addr) (_ : Hp) (a b : Bool) : Prop := a = b
abbrev tTs := @tX Bool Bool RB
theorem _root_.L2.PE.impV {X : Cx} {e : Expr} {t t' : TE} (h : PE X e t) (m : ∀ σ H Q, t' σ H Q → t σ H Q) : PE X e t' := ⟨fun pins s σ H Q I hw => h.run pins s σ H Q I (m _ _ _ hw)⟩
theorem _root_.L2.PT.impV {X : Cx} {e : Expr} {t t' : TT} (h : PT X e t) (m : ∀ σ H Q, t' σ H Q → t σ H Q) : PT X e t' := ⟨fun pins s σ H Q I hw => h.run pins s σ H Q I (m _ _ _ hw)⟩
theorem _root_.L2.PA.impV {X : Cx} {e : List Expr} {t t' : TA} (h : PA X e t) (m : ∀ σ H Q, t' σ H Q → t σ H Q) : PA X e t' := ⟨fun pos pins s σ H Q I hw => h.run pos pins s σ H Q I (m _ _ _ hw)⟩
theorem _root_.L2.PS.impV {X : Cx} {e : Stmt} {t t' : TS} (h : PS X e t) (m : ∀ D σ H, t' D σ H → t D σ H) : PS X e t' := ⟨fun pins s σ H D I hw => h.run pins s σ H D I (m _ _ _ hw)⟩
theorem _root_.L2.PSs.impV {X : Cx} {e : List Stmt} {t t' : TS} (h : PSs X e t) (m : ∀ D σ H, t' D σ H → t D σ H) : PSs X e t' := ⟨fun pins s σ H D I hw => h.run pins s σ H D I (m _ _ _ hw)⟩
end VL

namespace VL
open PySem L2

/-! ### lists of related values -/
section
variable {K : Kt} {ρ : List Addr} {F : Hp}
theorem RVs.length : ∀ {ds : List D} {vs : List V}, RVs K ρ F ds vs → ds.length = vs.length
  | _, _, .nil => rfl
  | _, _, .cons _ r => congrArg (· + 1) (RVs.length r)
theorem RVs.get : ∀ {ds : List D} {vs : List V} {i : Nat} {d : D}, RVs K ρ F ds vs → ds[i]? = some d → ∃ v, vs[i]? = some v ∧ RV K ρ F d v
  | _, _, _, _, .nil, e => by simp at e
  | _, _, 0, _, .cons h _, e => by
    simp only [List.getElem?_cons_zero, Option.some.injEq] at e
    subst e
    exact ⟨_, rfl, h⟩
  | _, _, i + 1, _, .cons _ r, e => by
    simp only [List.getElem?_cons_succ] at e ⊢
    exact RVs.get r e
theorem RVs.getV : ∀ {ds : List D} {vs : List V} {i : Nat} {v : V}, RVs K ρ F ds vs → vs[i]? = some v → ∃ d, ds[i]? = some d ∧ RV K ρ F d v
  | _, _, _, _, .nil, e => by simp at e
  | _, _, 0, _, .cons h _, e => by
    simp only [List.getElem?_cons_zero, Option.some.injEq] at e
    subst e
    exact ⟨_, rfl, h⟩
  | _, _, i + 1, _, .cons _ r, e => by
    simp only [List.getElem?_cons_succ] at e ⊢
    exact RVs.getV r e
theorem RVs.append : ∀ {ds es : List D} {vs ws : List V}, RVs K ρ F ds vs → RVs K ρ F es ws → RVs K ρ F (ds ++ es) (vs ++ ws)
  | _, _, _, _, .nil, s => s
  | _, _, _, _, .cons h r, s => .cons h (RVs.append r s)
theorem RVs.take : ∀ {ds : List D} {vs : List V} (n : Nat), RVs K ρ F ds vs → RVs K ρ F (ds.take n) (vs.take n)
  | _, _, 0, _ => .nil
  | _, _, _ + 1, .nil => .nil
  | _, _, n + 1, .cons h r => .cons h (RVs.take n r)
theorem RVs.drop : ∀ {ds : List D} {vs : List V} (n : Nat), RVs K ρ F ds vs → RVs K ρ F (ds.drop n) (vs.drop n)
  | _, _, 0, r => r
  | _, _, _ + 1, .nil => .nil
  | _, _, n + 1, .cons _ r => RVs.drop n r
theorem RVs.set {d : D} {v : V} (h : RV K ρ F d v) : ∀ {ds : List D} {vs : List V} (n : Nat), RVs K ρ F ds vs → RVs K ρ F (ds.set n d) (vs.set n v)
  | _, _, _, .nil => .nil
  | _, _, 0, .cons _ r => .cons h r
  | _, _, n + 1, .cons q r => .cons q (RVs.set h n r)
theorem RVs.reverse : ∀ {ds : List D} {vs : List V}, RVs K ρ F ds vs → RVs K ρ F ds.reverse vs.reverse
  | _, _, .nil => .nil
  | _, _, .cons h r => by
    rw [List.reverse_cons, List.reverse_cons]
    exact RVs.append (RVs.reverse r) (.cons h .nil)
theorem RVs.one {d : D} {v : V} (h : RV K ρ F d v) : RVs K ρ F [d] [v] := .cons h .nil
end

/-! ### what a sequence holds -/
def lstOf (cs : List Cell) : D → Option (List D)
  | .lst ds => some ds
  | .frl ds => some ds
  | .loc n => match cs[n]? with
    | some (.lst ds) => some ds
    | _ => none
  | _ => none
def tupOf : D → Option (List D)
  | .tup ds => some ds
  | _ => none
def seqOf (cs : List Cell) (d : D) : Option (List D) := match d with
  | .tup ds => some ds
  | d => lstOf cs d
section
variable {G : Gx} {ρ : List Addr} {F : Hp} {st : S} {σ : St} {H : Hp} {x : D} {v : V} {ds : List D}
theorem Rel.at (r : Rel G ρ F st σ H) {n : Nat} {c : Cell} {v : V} (h : RV G.K ρ F (.loc n) v) (e : st.cs[n]? = some c) : ∃ a, v = .ref a ∧ ρ[n]? = some a ∧ CellAt G.K ρ F H a c := by
  cases h with
  | loc h => exact ⟨_, rfl, h, r.cell n c _ e h⟩
theorem lst_read (r : Rel G ρ F st σ H) (h : RV G.K ρ F x v) (e : lstOf st.cs x = some ds) : ∃ a vs, v = .ref a ∧ SqL G.K.K H a vs ∧ RVs G.K ρ F ds vs := by
  cases h with
  | lst h1 h2 =>
    cases e
    exact ⟨_, _, rfl, SqL.of (r.fz _ _ h1), h2⟩
  | frl h1 h2 =>
    cases e
    exact ⟨_, _, rfl, r.fz.seq h1, h2⟩
  | loc h1 =>
    rename_i n a
    have e : (match st.cs[n]? with
      | some (.lst ds) => some ds
      | _ => none) = some ds := e
    cases q : st.cs[n]? with
    | none => rw [q] at e; cases e
    | some c =>
      rw [q] at e
      cases c with
      | lst es =>
        cases e
        obtain ⟨vs, h2, h3⟩ := r.cell n _ _ q h1
        exact ⟨_, _, rfl, SqL.of h2, h3⟩
      | _ => cases e
  | _ => cases e
theorem tup_read (r : Rel G ρ F st σ H) (h : RV G.K ρ F x v) (e : tupOf x = some ds) : ∃ a vs, v = .ref a ∧ SqT G.K.K H a vs ∧ RVs G.K ρ F ds vs := by
  cases h with
  | tup h1 h2 =>
    cases e
    exact ⟨_, _, rfl, sqT_same r.fz h1, h2⟩
  | _ => cases e
theorem seq_read (r : Rel G ρ F st σ H) (h : RV G.K ρ F x v) (e : seqOf st.cs x = some ds) : ∃ a vs, v = .ref a ∧ (SqL G.K.K H a vs ∨ SqT G.K.K H a vs) ∧ RVs G.K ρ F ds vs := by
  cases x with
  | tup es =>
    obtain ⟨a, vs, h1, h2, h3⟩ := tup_read r h (show tupOf (.tup es) = some ds from e)
    exact ⟨a, vs, h1, .inr h2, h3⟩
  | _ =>
    obtain ⟨a, vs, h1, h2, h3⟩ := lst_read r h e
    exact ⟨a, vs, h1, .inl h2, h3⟩
end

/-! ### names and constants -/
section
variable {X : Cx} {G : Gx} {W : WX}
def eVar (i : Nat) : Ex := fun st => match st.env[i]? with
  | some (some d) => .ok d st.cs
  | _ => .no
theorem de_var {e : Expr} {i : Nat} (h : PE X e (tVar i)) : PE X e (tE G W (eVar i)) := h.impV fun σ H Q ⟨ρ, F, st, r, p⟩ => by
  unfold eVar at p
  cases q : st.env[i]? with
  | none => rw [q] at p; exact p.elim
  | some o =>
    rw [q] at p
    cases o with
    | none => exact p.elim
    | some d =>
      obtain ⟨v, e1, e2⟩ := r.env i d q
      exact ⟨v, e1, p.here r e2⟩
def eC (d : D) : Ex := fun st => .ok d st.cs
theorem de_c {e : Expr} {v : V} {d : D} (h : PE X e (tC v)) (hv : ∀ ρ F, RV G.K ρ F d v) : PE X e (tE G W (eC d)) := h.impV fun σ H Q ⟨ρ, F, st, r, p⟩ => p.here r (hv ρ F)
theorem de_int {i j pos} : PE X (.Constant (.int i) j pos) (tE G W (eC (.int i))) := de_c pe_int fun _ _ => .int _
theorem de_bl {b j pos} : PE X (.Constant (.bool b) j pos) (tE G W (eC (.bl b))) := de_c pe_bl fun _ _ => .bl _
theorem de_non {j pos} : PE X (.Constant .none j pos) (tE G W (eC .non)) := de_c pe_non fun _ _ => .non
theorem de_str {x j pos} : PE X (.Constant (.str x) j pos) (tE G W (eC (.str x))) := de_c pe_str fun _ _ => .str _

/-! ### operators -/
abbrev F2 := List Cell → D → D → Out D
abbrev F1 := List Cell → D → Out D
def V2 (G : Gx) (W : WX) (r : R2) (g : F2) : Prop := ∀ (ρ : List Addr) (F : Hp) (st : S) (σ : St) (H : Hp) (x y : D) (v w : V) (Q : VK), Rel G ρ F st σ H → RV G.K ρ F x v → RV G.K ρ F y w → Post RV G W ρ F st.env σ Q (g st.cs x y) → r v w H Q
def V1 (G : Gx) (W : WX) (r : V → Hp → VK → Prop) (g : F1) : Prop := ∀ (ρ : List Addr) (F : Hp) (st : S) (σ : St) (H : Hp) (x : D) (v : V) (Q : VK), Rel G ρ F st σ H → RV G.K ρ F x v → Post RV G W ρ F st.env σ Q (g st.cs x) → r v H Q
def eOp (g : F2) (fa fb : Ex) : Ex := fun st => (fa st).bind fun x c1 => (fb ⟨st.env, c1⟩).bind fun y c2 => g c2 x y
def eUn (g : F1) (fa : Ex) : Ex := fun st => (fa st).bind fun x c1 => g c1 x
variable {a b : Expr} {fa fb : Ex} {pos : Pos}
theorem tOp_of {r : R2} {g : F2} (hv : V2 G W r g) : ∀ σ H Q, tE G W (eOp g fa fb) σ H Q → tOp r (tE G W fa) (tE G W fb) σ H Q := fun σ H Q ⟨ρ, F, st, r, p⟩ =>
  seqX r p fun ρ1 F1 H1 x c1 v x1 r1 rv1 p1 => seqX (st := ⟨st.env, c1⟩) r1 p1 fun ρ2 F2 H2 y c2 w x2 r2 rv2 p2 => hv ρ2 F2 ⟨st.env, c2⟩ σ H2 x y v w Q r2 (rv1.ext x2) rv2 p2
theorem de_op {op : Operator} {r : R2} {g : F2} (ho : OpR X (binaryOp op) r) (hv : V2 G W r g) (ha : PE X a (tE G W fa)) (hb : PE X b (tE G W fb)) : PE X (.BinOp a op b pos) (tE G W (eOp g fa fb)) :=
  (pe_op ho ha hb).impV (tOp_of hv)
theorem de_cmp {op : CmpOp} {r : R2} {g : F2} (ho : OpR X (compareOp op) r) (hv : V2 G W r g) (ha : PE X a (tE G W fa)) (hb : PE X b (tE G W fb)) (hm : behindInMarks op b = false) : PE X (.Compare a [op] [b] pos) (tE G W (eOp g fa fb)) :=
  (pe_cmpR ho ha hb hm).impV (tOp_of hv)
theorem de_un {op : UnaryOp} {r : V → Hp → VK → Prop} {g : F1} (ho : UnR X (unaryOp op) r) (hv : V1 G W r g) (ha : PE X a (tE G W fa)) : PE X (.UnaryOp op a pos) (tE G W (eUn g fa)) :=
  (pe_un ho ha).impV fun σ H Q ⟨ρ, F, st, r, p⟩ => seqX r p fun ρ1 F1 H1 x c1 v x1 r1 rv1 p1 => hv ρ1 F1 ⟨st.env, c1⟩ σ H1 x v Q r1 rv1 p1
end
end VL

namespace VL
open PySem L2
section
variable {X : Cx} {G : Gx} {W : WX} {a b : Expr} {fa fb : Ex} {pos : Pos}
/-! ### arithmetic -/
def gInt (C : Int → Int → Bool) (g : Int → Int → Int) : F2 := fun cs x y => match x, y with
  | .int i, .int j => if C i j then .ok (.int (g i j)) cs else .no
  | _, _ => .no
theorem v2_int {C : Int → Int → Bool} {C' : Int → Int → Prop} {g : Int → Int → Int} (h : ∀ i j, C i j = true → C' i j) : V2 G W (rI C' fun i j => .int (g i j)) (gInt C g) := by
  intro ρ F st σ H x y v w Q r h1 h2 p
  unfold gInt at p
  split at p
  case h_2 => exact p.elim
  cases h1; cases h2
  rename_i i j
  by_cases c : C i j = true
  · simp only [c, if_true] at p
    exact ⟨i, j, rfl, rfl, h i j c, p.here r (.int _)⟩
  · simp only [c, if_false] at p
    exact p.elim
def gSub : F2 := gInt (fun _ _ => true) fun i j => i - j
theorem v2_sub : V2 G W (rI (fun _ _ => True) fun i j => .int (i - j)) gSub := v2_int fun _ _ _ => trivial
theorem op_sub' : OpR X (binaryOp .Sub) (rI (fun _ _ => True) fun i j => .int (i - j)) := fun pins s σ H x y v u Q I rx ry ⟨i, j, e1, e2, _, q⟩ => op_sub pins s σ H x y v u Q I rx ry ⟨i, j, e1, e2, q⟩
theorem de_sub (ha : PE X a (tE G W fa)) (hb : PE X b (tE G W fb)) : PE X (.BinOp a .Sub b pos) (tE G W (eOp gSub fa fb)) := de_op op_sub' v2_sub ha hb
def cMul (i j : Int) : Bool := decide (-(2 ^ 64) < i) && decide (i < 2 ^ 64) || decide (-(2 ^ 64) < j) && decide (j < 2 ^ 64)
def cDiv (_ j : Int) : Bool := decide (0 < j) && decide (j < 1073741824)
def cMod (_ j : Int) : Bool := decide (0 < j)
def cPow (i j : Int) : Bool := decide (0 ≤ j) && decide (j ≤ 1000000) && decide (i.natAbs < 2 ^ 64)
def gFdiv : F2 := gInt cDiv fun i j => i / j
theorem de_fdiv (ha : PE X a (tE G W fa)) (hb : PE X b (tE G W fb)) : PE X (.BinOp a .FloorDiv b pos) (tE G W (eOp gFdiv fa fb)) :=
  de_op op_fdiv (v2_int fun i j c => by simpa [cDiv, CDiv] using c) ha hb
def gPow : F2 := gInt cPow fun i j => i ^ j.toNat
theorem de_pow (ha : PE X a (tE G W fa)) (hb : PE X b (tE G W fb)) : PE X (.BinOp a .Pow b pos) (tE G W (eOp gPow fa fb)) :=
  de_op op_pow (v2_int fun i j c => by
    simp only [cPow, Bool.and_eq_true, decide_eq_true_eq] at c
    exact ⟨c.1.1, c.1.2, c.2⟩) ha hb
def gMod : F2 := gInt cMod fun i j => i % j
theorem de_mod (ha : PE X a (tE G W fa)) (hb : PE X b (tE G W fb)) : PE X (.BinOp a .Mod b pos) (tE G W (eOp gMod fa fb)) :=
  de_op op_mod (v2_int fun i j c => by simpa [cMod] using c) ha hb
def gNeg : F1 := fun cs x => match x with
  | .int i => .ok (.int (-i)) cs
  | _ => .no
theorem de_neg (ha : PE X a (tE G W fa)) : PE X (.UnaryOp .USub a pos) (tE G W (eUn gNeg fa)) := de_un un_neg (by
  intro ρ F st σ H x v Q r h1 p
  cases h1 <;> try exact p.elim
  exact ⟨_, rfl, p.here r (.int _)⟩) ha

/-! ### + and * of anything -/
/-- a list of one's own making -/
def ownOf (cs : List Cell) : D → Option (List D)
  | .lst ds => some ds
  | .loc n => match cs[n]? with
    | some (.lst ds) => some ds
    | _ => none
  | _ => none
theorem own_read {ρ : List Addr} {F : Hp} {st : S} {σ : St} {H : Hp} {x : D} {v : V} {ds : List D} (r : Rel G ρ F st σ H) (h : RV G.K ρ F x v) (e : ownOf st.cs x = some ds) : ∃ a vs, v = .ref a ∧ H a = some (.lst vs) ∧ RVs G.K ρ F ds vs := by
  cases h with
  | lst h1 h2 =>
    cases e
    exact ⟨_, _, rfl, r.fz _ _ h1, h2⟩
  | loc h1 =>
    rename_i n a
    have e : (match st.cs[n]? with
      | some (.lst ds) => some ds
      | _ => none) = some ds := e
    cases q : st.cs[n]? with
    | none => rw [q] at e; cases e
    | some c =>
      rw [q] at e
      cases c with
      | lst es =>
        cases e
        obtain ⟨vs, h2, h3⟩ := r.cell n _ _ q h1
        exact ⟨_, _, rfl, h2, h3⟩
      | _ => cases e
  | _ => cases e
def gCatL : F2 := fun cs x y => match ownOf cs x, ownOf cs y with
  | some xs, some ys => if xs.length + ys.length ≤ 16777216 then .ok (.lst (xs ++ ys)) cs else .no
  | _, _ => .no
def gAdd : F2 := fun cs x y => match x, y with
  | .int i, .int j => .ok (.int (i + j)) cs
  | .str i, .str j => if i.length + j.length ≤ 16777216 then .ok (.str (i ++ j)) cs else .no
  | .tup xs, .tup ys => if xs.length + ys.length ≤ 16777216 then .ok (.tup (xs ++ ys)) cs else .no
  | x, y => gCatL cs x y
theorem line_of {n : Nat} (h : n ≤ 16777216) : n ≤ sizeLine := by rw [sizeLine_eq]; exact h
theorem catL_of {ρ : List Addr} {F : Hp} {st : S} {σ : St} {H : Hp} {x y : D} {v w : V} {Q : VK} (r : Rel G ρ F st σ H) (h1 : RV G.K ρ F x v) (h2 : RV G.K ρ F y w) (p : Post RV G W ρ F st.env σ Q (gCatL st.cs x y)) : rCat v w H Q := by
  unfold gCatL at p
  cases e1 : ownOf st.cs x with
  | none => simp only [e1] at p; exact p.elim
  | some xs =>
    cases e2 : ownOf st.cs y with
    | none => simp only [e1, e2] at p; exact p.elim
    | some ys =>
      simp only [e1, e2] at p
      obtain ⟨a1, vs, rfl, s1, r1⟩ := own_read r h1 e1
      obtain ⟨a2, ws, rfl, s2, r2⟩ := own_read r h2 e2
      by_cases c : xs.length + ys.length ≤ 16777216
      · simp only [c, if_true] at p
        refine ⟨a1, a2, vs, ws, rfl, rfl, s1, s2, line_of (by rw [← r1.length, ← r2.length]; exact c), fun q hq => ?_⟩
        obtain ⟨x1, r3⟩ := r.fresh (o := .lst (vs ++ ws)) hq
        exact p _ _ _ _ x1 r3 (.lst upd_same ((r1.append r2).ext x1))
      · simp only [c, if_false] at p
        exact p.elim
def rAddA (K : PySem.W.Frag) : R2 := fun x y H Q => (rI0 (fun i j => .int (i + j)) x y H Q ∨ (∃ i j, x = .str i ∧ y = .str j ∧ i.length + j.length ≤ sizeLine ∧ Q (.str (i ++ j)) H)) ∨ (rCatA K x y H Q ∨ rCat x y H Q)
theorem op_addA : OpR X (binaryOp .Add) (rAddA X.K) := (op_add.or op_add_str).or (op_catA.or op_cat)
theorem v2_add : V2 G W (rAddA G.K.K) gAdd := by
  intro ρ F st σ H x y v w Q r h1 h2 p
  unfold gAdd at p
  split at p
  · cases h1; cases h2
    exact .inl (.inl ⟨_, _, rfl, rfl, p.here r (.int _)⟩)
  · cases h1; cases h2
    rename_i i j
    by_cases c : i.length + j.length ≤ 16777216
    · simp only [c, if_true] at p
      exact .inl (.inr ⟨_, _, rfl, rfl, line_of c, p.here r (.str _)⟩)
    · simp only [c, if_false] at p
      exact p.elim
  · rename_i xs ys
    by_cases c : xs.length + ys.length ≤ 16777216
    · simp only [c, if_true] at p
      obtain ⟨a1, vs, rfl, s1, r1⟩ := tup_read r h1 rfl
      obtain ⟨a2, ws, rfl, s2, r2⟩ := tup_read r h2 rfl
      refine .inr (.inl ⟨a1, a2, vs, ws, rfl, rfl, s1, s2, line_of (by rw [← r1.length, ← r2.length]; exact c), fun e => ?_, fun _ e => ?_, fun _ _ q hq => ?_⟩)
      · subst e
        cases r1
        exact p.here r h2
      · subst e
        cases r2
        rw [List.append_nil] at p
        exact p.here r h1
      · obtain ⟨x1, r3⟩ := r.fresh (o := .tup (vs ++ ws)) hq
        exact p _ _ _ _ x1 r3 (.tup (SqT.of upd_same) ((r1.append r2).ext x1))
    · simp only [c, if_false] at p
      exact p.elim
  · exact .inr (.inr (catL_of r h1 h2 p))
theorem de_add (hK : X.K = G.K.K) (ha : PE X a (tE G W fa)) (hb : PE X b (tE G W fb)) : PE X (.BinOp a .Add b pos) (tE G W (eOp gAdd fa fb)) := de_op op_addA (by rw [hK]; exact v2_add) ha hb
def gMul : F2 := fun cs x y => match x, y with
  | .int i, .int j => if cMul i j then .ok (.int (i * j)) cs else .no
  | x, .int k => match ownOf cs x with
    | some xs => if 0 ≤ k ∧ k ≤ 16777216 ∧ xs.length * k.toNat ≤ 16777216 then .ok (.lst (List.replicate k.toNat xs).flatten) cs else .no
    | none => .no
  | _, _ => .no
theorem RVs.rep {K : Kt} {ρ : List Addr} {F : Hp} {ds : List D} {vs : List V} (h : RVs K ρ F ds vs) : ∀ n : Nat, RVs K ρ F (List.replicate n ds).flatten (List.replicate n vs).flatten
  | 0 => .nil
  | n + 1 => by
    rw [List.replicate_succ, List.replicate_succ, List.flatten_cons, List.flatten_cons]
    exact h.append (RVs.rep h n)
theorem v2_mul : V2 G W (fun x y H Q => rI CMul (fun i j => .int (i * j)) x y H Q ∨ rRep x y H Q) gMul := by
  intro ρ F st σ H x y v w Q r h1 h2 p
  unfold gMul at p
  split at p
  · cases h1; cases h2
    rename_i i j
    by_cases c : cMul i j = true
    · simp only [c, if_true] at p
      refine .inl ⟨_, _, rfl, rfl, ?_, p.here r (.int _)⟩
      simp only [cMul, Bool.or_eq_true, Bool.and_eq_true, decide_eq_true_eq] at c
      exact c
    · simp only [c, if_false] at p
      exact p.elim
  · rename_i k _
    cases h2
    cases e1 : ownOf st.cs x with
    | none => simp only [e1] at p; exact p.elim
    | some xs =>
      simp only [e1] at p
      obtain ⟨a1, vs, rfl, s1, r1⟩ := own_read r h1 e1
      by_cases c : 0 ≤ k ∧ k ≤ 16777216 ∧ xs.length * k.toNat ≤ 16777216
      · simp only [c, if_true] at p
        refine .inr ⟨a1, k, vs, rfl, rfl, s1, by omega, by omega, line_of (by rw [← r1.length]; exact c.2.2), fun q hq => ?_⟩
        obtain ⟨x1, r3⟩ := r.fresh (o := .lst (List.replicate k.toNat vs).flatten) hq
        exact p _ _ _ _ x1 r3 (.lst upd_same ((r1.rep k.toNat).ext x1))
      · simp only [c, if_false] at p
        exact p.elim
  · exact p.elim
theorem de_mul (ha : PE X a (tE G W fa)) (hb : PE X b (tE G W fb)) : PE X (.BinOp a .Mult b pos) (tE G W (eOp gMul fa fb)) := de_op (op_mul.or op_rep) v2_mul ha hb

/-! ### deep == -/
mutual
def py : D → PyData
  | .non => .none
  | .bl b => .bool b
  | .int i => .int i
  | .str x => .str x
  | .tup ds => .tuple (pys ds)
  | .lst ds => .list (pys ds)
  | .frl ds => .list (pys ds)
  | .obj _ _ _ => .none
  | .cls _ => .none
  | .loc _ => .none
def pys : List D → List PyData
  | [] => []
  | d :: r => py d :: pys r
end
mutual
def plain : D → Bool
  | .non => true
  | .bl _ => true
  | .int _ => true
  | .str _ => true
  | .tup ds => plains ds
  | .lst ds => plains ds
  | .frl ds => plains ds
  | .obj _ _ _ => false
  | .cls _ => false
  | .loc _ => false
def plains : List D → Bool
  | [] => true
  | d :: r => plain d && plains r
end
mutual
theorem dp_of {K : Kt} {ρ : List Addr} {F H : Hp} (s : Same F H) : ∀ {d : D} {v : V}, RV K ρ F d v → plain d = true → Dp K.K H v (py d)
  | _, _, .non, _ => .non
  | _, _, .bl b, _ => .bl b
  | _, _, .int i, _ => .int i
  | _, _, .str x, _ => .str x
  | _, _, .tup h r, e => .tup (sqT_same s h) (dps_of s r (by simpa [plain] using e))
  | _, _, .lst h r, e => .lst (SqL.of (s _ _ h)) (dps_of s r (by simpa [plain] using e))
  | _, _, .frl h r, e => .lst (s.seq h) (dps_of s r (by simpa [plain] using e))
  | _, _, .cls _, e => by simp [plain] at e
theorem dps_of {K : Kt} {ρ : List Addr} {F H : Hp} (s : Same F H) : ∀ {ds : List D} {vs : List V}, RVs K ρ F ds vs → plains ds = true → DpAll K.K H vs (pys ds)
  | _, _, .nil, _ => .nil
  | _, _, .cons h r, e => by
    simp only [plains, Bool.and_eq_true] at e
    exact .cons (dp_of s h e.1) (dps_of s r e.2)
end
/-- what stands there, a cell opened -/
def norm (cs : List Cell) : D → D
  | .loc n => match cs[n]? with
    | some (.lst ds) => .lst ds
    | _ => .loc n
  | d => d
theorem dp_norm {ρ : List Addr} {F : Hp} {st : S} {σ : St} {H : Hp} {x : D} {v : V} (r : Rel G ρ F st σ H) (h : RV G.K ρ F x v) (e : plain (norm st.cs x) = true) : Dp G.K.K H v (py (norm st.cs x)) := by
  cases h with
  | loc h1 =>
    rename_i n a
    unfold norm at e ⊢
    simp only at e ⊢
    cases q : st.cs[n]? with
    | none => simp only [q, plain] at e; cases e
    | some c =>
      cases c with
      | lst es =>
        obtain ⟨vs, h2, h3⟩ := r.cell n _ _ q h1
        simp only [q, plain, py] at e ⊢
        exact .lst (SqL.of h2) (dps_of r.fz h3 e)
      | dk _ _ => simp only [q, plain] at e; cases e
      | ins _ _ _ => simp only [q, plain] at e; cases e
  | non => exact .non
  | bl b => exact .bl b
  | int i => exact .int i
  | str x => exact .str x
  | tup h r' => exact dp_of r.fz (.tup h r') e
  | lst h r' => exact dp_of r.fz (.lst h r') e
  | frl h r' => exact dp_of r.fz (.frl h r') e
  | cls C => exact dp_of (ρ := ρ) r.fz (.cls C) e
  | obj => cases e
def gEqB (neg : Bool) : F2 := fun cs x y =>
  let p := norm cs x
  let q := norm cs y
  if plain p && plain q && SeqAt.shaped (py p) && SeqAt.shaped (py q) then .ok (.bl (if neg then !PyData.eqv (py p) (py q) else PyData.eqv (py p) (py q))) cs else .no
theorem v2_eq : V2 G W (rEqD G.K.K) (gEqB false) := by
  intro ρ F st σ H x y v w Q r h1 h2 p
  unfold gEqB at p
  by_cases c : (plain (norm st.cs x) && plain (norm st.cs y) && SeqAt.shaped (py (norm st.cs x)) && SeqAt.shaped (py (norm st.cs y))) = true
  · simp only [c, if_true] at p
    simp only [Bool.and_eq_true] at c
    exact ⟨_, _, dp_norm r h1 c.1.1.1, dp_norm r h2 c.1.1.2, c.1.2, c.2, p.here r (.bl _)⟩
  · simp only [c, if_false] at p
    exact p.elim
theorem v2_ne : V2 G W (rNeD G.K.K) (gEqB true) := by
  intro ρ F st σ H x y v w Q r h1 h2 p
  unfold gEqB at p
  by_cases c : (plain (norm st.cs x) && plain (norm st.cs y) && SeqAt.shaped (py (norm st.cs x)) && SeqAt.shaped (py (norm st.cs y))) = true
  · simp only [c, if_true] at p
    simp only [Bool.and_eq_true] at c
    exact ⟨_, _, dp_norm r h1 c.1.1.1, dp_norm r h2 c.1.1.2, c.1.2, c.2, p.here r (.bl _)⟩
  · simp only [c, if_false] at p
    exact p.elim
theorem de_eq (hK : X.K = G.K.K) (hu : X.A.units + 64 < cLine) (ha : PE X a (tE G W fa)) (hb : PE X b (tE G W fb)) : PE X (.Compare a [.Eq] [b] pos) (tE G W (eOp (gEqB false) fa fb)) := de_cmp (op_eqD hu) (by rw [hK]; exact v2_eq) ha hb (nomark _)
theorem de_ne (hK : X.K = G.K.K) (hu : X.A.units + 64 < cLine) (ha : PE X a (tE G W fa)) (hb : PE X b (tE G W fb)) : PE X (.Compare a [.NotEq] [b] pos) (tE G W (eOp (gEqB true) fa fb)) := de_cmp (op_neD hu) (by rw [hK]; exact v2_ne) ha hb (nomark _)

/-! ### order, is -/
def gOrd (g : Int → Int → Bool) (h : List Nat → List Nat → Bool) : F2 := fun cs x y => match x, y with
  | .int i, .int j => .ok (.bl (g i j)) cs
  | .str i, .str j => .ok (.bl (h i.cps.toList j.cps.toList)) cs
  | _, _ => .no
theorem v2_ord {g : Int → Int → Bool} {h : List Nat → List Nat → Bool} : V2 G W (fun x y H Q => rI0 (fun i j => .bl (g i j)) x y H Q ∨ ∃ i j, x = .str i ∧ y = .str j ∧ Q (.bl (h i.cps.toList j.cps.toList)) H) (gOrd g h) := by
  intro ρ F st σ H x y v w Q r h1 h2 p
  unfold gOrd at p
  split at p
  · cases h1; cases h2
    exact .inl ⟨_, _, rfl, rfl, p.here r (.bl _)⟩
  · cases h1; cases h2
    exact .inr ⟨_, _, rfl, rfl, p.here r (.bl _)⟩
  · exact p.elim
def gLt : F2 := gOrd (fun i j => decide (i < j)) fun i j => decide (i < j)
def gLe : F2 := gOrd (fun i j => decide (i ≤ j)) fun i j => !decide (j < i)
def gGt : F2 := gOrd (fun i j => decide (j < i)) fun i j => decide (j < i)
def gGe : F2 := gOrd (fun i j => decide (j ≤ i)) fun i j => !decide (i < j)
theorem de_lt (ha : PE X a (tE G W fa)) (hb : PE X b (tE G W fb)) : PE X (.Compare a [.Lt] [b] pos) (tE G W (eOp gLt fa fb)) := de_cmp (op_lt.or op_lt_str) v2_ord ha hb (nomark _)
theorem de_le (ha : PE X a (tE G W fa)) (hb : PE X b (tE G W fb)) : PE X (.Compare a [.LtE] [b] pos) (tE G W (eOp gLe fa fb)) := de_cmp (op_le.or op_le_str) v2_ord ha hb (nomark _)
theorem de_gt (ha : PE X a (tE G W fa)) (hb : PE X b (tE G W fb)) : PE X (.Compare a [.Gt] [b] pos) (tE G W (eOp gGt fa fb)) := de_cmp (op_gt.or op_gt_str) v2_ord ha hb (nomark _)
theorem de_ge (ha : PE X a (tE G W fa)) (hb : PE X b (tE G W fb)) : PE X (.Compare a [.GtE] [b] pos) (tE G W (eOp gGe fa fb)) := de_cmp (op_ge.or op_ge_str) v2_ord ha hb (nomark _)
def isNon : D → Bool
  | .non => true
  | _ => false
theorem isNon_of {K : Kt} {ρ : List Addr} {F : Hp} {d : D} {v : V} (h : RV K ρ F d v) : decide (v = .non) = isNon d := by
  cases h <;> first | rfl | (exact decide_eq_false (fun z => nomatch z))
def gIs (neg : Bool) : F2 := fun cs x y => match x, y with
  | x, .non => .ok (.bl (if neg then !isNon x else isNon x)) cs
  | .bl i, .bl j => .ok (.bl (if neg then !decide (i = j) else decide (i = j))) cs
  | _, _ => .no
theorem de_is (ha : PE X a (tE G W fa)) (hb : PE X b (tE G W fb)) : PE X (.Compare a [.Is] [b] pos) (tE G W (eOp (gIs false) fa fb)) := de_cmp (op_isN.or op_isBl) (by
  intro ρ F st σ H x y v w Q r h1 h2 p
  unfold gIs at p
  split at p
  · cases h2
    refine .inl ⟨rfl, ?_⟩
    rw [isNon_of h1]
    exact p.here r (.bl _)
  · cases h1; cases h2
    exact .inr ⟨_, _, rfl, rfl, p.here r (.bl _)⟩
  · exact p.elim) ha hb (nomark _)
theorem de_isnot (ha : PE X a (tE G W fa)) (hb : PE X b (tE G W fb)) : PE X (.Compare a [.IsNot] [b] pos) (tE G W (eOp (gIs true) fa fb)) := de_cmp (op_notN.or op_notBl) (by
  intro ρ F st σ H x y v w Q r h1 h2 p
  unfold gIs at p
  split at p
  · cases h2
    refine .inl ⟨rfl, ?_⟩
    rw [isNon_of h1]
    exact p.here r (.bl _)
  · cases h1; cases h2
    exact .inr ⟨_, _, rfl, rfl, p.here r (.bl _)⟩
  · exact p.elim) ha hb (nomark _)

/-! ### in -/
def flatD : D → Bool
  | .non => true
  | .bl _ => true
  | .int _ => true
  | .str _ => true
  | _ => false
def eqF : D → D → Bool
  | .non, .non => true
  | .bl a, .bl b => a == b
  | .bl a, .int b => (if a then 1 else 0) == b
  | .int a, .bl b => a == (if b then 1 else 0)
  | .int a, .int b => a == b
  | .str a, .str b => a == b
  | _, _ => false
theorem flat_of {K : Kt} {ρ : List Addr} {F : Hp} {d : D} {v : V} (h : RV K ρ F d v) (e : flatD d = true) : flatV v = true := by
  cases h <;> first | rfl | cases e
theorem eqF_of {K : Kt} {ρ : List Addr} {F : Hp} {d d' : D} {v v' : V} (h : RV K ρ F d v) (h' : RV K ρ F d' v') (e : flatD d = true) (e' : flatD d' = true) : eqV v v' = eqF d d' := by
  cases h with
  | non => cases h' with
    | non => rfl
    | bl => rfl
    | int => rfl
    | str => rfl
    | _ => exact Bool.noConfusion e'
  | bl => cases h' with
    | non => rfl
    | bl => rfl
    | int => rfl
    | str => rfl
    | _ => exact Bool.noConfusion e'
  | int => cases h' with
    | non => rfl
    | bl => rfl
    | int => rfl
    | str => rfl
    | _ => exact Bool.noConfusion e'
  | str => cases h' with
    | non => rfl
    | bl => rfl
    | int => rfl
    | str => rfl
    | _ => exact Bool.noConfusion e'
  | _ => exact Bool.noConfusion e
def inD (x : D) (ds : List D) : Bool := ds.any fun y => eqF y x
theorem inD_of {K : Kt} {ρ : List Addr} {F : Hp} {d : D} {v : V} (h : RV K ρ F d v) (e : flatD d = true) : ∀ {ds : List D} {vs : List V}, RVs K ρ F ds vs → ds.all flatD = true → vs.all flatV = true ∧ inV v vs = inD d ds
  | _, _, .nil, _ => ⟨rfl, rfl⟩
  | _, _, .cons h' r, f => by
    rw [List.all_cons, Bool.and_eq_true] at f
    obtain ⟨q1, q2⟩ := inD_of h e r f.2
    refine ⟨by rw [List.all_cons, flat_of h' f.1, q1]; rfl, ?_⟩
    unfold inV inD at q2 ⊢
    rw [List.any_cons, List.any_cons, eqF_of h' h f.1 e, q2]
/-- one sign -/
def sign1 (x : Str) : Option Nat := match x.cps.toList with
  | [c] => some c
  | _ => none
def gIn (neg : Bool) : F2 := fun cs x y => match x, y with
  | .str s, .str z => match sign1 s with
    | some c => .ok (.bl (if neg then !decide (c ∈ z.cps.toList) else decide (c ∈ z.cps.toList))) cs
    | none => .no
  | x, y => match seqOf cs y with
    | some ds => if flatD x && ds.all flatD then .ok (.bl (if neg then !inD x ds else inD x ds)) cs else .no
    | none => .no
theorem sign1_eq {x : Str} {c : Nat} (h : sign1 x = some c) : x = ⟨#[c]⟩ := by
  unfold sign1 at h
  obtain ⟨⟨l⟩⟩ := x
  cases l with
  | nil => cases h
  | cons a l =>
    cases l with
    | nil => cases h; rfl
    | cons b l => cases h
theorem in_of {neg : Bool} {ρ : List Addr} {F : Hp} {st : S} {σ : St} {H : Hp} {x y : D} {v w : V} {Q : VK} (r : Rel G ρ F st σ H) (h1 : RV G.K ρ F x v) (h2 : RV G.K ρ F y w) (p : Post RV G W ρ F st.env σ Q (gIn neg st.cs x y)) :
    (∃ (c : Nat) (z : Str), v = .str ⟨#[c]⟩ ∧ w = .str z ∧ Q (.bl (if neg then !decide (c ∈ z.cps.toList) else decide (c ∈ z.cps.toList))) H) ∨ rIn G.K.K neg v w H Q := by
  unfold gIn at p
  split at p
  · cases h1; cases h2
    rename_i s z
    cases e : sign1 s with
    | none => simp only [e] at p; exact p.elim
    | some c =>
      simp only [e] at p
      have := sign1_eq e
      subst this
      exact .inl ⟨c, z, rfl, rfl, p.here r (.bl _)⟩
  · cases e : seqOf st.cs y with
    | none => simp only [e] at p; exact p.elim
    | some ds =>
      simp only [e] at p
      by_cases c : (flatD x && ds.all flatD) = true
      · simp only [c, if_true] at p
        obtain ⟨a2, ws, rfl, s2, r2⟩ := seq_read r h2 e
        rw [Bool.and_eq_true] at c
        obtain ⟨q1, q2⟩ := inD_of h1 c.1 r2 c.2
        refine .inr ⟨a2, ws, rfl, s2, flat_of h1 c.1, q1, ?_⟩
        rw [q2]
        exact p.here r (.bl _)
      · simp only [c, if_false] at p
        exact p.elim
theorem de_in (hK : X.K = G.K.K) (ha : PE X a (tE G W fa)) (hb : PE X b (tE G W fb)) (hm : behindInMarks .In b = false := by rfl) : PE X (.Compare a [.In] [b] pos) (tE G W (eOp (gIn false) fa fb)) :=
  de_cmp (op_in_sign.or op_in_seq) (by rw [hK]; exact fun ρ F st σ H x y v w Q r h1 h2 p => in_of r h1 h2 p) ha hb hm
theorem de_notin (hK : X.K = G.K.K) (ha : PE X a (tE G W fa)) (hb : PE X b (tE G W fb)) (hm : behindInMarks .NotIn b = false := by rfl) : PE X (.Compare a [.NotIn] [b] pos) (tE G W (eOp (gIn true) fa fb)) :=
  de_cmp (op_notIn_sign.or op_notIn_seq) (by rw [hK]; exact fun ρ F st σ H x y v w Q r h1 h2 p => in_of r h1 h2 p) ha hb hm
end
end VL

namespace VL
open PySem L2
section
variable {X : Cx} {G : Gx} {W : WX} {a b c e : Expr} {es : List Expr} {fa fb fc : Ex} {pos : Pos}
/-! ### arguments, displays -/
abbrev Ax := S → Out (List D)
def aNil : Ax := fun st => .ok [] st.cs
def aCons (f : Ex) (g : Ax) : Ax := fun st => (f st).bind fun x c1 => (g ⟨st.env, c1⟩).bind fun xs c2 => .ok (x :: xs) c2
theorem da_nil : PA X [] (tAs G W aNil) := pa_nil.impV fun σ H Q ⟨ρ, F, st, r, p⟩ => p.here r .nil
theorem da_cons {g : Ax} (h : PE X e (tE G W fa)) (hr : PA X es (tAs G W g)) (hs : starEach (e :: es) X.env = (false, eval e X.env) :: starEach es X.env := by rfl) : PA X (e :: es) (tAs G W (aCons fa g)) :=
  (pa_cons h hr hs).impV fun σ H Q ⟨ρ, F, st, r, p⟩ => seqX r p fun ρ1 F1 H1 x c1 v x1 r1 rv1 p1 => seqX (st := ⟨st.env, c1⟩) r1 p1 fun ρ2 F2 H2 xs c2 vs x2 r2 rv2 p2 => p2.here (st := ⟨st.env, c2⟩) r2 (.cons (rv1.ext x2) rv2)
def eTup (g : Ax) : Ex := fun st => (g st).bind fun xs c1 => if xs.length ≤ 16777216 then .ok (.tup xs) c1 else .no
theorem de_tup {g : Ax} {x1} (h : PA X es (tAs G W g)) : PE X (.Tuple es x1 pos) (tE G W (eTup g)) :=
  (pe_tup h).impV fun σ H Q ⟨ρ, F, st, r, p⟩ => seqX r p fun ρ1 F1 H1 xs c1 vs x1 r1 rv1 p1 => by
    by_cases c : xs.length ≤ 16777216
    · simp only [c, if_true] at p1
      refine ⟨line_of (by rw [← rv1.length]; exact c), fun q hq => ?_⟩
      obtain ⟨x2, r2⟩ := r1.fresh (o := .tup vs) hq
      exact p1 _ _ _ _ x2 r2 (.tup (SqT.of upd_same) (rv1.ext x2))
    · simp only [c, if_false] at p1
      exact p1.elim
/-- a list that stays as it is -/
def eLst (g : Ax) : Ex := fun st => (g st).bind fun xs c1 => if xs.length ≤ 16777216 then .ok (.lst xs) c1 else .no
theorem de_lst {g : Ax} (h : PA X es (tAs G W g)) : PE X (.List es pos) (tE G W (eLst g)) :=
  (pe_lst h).impV fun σ H Q ⟨ρ, F, st, r, p⟩ => seqX r p fun ρ1 F1 H1 xs c1 vs x1 r1 rv1 p1 => by
    by_cases c : xs.length ≤ 16777216
    · simp only [c, if_true] at p1
      refine ⟨line_of (by rw [← rv1.length]; exact c), fun q hq => ?_⟩
      obtain ⟨x2, r2⟩ := r1.fresh (o := .lst vs) hq
      exact p1 _ _ _ _ x2 r2 (.lst upd_same (rv1.ext x2))
    · simp only [c, if_false] at p1
      exact p1.elim
/-- a new own cell -/
def newCell (ds : List D) (cs : List Cell) : Out D := .ok (.loc cs.length) (cs ++ [.lst ds])
theorem newCell_of {ρ : List Addr} {F : Hp} {st : S} {σ : St} {H : Hp} {ds : List D} {vs : List V} {q : Addr} {Q : VK} (r : Rel G ρ F st σ H) (rv : RVs G.K ρ F ds vs) (hq : H q = none) (p : Post RV G W ρ F st.env σ Q (newCell ds st.cs)) : Q (.ref q) (upd H q (.lst vs)) := by
  have y : Ext ρ F (ρ ++ [q]) F := ⟨List.prefix_append _ _, Same.refl _⟩
  obtain ⟨x2, r2⟩ := r.cellNew (p := q) (o := .lst vs) (c := .lst ds) hq ⟨vs, upd_same, rv.ext y⟩
  refine p _ _ _ _ x2 r2 (.loc ?_)
  rw [← r.cl, List.getElem?_append_right (Nat.le_refl _), Nat.sub_self]
  rfl
def eLoc (g : Ax) : Ex := fun st => (g st).bind fun xs c1 => if xs.length ≤ 16777216 then newCell xs c1 else .no
theorem de_loc {g : Ax} (h : PA X es (tAs G W g)) : PE X (.List es pos) (tE G W (eLoc g)) :=
  (pe_lst h).impV fun σ H Q ⟨ρ, F, st, r, p⟩ => seqX r p fun ρ1 F1 H1 xs c1 vs x1 r1 rv1 p1 => by
    by_cases c : xs.length ≤ 16777216
    · simp only [c, if_true] at p1
      exact ⟨line_of (by rw [← rv1.length]; exact c), fun q hq => newCell_of (st := ⟨st.env, c1⟩) r1 rv1 hq p1⟩
    · simp only [c, if_false] at p1
      exact p1.elim
/-! ### subscripts -/
def gIx : F2 := fun cs x y => match x, y with
  | .str z, .int i => if z.length ≤ 16777216 then (match atI z.cps.toList i with
    | some c => .ok (.str ⟨#[c]⟩) cs
    | none => .no) else .no
  | x, .int i => match seqOf cs x with
    | some ds => (match atI ds i with
      | some d => .ok d cs
      | none => .no)
    | none => .no
  | _, _ => .no
theorem atI_rel {K : Kt} {ρ : List Addr} {F : Hp} {ds : List D} {vs : List V} {i : Int} {d : D} (r : RVs K ρ F ds vs) (h : atI ds i = some d) : ∃ v, atI vs i = some v ∧ RV K ρ F d v := by
  unfold atI at h ⊢
  rw [← r.length]
  cases q : ixN ds.length i with
  | none => rw [q] at h; cases h
  | some j =>
    rw [q] at h
    exact r.get h
theorem v2_ix : V2 G W (rIx G.K.K) gIx := by
  intro ρ F st σ H x y v w Q r h1 h2 p
  unfold gIx at p
  split at p
  · cases h1; cases h2
    rename_i z i
    by_cases c : z.length ≤ 16777216
    · simp only [c, if_true] at p
      cases q : atI z.cps.toList i with
      | none => simp only [q] at p; exact p.elim
      | some k =>
        simp only [q] at p
        exact .inr (.inr ⟨_, _, k, rfl, rfl, line_of c, q, p.here r (.str _)⟩)
    · simp only [c, if_false] at p
      exact p.elim
  · cases h2
    rename_i i _
    cases q : seqOf st.cs x with
    | none => simp only [q] at p; exact p.elim
    | some ds =>
      simp only [q] at p
      cases q2 : atI ds i with
      | none => simp only [q2] at p; exact p.elim
      | some d =>
        simp only [q2] at p
        obtain ⟨a2, ws, rfl, s2, r2⟩ := seq_read r h1 q
        obtain ⟨u, e1, e2⟩ := atI_rel r2 q2
        rcases s2 with s2 | s2
        · exact .inl ⟨_, _, _, u, rfl, rfl, s2, e1, p.here r e2⟩
        · exact .inr (.inl ⟨_, _, _, u, rfl, rfl, s2, e1, p.here r e2⟩)
  · exact p.elim
theorem de_ix (hK : X.K = G.K.K) (ha : PE X a (tE G W fa)) (hb : PE X b (tE G W fb)) (hs : PlainIx b := by intro _ _; rfl) : PE X (.Subscript a b pos) (tE G W (eOp gIx fa fb)) := by
  refine (pe_ix ix_seq ha hb hs).impV (tOp_of ?_)
  rw [hK]
  exact v2_ix
/-! ### slices -/
def cutD (xs : List D) (lo hi : Option Int) : List D := (xs.drop (HT.sIx xs.length 0 lo)).take (HT.sIx xs.length xs.length hi - HT.sIx xs.length 0 lo)
theorem cut_rel {K : Kt} {ρ : List Addr} {F : Hp} {ds : List D} {vs : List V} {lo hi : Option Int} (r : RVs K ρ F ds vs) : RVs K ρ F (cutD ds lo hi) (cutV vs lo hi) := by
  unfold cutD cutV
  rw [r.length]
  exact (r.drop _).take _
def RO (_ : Kt) (_ : List Addr) (_ : Hp) (a b : Option Int) : Prop := a = b
abbrev tOs := @tX (Option Int) (Option Int) RO
abbrev Ox := S → Out (Option Int)
def oNone : Ox := fun st => .ok none st.cs
def oSome (f : Ex) : Ox := fun st => (f st).bind fun x c1 => match x with
  | .int i => .ok (some i) c1
  | _ => .no
theorem _root_.L2.PO.impV {X : Cx} {e : Option Expr} {t t' : TO} (h : PO X e t) (m : ∀ σ H Q, t' σ H Q → t σ H Q) : PO X e t' := ⟨fun pins s σ H Q I hw => h.run pins s σ H Q I (m _ _ _ hw)⟩
theorem do_none : PO X none (tOs G W oNone) := po_none.impV fun σ H Q ⟨ρ, F, st, r, p⟩ => p.here r rfl
theorem do_some (h : PE X e (tE G W fa)) : PO X (some e) (tOs G W (oSome fa)) := (po_some h).impV fun σ H Q ⟨ρ, F, st, r, p⟩ => seqX r p fun ρ1 F1 H1 x c1 v x1 r1 rv1 p1 => by
  cases rv1 <;> first
    | exact ⟨_, rfl, p1.here (st := ⟨st.env, c1⟩) r1 rfl⟩
    | exact p1.elim
/-- a slice; new: an own cell of a list's -/
def gSl (own : Bool) (cs : List Cell) (x : D) (lo hi : Option Int) : Out D := match x with
  | .str z => if z.length ≤ 16777216 then .ok (.str (cutS z lo hi)) cs else .no
  | .tup xs => .ok (.tup (cutD xs lo hi)) cs
  | x => match lstOf cs x with
    | some xs => if own then newCell (cutD xs lo hi) cs else .ok (.lst (cutD xs lo hi)) cs
    | none => .no
def eSl (own : Bool) (f : Ex) (l h : Ox) : Ex := fun st => (f st).bind fun x c1 => (l ⟨st.env, c1⟩).bind fun lo c2 => (h ⟨st.env, c2⟩).bind fun hi c3 => gSl own c3 x lo hi
def rSlAny (K : PySem.W.Frag) : V → Option Int → Option Int → Hp → VK → Prop := fun x lo hi H Q => rSlS x lo hi H Q ∨ (rSlA K x lo hi H Q ∨ rSlL K x lo hi H Q)
theorem sl_any : SlR X (rSlAny X.K) := SlR.or sl_str (SlR.or sl_tupA sl_list)
theorem cut_whole {K : PySem.W.Frag} {vs : List V} {lo hi : Option Int} (h : HT.sIx vs.length 0 lo = 0 ∧ HT.sIx vs.length vs.length hi = vs.length) : cutV vs lo hi = vs := by
  unfold cutV
  rw [h.1, h.2, List.drop_zero, Nat.sub_zero, List.take_length]
theorem sl_of {own : Bool} {ρ : List Addr} {F : Hp} {st : S} {σ : St} {H : Hp} {x : D} {v : V} {lo hi : Option Int} {Q : VK} (r : Rel G ρ F st σ H) (h1 : RV G.K ρ F x v) (p : Post RV G W ρ F st.env σ Q (gSl own st.cs x lo hi)) : rSlAny G.K.K v lo hi H Q := by
  unfold gSl at p
  split at p
  · cases h1
    rename_i z
    by_cases c : z.length ≤ 16777216
    · simp only [c, if_true] at p
      exact .inl ⟨_, rfl, line_of c, p.here r (.str _)⟩
    · simp only [c, if_false] at p
      exact p.elim
  · rename_i xs
    obtain ⟨a2, ws, rfl, s2, r2⟩ := tup_read r h1 rfl
    refine .inr (.inl ⟨a2, ws, rfl, s2, fun hw => ?_, fun hw q hq => ?_⟩)
    · have e1 : cutD xs lo hi = xs := by
        unfold cutD
        rw [r2.length, hw.1, hw.2, List.drop_zero, Nat.sub_zero, ← r2.length, List.take_length]
      rw [e1] at p
      exact p.here r h1
    · obtain ⟨x2, r3⟩ := r.fresh (o := .tup (cutV ws lo hi)) hq
      exact p _ _ _ _ x2 r3 (.tup (SqT.of upd_same) ((cut_rel r2).ext x2))
  · cases q : lstOf st.cs x with
    | none => simp only [q] at p; exact p.elim
    | some xs =>
      simp only [q] at p
      obtain ⟨a2, ws, rfl, s2, r2⟩ := lst_read r h1 q
      refine .inr (.inr ⟨a2, ws, rfl, s2, fun q hq => ?_⟩)
      cases own with
      | true =>
        exact newCell_of r (cut_rel r2) hq p
      | false =>
        obtain ⟨x2, r3⟩ := r.fresh (o := .lst (cutV ws lo hi)) hq
        exact p _ _ _ _ x2 r3 (.lst upd_same ((cut_rel r2).ext x2))
theorem de_slice {own : Bool} {lo hi : Option Expr} {fl fh : Ox} {p2 : Pos} (hK : X.K = G.K.K) (ha : PE X a (tE G W fa)) (hl : PO X lo (tOs G W fl)) (hh : PO X hi (tOs G W fh)) : PE X (.Subscript a (.Slice lo hi none p2) pos) (tE G W (eSl own fa fl fh)) :=
  (pe_slice sl_any ha hl hh).impV fun σ H Q ⟨ρ, F, st, r, p⟩ => seqX r p fun ρ1 F1 H1 x c1 v x1 r1 rv1 p1 => seqX (R := RO) (st := ⟨st.env, c1⟩) r1 p1 fun ρ2 F2 H2 lo c2 lo' x2 r2 e2 p2 => seqX (R := RO) (st := ⟨st.env, c2⟩) r2 p2 fun ρ3 F3 H3 hi c3 hi' x3 r3 e3 p3 => by
    have e2 : lo = lo' := e2
    have e3 : hi = hi' := e3
    subst e2 e3
    rw [hK]
    exact sl_of (st := ⟨st.env, c3⟩) r3 ((rv1.ext x2).ext x3) p3
/-- xs[::-1] -/
def gRev (cs : List Cell) (x : D) : Out D := match lstOf cs x with
  | some xs => .ok (.lst xs.reverse) cs
  | none => .no
def gRevLoc (cs : List Cell) (x : D) : Out D := match lstOf cs x with
  | some xs => newCell xs.reverse cs
  | none => .no
theorem de_rev {k : Nat} {p1 p2 p3 : Pos} (hK : X.K = G.K.K) (ha : PE X a (tE G W fa)) : PE X (.Subscript a (.Slice none none (some (.UnaryOp .USub (.Constant (.int 1) k p1) p2)) p3) pos) (tE G W (eUn gRev fa)) :=
  (pe_revL ha).impV fun σ H Q ⟨ρ, F, st, r, p⟩ => seqX r p fun ρ1 F1 H1 x c1 v x1 r1 rv1 p1 => by
    unfold gRev at p1
    cases q : lstOf c1 x with
    | none => simp only [q] at p1; exact p1.elim
    | some xs =>
      simp only [q] at p1
      obtain ⟨a2, ws, rfl, s2, r2⟩ := lst_read (st := ⟨st.env, c1⟩) r1 rv1 q
      rw [hK]
      refine ⟨a2, ws, rfl, s2, fun q hq => ?_⟩
      obtain ⟨x2, r3⟩ := r1.fresh (o := .lst ws.reverse) hq
      exact p1 _ _ _ _ x2 r3 (.lst upd_same (r2.reverse.ext x2))
/-! ### truth, tests -/
def truD (cs : List Cell) : D → Option Bool
  | .non => some false
  | .bl b => some b
  | .int i => some (i != 0)
  | .str y => if y.length ≤ 16777216 then some ((y.length : Int) != 0) else none
  | d => (seqOf cs d).map fun xs => !xs.isEmpty
theorem isEmpty_len {α β : Type} {xs : List α} {ys : List β} (h : xs.length = ys.length) : xs.isEmpty = ys.isEmpty := by
  cases xs <;> cases ys <;> simp_all
theorem tru_of {ρ : List Addr} {F : Hp} {st : S} {σ : St} {H : Hp} {x : D} {v : V} {k : Bool} (r : Rel G ρ F st σ H) (h : RV G.K ρ F x v) (e : truD st.cs x = some k) : TruV G.K.K v H k := by
  have main : ∀ {y : D}, RV G.K ρ F y v → (seqOf st.cs y).map (fun xs => !xs.isEmpty) = some k → TruV G.K.K v H k := fun {y} hy e => by
    cases q : seqOf st.cs y with
    | none => rw [q] at e; cases e
    | some xs =>
      rw [q] at e
      cases e
      obtain ⟨a2, ws, rfl, s2, r2⟩ := seq_read r hy q
      rcases s2 with s2 | s2
      · exact .inl ⟨ws, s2, by show (!xs.isEmpty) = _; rw [isEmpty_len r2.length]⟩
      · exact .inr (.inl ⟨ws, s2, by show (!xs.isEmpty) = _; rw [isEmpty_len r2.length]⟩)
  cases h with
  | non => exact (Option.some.inj e).symm
  | bl b => exact (Option.some.inj e).symm
  | int i => exact (Option.some.inj e).symm
  | str y =>
    unfold truD at e
    by_cases c : y.length ≤ 16777216
    · simp only [c, if_true] at e
      exact ⟨line_of c, (Option.some.inj e).symm⟩
    · simp only [c, if_false] at e
      cases e
  | tup h1 h2 => exact main (.tup h1 h2) e
  | lst h1 h2 => exact main (.lst h1 h2) e
  | frl h1 h2 => exact main (.frl h1 h2) e
  | obj h1 h2 h3 => cases e
  | cls C => cases e
  | loc h1 => exact main (.loc h1) e
abbrev Tx := S → Out Bool
def tTru (f : Ex) : Tx := fun st => (f st).bind fun x c1 => match truD c1 x with
  | some k => .ok k c1
  | none => .no
theorem truStep {ρ : List Addr} {F : Hp} {st : S} {σ : St} {H : Hp} {x : D} {v : V} {β γ : Type} {R : Kt → List Addr → Hp → β → γ → Prop} {Q : γ → Hp → Prop} {kk : Bool → Out β} (r : Rel G ρ F st σ H) (h : RV G.K ρ F x v)
    (p : Post R G W ρ F st.env σ Q (match truD st.cs x with
      | some k => kk k
      | none => .no)) : ∃ k, TruV G.K.K v H k ∧ Post R G W ρ F st.env σ Q (kk k) := by
  cases q : truD st.cs x with
  | none => simp only [q] at p; exact p.elim
  | some k =>
    simp only [q] at p
    exact ⟨k, tru_of r h q, p⟩
theorem dt_tru (hK : X.K = G.K.K) (ha : PE X a (tE G W fa)) (he : ∀ whole, isTrue a X.env whole = (do let v ← whole; standAt a.pos; holding [v] (truthy v)) := by intro _; rfl) : PT X a (tTs G W (tTru fa)) :=
  (pt_truth ha he).impV fun σ H Q ⟨ρ, F, st, r, p⟩ => seqX r p fun ρ1 F1 H1 x c1 v x1 r1 rv1 p1 => by
    obtain ⟨k, t, p2⟩ := truStep (st := ⟨st.env, c1⟩) (kk := fun k => .ok k c1) r1 rv1 p1
    rw [hK]
    exact ⟨k, t, p2.here (st := ⟨st.env, c1⟩) r1 rfl⟩
def tAnd' (f g : Tx) : Tx := fun st => (f st).bind fun k c1 => if k then g ⟨st.env, c1⟩ else .ok false c1
def tOr' (f g : Tx) : Tx := fun st => (f st).bind fun k c1 => if k then .ok true c1 else g ⟨st.env, c1⟩
def tNot' (f : Tx) : Tx := fun st => (f st).bind fun k c1 => .ok (!k) c1
theorem _root_.L2.PW.impV {X : Cx} {e : Expr} {t t' : TT} (h : PW X e t) (m : ∀ σ H Q, t' σ H Q → t σ H Q) : PW X e t' := ⟨fun wh pins s σ H Q I hw => h.run wh pins s σ H Q I (m _ _ _ hw)⟩
variable {f g : Tx} {rest : List Expr}
theorem tX_of {α β : Type} {R : Kt → List Addr → Hp → α → β → Prop} {ρ : List Addr} {F : Hp} {st : S} {σ : St} {H : Hp} {f : S → Out α} {Q : β → Hp → Prop} (r : Rel G ρ F st σ H) (p : Post R G W ρ F st.env σ Q (f st)) : tX R G W f σ H Q := ⟨ρ, F, st, r, p⟩
theorem dw_and1 (ha : PT X a (tTs G W f)) : PW X (.BoolOp .And [a] pos) (tTs G W f) := pw_and1 ha
theorem dw_or1 (ha : PT X a (tTs G W f)) : PW X (.BoolOp .Or [a] pos) (tTs G W f) := pw_or1 ha
theorem dw_and (ha : PT X a (tTs G W f)) (hb : PW X (.BoolOp .And (b :: rest) pos) (tTs G W g)) : PW X (.BoolOp .And (a :: b :: rest) pos) (tTs G W (tAnd' f g)) :=
  (pw_and ha hb).impV fun σ H Q ⟨ρ, F, st, r, p⟩ => seqX (R := RB) r p fun ρ1 F1 H1 k c1 k' x1 r1 e p1 => by
    have e : k = k' := e
    subst e
    cases k with
    | true =>
      rw [if_pos rfl] at p1 ⊢
      exact tX_of (st := ⟨st.env, c1⟩) r1 p1
    | false =>
      rw [if_neg (by decide)] at p1 ⊢
      exact p1.here (st := ⟨st.env, c1⟩) r1 rfl
theorem dw_or (ha : PT X a (tTs G W f)) (hb : PW X (.BoolOp .Or (b :: rest) pos) (tTs G W g)) : PW X (.BoolOp .Or (a :: b :: rest) pos) (tTs G W (tOr' f g)) :=
  (pw_or ha hb).impV fun σ H Q ⟨ρ, F, st, r, p⟩ => seqX (R := RB) r p fun ρ1 F1 H1 k c1 k' x1 r1 e p1 => by
    have e : k = k' := e
    subst e
    cases k with
    | true =>
      rw [if_pos rfl] at p1 ⊢
      exact p1.here (st := ⟨st.env, c1⟩) r1 rfl
    | false =>
      rw [if_neg (by decide)] at p1 ⊢
      exact tX_of (st := ⟨st.env, c1⟩) r1 p1
theorem dt_w (h : PW X a (tTs G W f)) : PT X a (tTs G W f) := h.pt
theorem dt_not (ha : PT X a (tTs G W f)) : PT X (.UnaryOp .Not a pos) (tTs G W (tNot' f)) :=
  (pt_not ha).impV fun σ H Q ⟨ρ, F, st, r, p⟩ => seqX (R := RB) r p fun ρ1 F1 H1 k c1 k' x1 r1 e p1 => by
    have e : k = k' := e
    subst e
    exact p1.here (st := ⟨st.env, c1⟩) r1 rfl
def eIf (t : Tx) (fa fb : Ex) : Ex := fun st => (t st).bind fun k c1 => if k then fa ⟨st.env, c1⟩ else fb ⟨st.env, c1⟩
theorem de_if (hc : PT X c (tTs G W f)) (ha : PE X a (tE G W fa)) (hb : PE X b (tE G W fb)) : PE X (.IfExp c a b pos) (tE G W (eIf f fa fb)) :=
  (pe_ifExp hc ha hb).impV fun σ H Q ⟨ρ, F, st, r, p⟩ => seqX (R := RB) r p fun ρ1 F1 H1 k c1 k' x1 r1 e p1 => by
    have e : k = k' := e
    subst e
    cases k with
    | true =>
      rw [if_pos rfl] at p1 ⊢
      exact tX_of (st := ⟨st.env, c1⟩) r1 p1
    | false =>
      rw [if_neg (by decide)] at p1 ⊢
      exact tX_of (st := ⟨st.env, c1⟩) r1 p1
/-- x and y, x or y, not x as values -/
def eAnd (fa fb : Ex) : Ex := fun st => (fa st).bind fun x c1 => match truD c1 x with
  | some k => if k then fb ⟨st.env, c1⟩ else .ok x c1
  | none => .no
def eOr (fa fb : Ex) : Ex := fun st => (fa st).bind fun x c1 => match truD c1 x with
  | some k => if k then .ok x c1 else fb ⟨st.env, c1⟩
  | none => .no
def eNot (fa : Ex) : Ex := fun st => (fa st).bind fun x c1 => match truD c1 x with
  | some k => .ok (.bl (!k)) c1
  | none => .no
theorem de_one {op} (h : PE X a (tE G W fa)) : PE X (.BoolOp op [a] pos) (tE G W fa) := pe_one h
theorem de_and (hK : X.K = G.K.K) (ha : PE X a (tE G W fa)) (hb : PE X (.BoolOp .And (b :: rest) pos) (tE G W fb)) : PE X (.BoolOp .And (a :: b :: rest) pos) (tE G W (eAnd fa fb)) :=
  (pe_andT ha hb).impV fun σ H Q ⟨ρ, F, st, r, p⟩ => seqX r p fun ρ1 F1 H1 x c1 v x1 r1 rv1 p1 => by
    obtain ⟨k, t, p2⟩ := truStep (st := ⟨st.env, c1⟩) (kk := fun k => if k then fb ⟨st.env, c1⟩ else .ok x c1) r1 rv1 p1
    rw [hK]
    refine ⟨k, t, ?_⟩
    cases k with
    | true => exact tX_of (st := ⟨st.env, c1⟩) r1 p2
    | false => exact p2.here (st := ⟨st.env, c1⟩) r1 rv1
theorem de_or (hK : X.K = G.K.K) (ha : PE X a (tE G W fa)) (hb : PE X (.BoolOp .Or (b :: rest) pos) (tE G W fb)) : PE X (.BoolOp .Or (a :: b :: rest) pos) (tE G W (eOr fa fb)) :=
  (pe_orT ha hb).impV fun σ H Q ⟨ρ, F, st, r, p⟩ => seqX r p fun ρ1 F1 H1 x c1 v x1 r1 rv1 p1 => by
    obtain ⟨k, t, p2⟩ := truStep (st := ⟨st.env, c1⟩) (kk := fun k => if k then .ok x c1 else fb ⟨st.env, c1⟩) r1 rv1 p1
    rw [hK]
    refine ⟨k, t, ?_⟩
    cases k with
    | true => exact p2.here (st := ⟨st.env, c1⟩) r1 rv1
    | false => exact tX_of (st := ⟨st.env, c1⟩) r1 p2
theorem de_not (hK : X.K = G.K.K) (ha : PE X a (tE G W fa)) : PE X (.UnaryOp .Not a pos) (tE G W (eNot fa)) :=
  (pe_notT ha).impV fun σ H Q ⟨ρ, F, st, r, p⟩ => seqX r p fun ρ1 F1 H1 x c1 v x1 r1 rv1 p1 => by
    obtain ⟨k, t, p2⟩ := truStep (st := ⟨st.env, c1⟩) (kk := fun k => Out.ok (D.bl (!k)) c1) r1 rv1 p1
    rw [hK]
    exact ⟨k, t, p2.here (st := ⟨st.env, c1⟩) r1 (.bl _)⟩
/-! ### an attribute of a frozen object, of an own one -/
def lookD (f : Str) : List Str → List D → Option D
  | k :: ks, d :: ds => if f = k then some d else lookD f ks ds
  | _, _ => none
theorem look_rel {K : Kt} {ρ : List Addr} {F : Hp} {f : Str} : ∀ {ks : List Str} {ds : List D} {vs : List V} {d : D}, RVs K ρ F ds vs → lookD f ks ds = some d → ∃ v, (ks.zip vs).lookup f = some v ∧ RV K ρ F d v
  | [], _, _, _, _, e => by cases e
  | _ :: _, _, _, _, .nil, e => by cases e
  | k :: ks, _, _, _, .cons h r, e => by
    unfold lookD at e
    rw [List.zip_cons_cons, List.lookup_cons]
    by_cases c : f = k
    · rw [if_pos c] at e
      cases e
      rw [show (f == k) = true from beq_iff_eq.mpr c]
      exact ⟨_, rfl, h⟩
    · rw [if_neg c] at e
      rw [show (f == k) = false from beq_eq_false_iff_ne.mpr c]
      exact look_rel r e
/-- the class at c tells nothing of f: it is a field of its instances -/
structure FldOk (K : Kt) (c : Nat) (f : Str) : Prop where
  cl : Cls K.K (K.κ c)
  no : NoAttr K.K (K.κ c) f
def gFldC (cn : Nat) (f : Str) : F1 := fun cs x => match x with
  | .obj C ks ds => if C = cn then (match lookD f ks ds with
    | some d => .ok d cs
    | none => .no) else .no
  | .loc n => (match cs[n]? with
    | some (.ins C ks ds) => if C = cn then (match lookD f ks ds with
      | some d => .ok d cs
      | none => .no) else .no
    | _ => .no)
  | _ => .no
theorem de_fld {cn : Nat} {f : Str} (hK : X.K = G.K.K) (hf : FldOk G.K cn f) (ha : PE X a (tE G W fa)) (hb : attributeBase a f X.env (eval a X.env) = eval a X.env := by rfl) : PE X (.Attribute a f pos) (tE G W (eUn (gFldC cn f) fa)) :=
  (pe_fld ha hb).impV fun σ H Q ⟨ρ, F, st, r, p⟩ => seqX r p fun ρ1 F1 H1 x c1 v x1 r1 rv1 p1 => by
    rw [hK]
    have fin : ∀ {C : Nat} {a2 dx : Addr} {ks : List Str} {ds : List D} {vs : List V}, v = .ref a2 → H1 a2 = some (.ins (G.K.κ C) dx (ks.zip vs)) → RVs G.K ρ1 F1 ds vs → Post RV G W ρ1 F1 st.env σ Q (if C = cn then (match lookD f ks ds with
        | some d => .ok d c1
        | none => .no) else .no) →
        ∃ a C dx fs v_1, v = .ref a ∧ H1 a = some (.ins C dx fs) ∧ Cls G.K.K C ∧ NoAttr G.K.K C f ∧ fs.lookup f = some v_1 ∧ Q v_1 H1 := fun {C a2 dx ks ds vs} e1 e2 rr pp => by
      by_cases c : C = cn
      · subst c
        simp only [if_true] at pp
        cases q : lookD f ks ds with
        | none => simp only [q] at pp; exact pp.elim
        | some d =>
          simp only [q] at pp
          obtain ⟨u, e3, e4⟩ := look_rel rr q
          exact ⟨a2, _, dx, _, u, e1, e2, hf.cl, hf.no, e3, pp.here (st := ⟨st.env, c1⟩) r1 e4⟩
      · simp only [c, if_false] at pp
        exact pp.elim
    cases rv1 with
    | obj h1 h2 h3 => exact fin rfl (r1.fz _ _ h1) h3 p1
    | loc h1 =>
      rename_i n a2
      unfold gFldC at p1
      simp only at p1
      cases q : c1[n]? with
      | none => simp only [q] at p1; exact p1.elim
      | some c0 =>
        cases c0 with
        | ins C ks ds =>
          simp only [q] at p1
          obtain ⟨dx, vs, h2, h3, h4⟩ := r1.cell n _ _ q h1
          exact fin rfl h2 h4 p1
        | lst _ => simp only [q] at p1; exact p1.elim
        | dk _ _ => simp only [q] at p1; exact p1.elim
    | _ => exact p1.elim
end
end VL

namespace VL
open PySem L2
/-! ### statements -/
inductive SOut where
  | nx (st : S) | rt (d : D) (st : S) | bk (st : S) | ct (st : S) | ex (e : Exn) (st : S) | no
def SPost (G : Gx) (W : WX) (ρ : List Addr) (F : Hp) (E : Ends) : SOut → Prop
  | .nx st => ∀ ρ' F' σ' H', Ext ρ F ρ' F' → Rel G ρ' F' st σ' H' → E.nx σ' H'
  | .rt d st => ∀ ρ' F' σ' H' v, Ext ρ F ρ' F' → Rel G ρ' F' st σ' H' → RV G.K ρ' F' d v → E.rt v H'
  | .bk st => ∀ ρ' F' σ' H', Ext ρ F ρ' F' → Rel G ρ' F' st σ' H' → E.bk σ' H'
  | .ct st => ∀ ρ' F' σ' H', Ext ρ F ρ' F' → Rel G ρ' F' st σ' H' → E.ct σ' H'
  | .ex e st => ∀ ρ' F' σ' H' cls dx, Ext ρ F ρ' F' → Rel G ρ' F' st σ' H' → XAt G.K ρ' F' e cls dx → W cls dx σ' H'
  | .no => False
abbrev Sx := S → SOut
def tS (G : Gx) (W : WX) (f : Sx) : TS := fun E σ H => ∃ ρ F st, Rel G ρ F st σ H ∧ SPost G W ρ F E (f st)
section
variable {X : Cx} {G : Gx} {W : WX} {E : Ends} {ρ ρ' : List Addr} {F F' : Hp} {st : S} {σ : St} {H : Hp}
theorem SPost.ext (x : Ext ρ F ρ' F') : ∀ {o : SOut}, SPost G W ρ F E o → SPost G W ρ' F' E o
  | .nx _, h => fun ρ2 F2 s2 H2 y r => h ρ2 F2 s2 H2 (x.trans y) r
  | .rt _ _, h => fun ρ2 F2 s2 H2 v y r q => h ρ2 F2 s2 H2 v (x.trans y) r q
  | .bk _, h => fun ρ2 F2 s2 H2 y r => h ρ2 F2 s2 H2 (x.trans y) r
  | .ct _, h => fun ρ2 F2 s2 H2 y r => h ρ2 F2 s2 H2 (x.trans y) r
  | .ex _ _, h => fun ρ2 F2 s2 H2 c d y r q => h ρ2 F2 s2 H2 c d (x.trans y) r q
  | .no, h => h
def thenS {α : Type} (o : Out α) (env : List (Option D)) (k : α → S → SOut) : SOut := match o with
  | .ok a cs => k a ⟨env, cs⟩
  | .ex e cs => .ex e ⟨env, cs⟩
  | .no => .no
theorem seqS {α β : Type} {R : Kt → List Addr → Hp → α → β → Prop} {f : S → Out α} {k : α → S → SOut} {Q' : β → Hp → Prop} (r : Rel G ρ F st σ H) (p : SPost G W ρ F E (thenS (f st) st.env k))
    (h : ∀ ρ' F' H' a cs v, Ext ρ F ρ' F' → Rel G ρ' F' ⟨st.env, cs⟩ σ H' → R G.K ρ' F' a v → SPost G W ρ' F' E (k a ⟨st.env, cs⟩) → Q' v H') : tX R G W f σ H Q' := by
  refine ⟨ρ, F, st, r, ?_⟩
  cases e : f st with
  | ok a cs =>
    rw [e] at p
    exact fun ρ' F' H' v x r' rv => h ρ' F' H' a cs v x r' rv (SPost.ext x p)
  | ex e' cs =>
    rw [e] at p
    exact fun ρ' F' H' c d x r' q => p ρ' F' σ H' c d x r' q
  | no =>
    rw [e] at p
    exact p
theorem tS_of {f : Sx} (r : Rel G ρ F st σ H) (p : SPost G W ρ F E (f st)) : tS G W f E σ H := ⟨ρ, F, st, r, p⟩
variable {a b c e : Expr} {s : Stmt} {ss : List Stmt} {f g : Sx} {fa fb : Ex} {t : Tx} {pos : Pos}
def sSeq (f g : Sx) : Sx := fun st => match f st with
  | .nx st' => g st'
  | o => o
def sNil : Sx := fun st => .nx st
theorem ds_nil : PSs X [] (tS G W sNil) := pss_nil.impV fun D σ H ⟨ρ, F, st, r, p⟩ => p ρ F σ H Ext.refl r
theorem ds_one (h : PS X s (tS G W f)) : PSs X [s] (tS G W f) := pss_one h
theorem ds_cons (h : PS X s (tS G W f)) (h2 : PSs X ss (tS G W g)) : PSs X (s :: ss) (tS G W (sSeq f g)) := (pss_cons h h2).impV fun D σ H ⟨ρ, F, st, r, p⟩ => by
  refine ⟨ρ, F, st, r, ?_⟩
  unfold sSeq at p
  cases q : f st with
  | nx st' =>
    rw [q] at p
    exact fun ρ' F' σ' H' x r' => tS_of r' (SPost.ext x p)
  | rt d st' => rw [q] at p; exact p
  | bk st' => rw [q] at p; exact p
  | ct st' => rw [q] at p; exact p
  | ex e' st' => rw [q] at p; exact p
  | no => rw [q] at p; exact p
theorem ds_pass : PS X (.Pass pos) (tS G W sNil) := ps_pass.impV fun D σ H ⟨ρ, F, st, r, p⟩ => p ρ F σ H Ext.refl r
def sBrk : Sx := fun st => .bk st
def sCnt : Sx := fun st => .ct st
theorem ds_break : PS X (.Break pos) (tS G W sBrk) := ps_break.impV fun D σ H ⟨ρ, F, st, r, p⟩ => p ρ F σ H Ext.refl r
theorem ds_cont : PS X (.Continue pos) (tS G W sCnt) := ps_continue.impV fun D σ H ⟨ρ, F, st, r, p⟩ => p ρ F σ H Ext.refl r
/-- a way that is never gone -/
def sNever : Sx := fun _ => .no
theorem ds_never : PS X s (tS G W sNever) := ps_never.impV fun D σ H ⟨ρ, F, st, r, p⟩ => p
theorem dss_never : PSs X ss (tS G W sNever) := pss_never.impV fun D σ H ⟨ρ, F, st, r, p⟩ => p
def sExpr (f : Ex) : Sx := fun st => thenS (f st) st.env fun _ st' => .nx st'
theorem ds_expr (h : PE X e (tE G W fa)) (hs : swapsWith e none pos.line X.env = pure false := by rfl) : PS X (.Expr e pos) (tS G W (sExpr fa)) :=
  (ps_expr h hs).impV fun D σ H ⟨ρ, F, st, r, p⟩ => seqS (f := fa) r p fun ρ1 F1 H1 x c1 v x1 r1 rv1 p1 => p1 ρ1 F1 σ H1 Ext.refl r1
def sRet (f : Ex) : Sx := fun st => thenS (f st) st.env fun d st' => .rt d st'
theorem ds_ret (h : PE X e (tE G W fa)) : PS X (.Return (some e) pos) (tS G W (sRet fa)) :=
  (ps_ret h).impV fun D σ H ⟨ρ, F, st, r, p⟩ => seqS (f := fa) r p fun ρ1 F1 H1 x c1 v x1 r1 rv1 p1 => p1 ρ1 F1 σ H1 v Ext.refl r1 rv1
def sRetN : Sx := fun st => .rt .non st
theorem ds_retN : PS X (.Return none pos) (tS G W sRetN) := ps_retN.impV fun D σ H ⟨ρ, F, st, r, p⟩ => p ρ F σ H .non Ext.refl r .non
def sIf (t : Tx) (f g : Sx) : Sx := fun st => thenS (t st) st.env fun k st' => if k then f st' else g st'
theorem ds_if {A B : List Stmt} (hc : PT X c (tTs G W t)) (ha : PSs X A (tS G W f)) (hb : PSs X B (tS G W g)) : PS X (.If c A B pos) (tS G W (sIf t f g)) :=
  (ps_if hc ha hb).impV fun D σ H ⟨ρ, F, st, r, p⟩ => seqS (R := RB) (f := t) r p fun ρ1 F1 H1 k c1 k' x1 r1 e p1 => by
    have e : k = k' := e
    subst e
    cases k with
    | true => exact tS_of r1 p1
    | false => exact tS_of r1 p1
/-! ### targets -/
abbrev Gt := D → S → Option S
abbrev Gts := List D → S → Option S
def gNm (i : Nat) : Gt := fun d st => some ⟨st.env.set i (some d), st.cs⟩
def gsNil : Gts := fun ds st => match ds with
  | [] => some st
  | _ => none
def gsCons (g : Gt) (gs : Gts) : Gts := fun ds st => match ds with
  | d :: r => (g d st).bind (gs r)
  | [] => none
def gTp (n : Nat) (gs : Gts) : Gt := fun d st => match d with
  | .tup ds => if ds.length = n then gs ds st else none
  | _ => none
/-- σ' is σ but at the slots sl -/
def But (sl : List Nat) (σ σ' : St) : Prop := σ'.length = σ.length ∧ ∀ j : Nat, j ∉ sl → σ'[j]? = σ[j]?
theorem But.refl {sl : List Nat} {σ : St} : But sl σ σ := ⟨rfl, fun _ _ => rfl⟩
theorem But.set {i : Nat} {σ : St} {v : Option V} : But [i] σ (σ.set i v) := ⟨List.length_set, fun j hj => List.getElem?_set_ne (fun z => hj (by rw [z]; exact List.mem_singleton.mpr rfl))⟩
theorem But.trans {s1 s2 : List Nat} {σ σ1 σ2 : St} (a : But s1 σ σ1) (b : But s2 σ1 σ2) : But (s1 ++ s2) σ σ2 :=
  ⟨b.1.trans a.1, fun j hj => (b.2 j fun z => hj (List.mem_append_right _ z)).trans (a.2 j fun z => hj (List.mem_append_left _ z))⟩
def tG (G : Gx) (sl : List Nat) (g : Gt) : TG := fun v σ H Q => ∃ ρ F st d st', Rel G ρ F st σ H ∧ RV G.K ρ F d v ∧ g d st = some st' ∧ ∀ σ', Rel G ρ F st' σ' H → But sl σ σ' → Q σ' H
def tGs (G : Gx) (sl : List Nat) (g : Gts) : TGs := fun vs σ H Q => ∃ ρ F st ds st', Rel G ρ F st σ H ∧ RVs G.K ρ F ds vs ∧ g ds st = some st' ∧ ∀ σ', Rel G ρ F st' σ' H → But sl σ σ' → Q σ' H
theorem _root_.L2.PG.impV {X : Cx} {e : Expr} {t t' : TG} (h : PG X e t) (m : ∀ v σ H Q, t' v σ H Q → t v σ H Q) : PG X e t' := ⟨fun pins s σ H v u Q I r hw => h.run pins s σ H v u Q I r (m _ _ _ _ hw)⟩
theorem _root_.L2.PGs.impV {X : Cx} {e : List Expr} {t t' : TGs} (h : PGs X e t) (m : ∀ v σ H Q, t' v σ H Q → t v σ H Q) : PGs X e t' := ⟨fun pins s σ H v u Q I r hw => h.run pins s σ H v u Q I r (m _ _ _ _ hw)⟩
variable {es : List Expr} {i : Nat} {x : Str}
theorem dg_name (hN : X.N.Nodup) (hi : X.N[i]? = some x := by rfl) (hx : Loc X.env.scope x := by first | exact Or.inl rfl | exact Or.inr rfl) (hf : X.fn x = true ∨ X.env.scope.names.lookup x = some .local := by first | exact .inl rfl | exact .inr rfl) : PG X (.Name x pos) (tG G [i] (gNm i)) :=
  (pg_name (i := i) hN hi hx hf).impV fun v σ H Q ⟨ρ, F, st, d, st', r, rv, e, q⟩ => by
    cases e
    exact q _ (r.slot rv) But.set
theorem dgs_nil : PGs X [] (tGs G [] gsNil) := pgs_nil.impV fun v σ H Q ⟨ρ, F, st, ds, st', r, rv, e, q⟩ => by
  cases rv with
  | nil => cases e; exact ⟨rfl, q _ r But.refl⟩
  | cons => cases e
theorem dgs_cons {s1 s2 : List Nat} {g : Gt} {gs : Gts} (h : PG X e (tG G s1 g)) (h2 : PGs X es (tGs G s2 gs)) (hs : (assignEach (e :: es) X.env).map (·.2) = assign e X.env :: (assignEach es X.env).map (·.2) := by rfl) : PGs X (e :: es) (tGs G (s1 ++ s2) (gsCons g gs)) :=
  (pgs_cons h h2 hs).impV fun v σ H Q ⟨ρ, F, st, ds, st', r, rv, e, q⟩ => by
    cases rv with
    | nil => cases e
    | @cons d ds v vs h1 h3 =>
      refine ⟨v, vs, rfl, ?_⟩
      have e : (g d st).bind (gs ds) = some st' := e
      cases q1 : g d st with
      | none => rw [q1] at e; cases e
      | some st1 =>
        rw [q1] at e
        exact ⟨ρ, F, st, d, st1, r, h1, q1, fun σ1 r1 b1 => ⟨ρ, F, st1, ds, st', r1, h3, e, fun σ2 r2 b2 => q σ2 r2 (b1.trans b2)⟩⟩
theorem dg_tup {n k : Nat} {sl : List Nat} {gs : Gts} (hK : X.K = G.K.K) (hc : X.calm = true) (h : PGs X es (tGs G sl gs)) (hn : (assignEach es X.env).length = n := by rfl) (hst : (assignEach es X.env).findIdx? (·.1) = none := by rfl) : PG X (.Tuple es k pos) (tG G sl (gTp n gs)) :=
  (pg_tup hc h hn hst).impV fun v σ H Q ⟨ρ, F, st, d, st', r, rv, e, q⟩ => by
    unfold gTp at e
    cases rv with
    | @tup a vs ds h1 h2 =>
      simp only at e
      by_cases c : ds.length = n
      · rw [if_pos c] at e
        rw [hK]
        exact ⟨a, vs, rfl, sqT_same r.fz h1, by rw [← h2.length]; exact c, ρ, F, st, ds, st', r, h2, e, q⟩
      · rw [if_neg c] at e
        cases e
    | _ => cases e
def asg (g : Gt) (d : D) (st : S) : SOut := match g d st with
  | some st' => .nx st'
  | none => .no
def sAsg (f : Ex) (g : Gt) : Sx := fun st => thenS (f st) st.env (asg g)
theorem asg_of {sl : List Nat} {g : Gt} {d : D} {v : V} (r : Rel G ρ F st σ H) (rv : RV G.K ρ F d v) (p : SPost G W ρ F E (asg g d st)) : tG G sl g v σ H E.nx := by
  unfold asg at p
  cases q : g d st with
  | none => rw [q] at p; exact p.elim
  | some st' =>
    rw [q] at p
    exact ⟨ρ, F, st, d, st', r, rv, q, fun σ' r' _ => p ρ F σ' H Ext.refl r'⟩
theorem ds_set {pos' : Pos} (hN : X.N.Nodup) (h : PE X e (tE G W fa)) (hi : X.N[i]? = some x := by rfl) (hx : Loc X.env.scope x := by first | exact Or.inl rfl | exact Or.inr rfl) (hs : swapsWith e (some (.Name x pos')) pos.line X.env = pure false := by rfl) (hf : X.fn x = true ∨ X.env.scope.names.lookup x = some .local := by first | exact .inl rfl | exact .inr rfl) : PS X (.Assign [.Name x pos'] e pos) (tS G W (sAsg fa (gNm i))) :=
  (ps_set (i := i) hN hi hx h hs hf).impV fun D σ H ⟨ρ, F, st, r, p⟩ => seqS (f := fa) r p fun ρ1 F1 H1 x c1 v x1 r1 rv1 p1 => p1 ρ1 F1 _ H1 Ext.refl (r1.slot rv1)
theorem ds_asg {tg : Expr} {sl : List Nat} {g : Gt} (h : PE X e (tE G W fa)) (hg : PG X tg (tG G sl g)) (hs : swapsWithSole [tg] e pos.line X.env = pure false := by rfl) (hw : swappedStores [tg] e X.env = pure none := by rfl) (h1 : (assignEach [tg] X.env).map (·.2) = [assign tg X.env] := by rfl) : PS X (.Assign [tg] e pos) (tS G W (sAsg fa g)) :=
  (ps_asg h hg hs hw h1).impV fun D σ H ⟨ρ, F, st, r, p⟩ => seqS (f := fa) r p fun ρ1 F1 H1 x c1 v x1 r1 rv1 p1 => asg_of r1 rv1 p1
/-- a, b = x, y -/
def sPar (is : List Nat) (g : Ax) : Sx := fun st => thenS (g st) st.env fun ds st' => match is, ds with
  | [i, j], [d, e] => .nx ⟨(st'.env.set i (some d)).set j (some e), st'.cs⟩
  | [i, j, k], [d, e, f] => .nx ⟨((st'.env.set i (some d)).set j (some e)).set k (some f), st'.cs⟩
  | _, _ => .no
theorem ds_par {j : Nat} {y : Str} {px py pt : Pos} {kt k2 pt2} {ga : Ax} (hc : X.calm = true) (hN : X.N.Nodup) (ha : PA X [a, b] (tAs G W ga)) (hij : i ≠ j) (hi : X.N[i]? = some x := by rfl) (hj : X.N[j]? = some y := by rfl)
    (hx : X.env.scope.names.lookup x = some .local := by rfl) (hy : X.env.scope.names.lookup y = some .local := by rfl)
    (hw : swappedStores [.Tuple [.Name x px, .Name y py] kt pt] (.Tuple [a, b] k2 pt2) X.env = pure (some [x, y]) := by rfl)
    (hs : swapsWithSole [.Tuple [.Name x px, .Name y py] kt pt] (.Tuple [a, b] k2 pt2) pos.line X.env = pure false := by rfl) :
    PS X (.Assign [.Tuple [.Name x px, .Name y py] kt pt] (.Tuple [a, b] k2 pt2) pos) (tS G W (sPar [i, j] ga)) :=
  (ps_par hc hN hi hj hij hx hy ha hw hs).impV fun D σ H ⟨ρ, F, st, r, p⟩ => seqS (R := RVs) (f := ga) r p fun ρ1 F1 H1 ds c1 vs x1 r1 rv1 p1 => by
    cases rv1 with
    | nil => exact p1.elim
    | cons h1 rv1 =>
      cases rv1 with
      | nil => exact p1.elim
      | cons h2 rv1 =>
        cases rv1 with
        | nil => exact ⟨_, _, rfl, p1 ρ1 F1 _ H1 Ext.refl ((r1.slot h1).slot h2)⟩
        | cons h3 rv1 => exact p1.elim
theorem ds_par3 {j l : Nat} {y z : Str} {px py pz pt : Pos} {kt k2 pt2} {ga : Ax} (hc : X.calm = true) (hN : X.N.Nodup) (ha : PA X [a, b, c] (tAs G W ga)) (hij : i ≠ j) (hil : i ≠ l) (hjl : j ≠ l) (hi : X.N[i]? = some x := by rfl) (hj : X.N[j]? = some y := by rfl) (hl : X.N[l]? = some z := by rfl)
    (hx : X.env.scope.names.lookup x = some .local := by rfl) (hy : X.env.scope.names.lookup y = some .local := by rfl) (hz : X.env.scope.names.lookup z = some .local := by rfl)
    (hw : swappedStores [.Tuple [.Name x px, .Name y py, .Name z pz] kt pt] (.Tuple [a, b, c] k2 pt2) X.env = pure (some [x, y, z]) := by rfl)
    (hs : swapsWithSole [.Tuple [.Name x px, .Name y py, .Name z pz] kt pt] (.Tuple [a, b, c] k2 pt2) pos.line X.env = pure false := by rfl) :
    PS X (.Assign [.Tuple [.Name x px, .Name y py, .Name z pz] kt pt] (.Tuple [a, b, c] k2 pt2) pos) (tS G W (sPar [i, j, l] ga)) :=
  (ps_par3 hc hN hi hj hl hij hil hjl hx hy hz ha hw hs).impV fun D σ H ⟨ρ, F, st, r, p⟩ => seqS (R := RVs) (f := ga) r p fun ρ1 F1 H1 ds c1 vs x1 r1 rv1 p1 => by
    cases rv1 with
    | nil => exact p1.elim
    | cons h1 rv1 =>
      cases rv1 with
      | nil => exact p1.elim
      | cons h2 rv1 =>
        cases rv1 with
        | nil => exact p1.elim
        | cons h3 rv1 =>
          cases rv1 with
          | nil => exact ⟨_, _, _, rfl, p1 ρ1 F1 _ H1 Ext.refl (((r1.slot h1).slot h2).slot h3)⟩
          | cons h4 rv1 => exact p1.elim
/-- o[i] = v, o an own list -/
def setIx (o k v : D) (st : S) : SOut := match o, k with
  | .loc n, .int k => match st.cs[n]? with
    | some (.lst ds) => (match ixN ds.length k with
      | some j => .nx ⟨st.env, st.cs.set n (.lst (ds.set j v))⟩
      | none => .no)
    | _ => .no
  | _, _ => .no
theorem setIx_of {o k d : D} {ov kv v : V} (r : Rel G ρ F st σ H) (h1 : RV G.K ρ F o ov) (h2 : RV G.K ρ F k kv) (h3 : RV G.K ρ F d v) (p : SPost G W ρ F E (setIx o k d st)) : rSetL ov kv v H fun H3 => E.nx σ H3 := by
  unfold setIx at p
  cases h1 with
  | @loc n a0 h1 =>
    cases h2 with
    | int k =>
      simp only at p
      cases q : st.cs[n]? with
      | none => simp only [q] at p; exact p.elim
      | some c0 =>
        cases c0 with
        | lst ds =>
          simp only [q] at p
          cases q2 : ixN ds.length k with
          | none => simp only [q2] at p; exact p.elim
          | some j =>
            simp only [q2] at p
            obtain ⟨vs, h4, h5⟩ := r.cell n _ _ q h1
            refine ⟨a0, vs, k, j, rfl, rfl, h4, by rw [← h5.length]; exact q2, ?_⟩
            exact p ρ F σ _ Ext.refl (r.cellSet (c := .lst (ds.set j d)) h1 ⟨_, upd_same, h5.set h3 j⟩)
        | dk _ _ => simp only [q] at p; exact p.elim
        | ins _ _ _ => simp only [q] at p; exact p.elim
    | _ => exact p.elim
  | _ => exact p.elim
def sSetIx (fv fo fi : Ex) : Sx := fun st => thenS (fv st) st.env fun v st1 => thenS (fo st1) st1.env fun o st2 => thenS (fi st2) st2.env fun k st3 => setIx o k v st3
theorem ds_setIx {fv fo fi : Ex} {o k v : Expr} {spos : Pos} (hv : PE X v (tE G W fv)) (ho : PE X o (tE G W fo)) (hi : PE X k (tE G W fi))
    (ha : ∀ u, assign (.Subscript o k spos) X.env u = (do
      let ov ← holding [u] (eval o X.env)
      let iv ← holding [u, ov] (eval k X.env)
      standAt spos
      holding [u, ov, iv] (setItem ov iv u)
      release [u, ov, iv] []) := by intro _; rfl)
    (hs : swapsWithSole [.Subscript o k spos] v pos.line X.env = pure false := by rfl) (hw : swappedStores [.Subscript o k spos] v X.env = pure none := by rfl) (h1 : (assignEach [.Subscript o k spos] X.env).map (·.2) = [assign (.Subscript o k spos) X.env] := by rfl) :
    PS X (.Assign [.Subscript o k spos] v pos) (tS G W (sSetIx fv fo fi)) :=
  (ps_asg hv (pg_sub ho hi set_list ha) hs hw h1).impV fun D σ H ⟨ρ, F, st, r, p⟩ => seqS (f := fv) r p fun ρ1 F1 H1 x c1 v x1 r1 rv1 p1 => seqS (st := ⟨st.env, c1⟩) (f := fo) r1 p1 fun ρ2 F2 H2 o c2 ov x2 r2 rv2 p2 => seqS (st := ⟨st.env, c2⟩) (f := fi) r2 p2 fun ρ3 F3 H3 k c3 kv x3 r3 rv3 p3 => by
    exact setIx_of (st := ⟨st.env, c3⟩) r3 (rv2.ext x3) rv3 ((rv1.ext x2).ext x3) p3
/-- x += e, x -= e of ints -/
def sAug (i : Nat) (g : Int → Int → Int) (f : Ex) : Sx := fun st => match st.env[i]? with
  | some (some (.int k)) => thenS (f st) st.env fun d st' => match d with
    | .int j => .nx ⟨st'.env.set i (some (.int (g k j))), st'.cs⟩
    | _ => .no
  | _ => .no
theorem ds_aug {op : Operator} {g : Int → Int → Int} {pos' : Pos} (hN : X.N.Nodup) (h : PE X e (tE G W fa)) (ho : PIp X op (ipI g)) (hi : X.N[i]? = some x := by rfl) (hx : Loc X.env.scope x := by first | exact Or.inl rfl | exact Or.inr rfl) (hf : X.fn x = true ∨ X.env.scope.names.lookup x = some .local := by first | exact .inl rfl | exact .inr rfl) :
    PS X (.AugAssign (.Name x pos') op e pos) (tS G W (sAug i g fa)) :=
  (ps_aug (i := i) hN hi hx h ho hf).impV fun D σ H ⟨ρ, F, st, r, p⟩ => by
    unfold sAug at p
    split at p
    · rename_i k q
      obtain ⟨v, e1, e2⟩ := r.env i _ q
      cases e2
      refine ⟨_, e1, seqS (f := fa) r p fun ρ1 F1 H1 d c1 w x1 r1 rv1 p1 => ?_⟩
      cases rv1 with
      | int j => exact ⟨_, _, rfl, rfl, p1 ρ1 F1 _ H1 Ext.refl (r1.slot (.int _))⟩
      | _ => exact p1.elim
    · exact p.elim
end
end VL

namespace VL
open PySem L2
/-! ### what is walked -/
/-- J gives ds, one after the other, as long as keep holds of the cells -/
def Wk (G : Gx) (ρ0 : List Addr) (F0 : Hp) (J : It) (ds : List D) (keep : List Cell → Bool) : Prop :=
  ∀ (ρ : List Addr) (F : Hp) (st : S) (σ : St) (H : Hp) (i : Nat), Ext ρ0 F0 ρ F → Rel G ρ F st σ H → keep st.cs = true →
    (∀ d, ds[i]? = some d → J.go i H ∧ ∀ x H', J.yld i H x H' → ∃ ρ' F', Ext ρ F ρ' F' ∧ ρ' = ρ ∧ (∀ b o, H b = some o → H' b = some o) ∧ Rel G ρ' F' st σ H' ∧ RV G.K ρ' F' d x) ∧ (i = ds.length → J.stop i H)
abbrev Walk := List D × (List Cell → Bool)
abbrev Ix := S → Out Walk
def tI (G : Gx) (W : WX) (src : Ix) : TI := fun σ H R => ∃ ρ F st, Rel G ρ F st σ H ∧ (match src st with
  | .ok w cs => ∀ ρ' F' H' J, Ext ρ F ρ' F' → Rel G ρ' F' ⟨st.env, cs⟩ σ H' → Wk G ρ' F' J w.1 w.2 → R J H'
  | .ex e cs => ∀ ρ' F' H' cls dx, Ext ρ F ρ' F' → Rel G ρ' F' ⟨st.env, cs⟩ σ H' → XAt G.K ρ' F' e cls dx → W cls dx σ H'
  | .no => False)
def keepAll : List Cell → Bool := fun _ => true
/-- the cell n holds ds -/
def keepAt (cs0 : List Cell) : D → List Cell → Bool
  | .loc n => fun cs => match cs0[n]?, cs[n]? with
    | some (.lst _), some (.lst _) => true
    | _, _ => false
  | _ => fun _ => true
section
variable {X : Cx} {G : Gx} {W : WX} {ρ : List Addr} {F : Hp} {st : S} {σ : St} {H : Hp} {tg e : Expr} {es : List Expr} {fa : Ex} {pos : Pos}
theorem _root_.L2.PI.impV {X : Cx} {tg e : Expr} {t t' : TI} (h : PI X tg e t) (m : ∀ σ H R, t' σ H R → t σ H R) : PI X tg e t' := ⟨fun pins s σ H R I hw => h.run pins s σ H R I (m _ _ _ hw)⟩
/-- lists' items are locked by a test of the cell: it holds these very items -/
def iLst (f : Ex) : Ix := fun st => (f st).bind fun x c1 => match x with
  | .tup ds => .ok (ds, keepAll) c1
  | .lst ds => .ok (ds, keepAll) c1
  | .frl ds => .ok (ds, keepAll) c1
  | _ => .no
theorem tI_of {α β : Type} {R : Kt → List Addr → Hp → α → β → Prop} {f : S → Out α} {k : α → List Cell → Out Walk} {Q : It → Hp → Prop} {Q' : β → Hp → Prop} (r : Rel G ρ F st σ H)
    (p : match (f st).bind k with
      | .ok w cs => ∀ ρ' F' H' J, Ext ρ F ρ' F' → Rel G ρ' F' ⟨st.env, cs⟩ σ H' → Wk G ρ' F' J w.1 w.2 → Q J H'
      | .ex e cs => ∀ ρ' F' H' cls dx, Ext ρ F ρ' F' → Rel G ρ' F' ⟨st.env, cs⟩ σ H' → XAt G.K ρ' F' e cls dx → W cls dx σ H'
      | .no => False)
    (h : ∀ ρ' F' H' a cs v, Ext ρ F ρ' F' → Rel G ρ' F' ⟨st.env, cs⟩ σ H' → R G.K ρ' F' a v → (∀ w, k a cs = .ok w cs → ∀ J, Wk G ρ' F' J w.1 w.2 → Q J H') → (k a cs ≠ .no) → Q' v H') (hk : ∀ a cs, (∃ w, k a cs = .ok w cs) ∨ k a cs = .no) : tX R G W f σ H Q' := by
  refine ⟨ρ, F, st, r, ?_⟩
  cases e : f st with
  | ok a cs =>
    rw [e] at p
    have p : match k a cs with
      | .ok w cs => ∀ ρ' F' H' J, Ext ρ F ρ' F' → Rel G ρ' F' ⟨st.env, cs⟩ σ H' → Wk G ρ' F' J w.1 w.2 → Q J H'
      | .ex e cs => ∀ ρ' F' H' cls dx, Ext ρ F ρ' F' → Rel G ρ' F' ⟨st.env, cs⟩ σ H' → XAt G.K ρ' F' e cls dx → W cls dx σ H'
      | .no => False := p
    rcases hk a cs with ⟨w, hw⟩ | hw
    · rw [hw] at p
      refine fun ρ' F' H' v x r' rv => h ρ' F' H' a cs v x r' rv (fun w' hw' J wk => ?_) (fun z => by rw [hw] at z; cases z)
      rw [hw] at hw'
      cases hw'
      exact p ρ' F' H' J x r' wk
    · rw [hw] at p
      exact p.elim
  | ex e' cs => rw [e] at p; exact p
  | no => rw [e] at p; exact p
theorem wk_list {a : Addr} {ds : List D} {vs : List V} (hs : SqL G.K.K F a vs) (rv : RVs G.K ρ F ds vs) : Wk G ρ F (Itl G.K.K a) ds keepAll := fun ρ1 F1 st1 σ1 H1 i x r _ => by
  have hs1 : SqL G.K.K H1 a vs := r.fz.seq (x.fz.seq hs)
  refine ⟨fun d e => ?_, fun e => ⟨vs, hs1, ?_⟩⟩
  · obtain ⟨v, e1, e2⟩ := (rv.ext x).get e
    exact ⟨⟨vs, v, hs1, e1⟩, fun y H' ⟨e3, e4⟩ => by
      subst e3
      have := e4 vs hs1
      rw [e1] at this
      cases this
      exact ⟨ρ1, F1, Ext.refl, rfl, fun _ _ h => h, r, e2⟩⟩
  · rw [← rv.length, e]
    exact Nat.le_refl _
theorem wk_tup {a : Addr} {ds : List D} {vs : List V} (hs : SqT G.K.K F a vs) (rv : RVs G.K ρ F ds vs) : Wk G ρ F (Itt G.K.K a) ds keepAll := fun ρ1 F1 st1 σ1 H1 i x r _ => by
  have hs1 : SqT G.K.K H1 a vs := sqT_same r.fz (sqT_same x.fz hs)
  refine ⟨fun d e => ?_, fun e => ⟨vs, hs1, ?_⟩⟩
  · obtain ⟨v, e1, e2⟩ := (rv.ext x).get e
    exact ⟨⟨vs, v, hs1, e1⟩, fun y H' ⟨e3, e4⟩ => by
      subst e3
      have := e4 vs hs1
      rw [e1] at this
      cases this
      exact ⟨ρ1, F1, Ext.refl, rfl, fun _ _ h => h, r, e2⟩⟩
  · rw [← rv.length, e]
    exact Nat.le_refl _
/-- for over a frozen list -/
def iL (f : Ex) : Ix := fun st => (f st).bind fun x c1 => match x with
  | .lst ds => .ok (ds, keepAll) c1
  | .frl ds => .ok (ds, keepAll) c1
  | _ => .no
theorem di_list (hK : X.K = G.K.K) (h : PE X e (tE G W fa)) : PI X tg e (tI G W (iL fa)) := (pi_list h).impV fun σ H R ⟨ρ, F, st, r, p⟩ => by
  refine tI_of (R := RV) r p (fun ρ1 F1 H1 x c1 v x1 r1 rv1 q hn => ?_) (fun x c1 => ?_)
  · rw [hK]
    cases rv1 with
    | lst h1 h2 => exact ⟨_, rfl, ⟨_, SqL.of (r1.fz _ _ h1)⟩, q _ rfl _ (wk_list (SqL.of h1) h2)⟩
    | frl h1 h2 => exact ⟨_, rfl, ⟨_, r1.fz.seq h1⟩, q _ rfl _ (wk_list h1 h2)⟩
    | _ => exact absurd rfl hn
  · cases x <;> first | exact .inl ⟨_, rfl⟩ | exact .inr rfl
/-- for over a tuple -/
def iT (f : Ex) : Ix := fun st => (f st).bind fun x c1 => match x with
  | .tup ds => .ok (ds, keepAll) c1
  | _ => .no
theorem di_tup (hK : X.K = G.K.K) (h : PE X e (tE G W fa)) : PI X tg e (tI G W (iT fa)) := (pi_tup h).impV fun σ H R ⟨ρ, F, st, r, p⟩ => by
  refine tI_of (R := RV) r p (fun ρ1 F1 H1 x c1 v x1 r1 rv1 q hn => ?_) (fun x c1 => ?_)
  · rw [hK]
    cases rv1 with
    | tup h1 h2 => exact ⟨_, rfl, ⟨_, sqT_same r1.fz h1⟩, q _ rfl _ (wk_tup h1 h2)⟩
    | _ => exact absurd rfl hn
  · cases x <;> first | exact .inl ⟨_, rfl⟩ | exact .inr rfl
/-- range(n), range(a, b) -/
def rangeD (lo : Int) (n : Nat) : List D := (List.range n).map fun i => .int (lo + (i : Nat))
theorem wk_range {lo : Int} {n : Nat} : Wk G ρ F (Itr lo n) (rangeD lo n) keepAll := fun ρ1 F1 st1 σ1 H1 i x r _ => by
  refine ⟨fun d e => ?_, fun e => ?_⟩
  · unfold rangeD at e
    rw [List.getElem?_map] at e
    by_cases c : i < n
    · rw [List.getElem?_range c] at e
      cases e
      refine ⟨c, fun y H' ⟨e3, e4⟩ => ?_⟩
      subst e3 e4
      exact ⟨ρ1, F1, Ext.refl, rfl, fun _ _ h => h, r, .int _⟩
    · rw [List.getElem?_eq_none_iff.mpr (by rw [List.length_range]; omega)] at e
      cases e
  · unfold rangeD at e
    rw [List.length_map, List.length_range] at e
    show n ≤ i
    omega
def iR1 (g : Ax) : Ix := fun st => (g st).bind fun xs c1 => match xs with
  | [.int j] => if decide (-(2 ^ 62) ≤ j) && decide (j < 2 ^ 62) then .ok (rangeD 0 j.toNat, keepAll) c1 else .no
  | _ => .no
theorem di_range1 {a : Expr} {g : Ax} {p pos : Pos} (hg : Gl X "range") (hm : X.mg "range" = none) (ha : PA X [a] (tAs G W g)) (hs : starEach [a] X.env = [(false, eval a X.env)] := by rfl) : PI X tg (.Call (.Name "range" p) [a] [] pos) (tI G W (iR1 g)) :=
  (pi_range1 hg hm ha hs).impV fun σ H R ⟨ρ, F, st, r, p⟩ => by
    refine tI_of (R := RVs) r p (fun ρ1 F1 H1 xs c1 v x1 r1 rv1 q hn => ?_) (fun xs c1 => ?_)
    · split at hn
      · rename_i j
        by_cases c : (decide (-(2 ^ 62) ≤ j) && decide (j < 2 ^ 62)) = true
        · have q := q (rangeD 0 j.toNat, keepAll) (by simp only [c, if_true]) _ wk_range
          simp only [Bool.and_eq_true, decide_eq_true_eq] at c
          cases rv1 with
          | cons h1 h2 =>
            cases h1
            cases h2
            exact ⟨j, rfl, c.1, c.2, q⟩
        · simp only [c, if_false] at hn
          exact absurd rfl hn
      · exact absurd rfl hn
    · split
      · split
        · exact .inl ⟨_, rfl⟩
        · exact .inr rfl
      · exact .inr rfl
def iR2 (g : Ax) : Ix := fun st => (g st).bind fun xs c1 => match xs with
  | [.int i, .int j] => if decide (-(2 ^ 62) ≤ i) && decide (i < 2 ^ 62) && decide (-(2 ^ 62) ≤ j) && decide (j < 2 ^ 62) then .ok (rangeD i (j - i).toNat, keepAll) c1 else .no
  | _ => .no
theorem di_range2 {a b : Expr} {g : Ax} {p pos : Pos} (hg : Gl X "range") (hm : X.mg "range" = none) (ha : PA X [a, b] (tAs G W g)) (hs : starEach [a, b] X.env = [(false, eval a X.env), (false, eval b X.env)] := by rfl) (hs2 : starEach [b] X.env = [(false, eval b X.env)] := by rfl) : PI X tg (.Call (.Name "range" p) [a, b] [] pos) (tI G W (iR2 g)) :=
  (pi_range2 hg hm ha hs hs2).impV fun σ H R ⟨ρ, F, st, r, p⟩ => by
    refine tI_of (R := RVs) r p (fun ρ1 F1 H1 xs c1 v x1 r1 rv1 q hn => ?_) (fun xs c1 => ?_)
    · split at hn
      · rename_i i j
        by_cases c : (decide (-(2 ^ 62) ≤ i) && decide (i < 2 ^ 62) && decide (-(2 ^ 62) ≤ j) && decide (j < 2 ^ 62)) = true
        · have q := q (rangeD i (j - i).toNat, keepAll) (by simp only [c, if_true]) _ wk_range
          simp only [Bool.and_eq_true, decide_eq_true_eq] at c
          cases rv1 with
          | cons h1 h2 =>
            cases h1
            cases h2 with
            | cons h1 h2 =>
              cases h1
              cases h2
              exact ⟨i, j, rfl, ⟨c.1.1.1, c.1.1.2, c.1.2, c.2⟩, q⟩
        · simp only [c, if_false] at hn
          exact absurd rfl hn
      · exact absurd rfl hn
    · split
      · split
        · exact .inl ⟨_, rfl⟩
        · exact .inr rfl
      · exact .inr rfl
/-- a text sign by sign -/
def iS (f : Ex) : Ix := fun st => (f st).bind fun x c1 => match x with
  | .str z => .ok (z.cps.toList.map fun c => .str ⟨#[c]⟩, keepAll) c1
  | _ => .no
theorem di_str (h : PE X e (tE G W fa)) : PI X tg e (tI G W (iS fa)) := (pi_str h).impV fun σ H R ⟨ρ, F, st, r, p⟩ => by
  refine tI_of (R := RV) r p (fun ρ1 F1 H1 x c1 v x1 r1 rv1 q hn => ?_) (fun x c1 => ?_)
  · cases rv1 with
    | str z =>
      refine ⟨_, rfl, q _ rfl _ fun ρ2 F2 st2 σ2 H2 i x r _ => ⟨fun d e => ?_, fun e => ?_⟩⟩
      · rw [List.getElem?_map] at e
        cases q : z.cps.toList[i]? with
        | none => rw [q] at e; cases e
        | some c =>
          rw [q] at e
          cases e
          have q' : z.cps[i]? = some c := by rw [← Array.getElem?_toList]; exact q
          refine ⟨(Array.getElem?_eq_some_iff.mp q').1, fun y H' ⟨e3, c', e4, e5⟩ => ?_⟩
          rw [q'] at e4
          cases e4
          subst e3 e5
          exact ⟨ρ2, F2, Ext.refl, rfl, fun _ _ h => h, r, .str _⟩
      · rw [List.length_map, Array.length_toList] at e
        show z.cps.size ≤ i
        omega
    | _ => exact absurd rfl hn
  · cases x <;> first | exact .inl ⟨_, rfl⟩ | exact .inr rfl
/-- enumerate of a frozen list -/
def enumD (ds : List D) : List D := ds.mapIdx fun i d => .tup [.int (i : Nat), d]
theorem wk_enum {a : Addr} {ds : List D} {vs : List V} (hs : SqL G.K.K F a vs) (rv : RVs G.K ρ F ds vs) : Wk G ρ F (Ite G.K.K a) (enumD ds) keepAll := fun ρ1 F1 st1 σ1 H1 i x r _ => by
  have hs1 : SqL G.K.K H1 a vs := r.fz.seq (x.fz.seq hs)
  refine ⟨fun d e => ?_, fun e => ⟨vs, hs1, ?_⟩⟩
  · unfold enumD at e
    rw [List.getElem?_mapIdx] at e
    cases q : ds[i]? with
    | none => rw [q] at e; cases e
    | some d0 =>
      rw [q] at e
      cases e
      obtain ⟨v, e1, e2⟩ := (rv.ext x).get q
      refine ⟨⟨vs, v, hs1, e1⟩, fun y H' ⟨T, u, e3, e4, e5, e6⟩ => ?_⟩
      have := e6 vs hs1
      rw [e1] at this
      cases this
      subst e3 e5
      obtain ⟨x2, r2⟩ := r.fresh (o := .tup [.int (i : Nat), v]) e4
      exact ⟨ρ1, _, x2, rfl, same_upd' e4, r2, .tup (SqT.of upd_same) (.cons (.int _) (.cons (e2.ext x2) .nil))⟩
  · unfold enumD at e
    rw [List.length_mapIdx] at e
    rw [← rv.length]
    omega
def iEn (g : Ax) : Ix := fun st => (g st).bind fun xs c1 => match xs with
  | [.lst ds] => .ok (enumD ds, keepAll) c1
  | [.frl ds] => .ok (enumD ds, keepAll) c1
  | _ => .no
theorem di_enum {g : Ax} {p pos tpos : Pos} {elts : List Expr} {kk : Nat} (hK : X.K = G.K.K) (hg : Gl X "enumerate") (hm : X.mg "enumerate" = none) (ha : PA X [e] (tAs G W g)) (hs : starEach [e] X.env = [(false, eval e X.env)] := by rfl) :
    PI X (.Tuple elts kk tpos) (.Call (.Name "enumerate" p) [e] [] pos) (tI G W (iEn g)) :=
  (pi_enum hg hm ha hs).impV fun σ H R ⟨ρ, F, st, r, p⟩ => by
    refine tI_of (R := RVs) r p (fun ρ1 F1 H1 xs c1 v x1 r1 rv1 q hn => ?_) (fun xs c1 => ?_)
    · rw [hK]
      split at hn
      · cases rv1 with
        | cons h1 h2 =>
          cases h2
          cases h1 with
          | lst h1 h2 => exact ⟨_, _, rfl, SqL.of (r1.fz _ _ h1), q _ rfl _ (wk_enum (SqL.of h1) h2)⟩
      · cases rv1 with
        | cons h1 h2 =>
          cases h2
          cases h1 with
          | frl h1 h2 => exact ⟨_, _, rfl, r1.fz.seq h1, q _ rfl _ (wk_enum h1 h2)⟩
      · exact absurd rfl hn
    · split <;> first | exact .inl ⟨_, rfl⟩ | exact .inr rfl

/-! ### for -/
def forL (g : Gt) (body : Sx) (keep : List Cell → Bool) : List D → S → SOut
  | [], st => if keep st.cs then .nx st else .no
  | d :: ds, st => if keep st.cs then (match g d st with
    | some st1 => (match body st1 with
      | .nx st2 => forL g body keep ds st2
      | .ct st2 => forL g body keep ds st2
      | .bk st2 => .nx st2
      | o => o)
    | none => .no) else .no
def sFor (src : Ix) (g : Gt) (body : Sx) : Sx := fun st => thenS (src st) st.env fun w st' => forL g body w.2 w.1 st'
theorem ds_for {body : List Stmt} {src : Ix} {sl : List Nat} {g : Gt} {f : Sx} (hp : PassesOwn (model X.prog X.w) X.A X.env X.xe) (hc : X.calm = true) (hi : PI X tg e (tI G W src)) (hg : PG X tg (tG G sl g)) (hb : PSs X body (tS G W f)) (hs : ∀ x, foldedSetIterable e X.env x = pure x := by intro _; rfl) :
    PS X (.For tg e body [] pos) (tS G W (sFor src g f)) := (ps_for hp hc hi hg hb hs).impV fun D σ H ⟨ρ, F, st, r, p⟩ => by
  refine ⟨ρ, F, st, r, ?_⟩
  unfold sFor at p
  cases q : src st with
  | no => rw [q] at p; exact p
  | ex e' cs =>
    rw [q] at p
    exact fun ρ' F' H' c d x r' xa => p ρ' F' σ H' c d x r' xa
  | ok w cs =>
    rw [q] at p
    obtain ⟨ds, keep⟩ := w
    intro ρ' F' H' J x r' wk
    refine ⟨fun i m σ1 H1 => ∃ ρ1 F1 st1, Ext ρ' F' ρ1 F1 ∧ Rel G ρ1 F1 st1 σ1 H1 ∧ i + m = ds.length ∧ SPost G W ρ1 F1 D (forL g f keep (ds.drop i) st1), ⟨ds.length, ρ', F', _, Ext.refl, r', Nat.zero_add _, SPost.ext x p⟩, ?_⟩
    rintro i m σ1 H1 ⟨ρ1, F1, st1, x1, r1, em, p1⟩
    cases hd : ds.drop i with
    | nil =>
      rw [hd] at p1
      unfold forL at p1
      have hi : i = ds.length := by
        have := List.drop_eq_nil_iff.mp hd
        omega
      by_cases hk : keep st1.cs = true
      · rw [if_pos hk] at p1
        exact .inl ⟨(wk ρ1 F1 st1 σ1 H1 i x1 r1 hk).2 hi, p1 ρ1 F1 σ1 H1 Ext.refl r1⟩
      · rw [if_neg hk] at p1
        exact p1.elim
    | cons d rest =>
      rw [hd] at p1
      unfold forL at p1
      have hi : ds[i]? = some d := by
        have := List.getElem?_drop (xs := ds) (i := i) (j := 0)
        rw [hd, Nat.add_zero] at this
        exact this.symm
      have hr : ds.drop (i + 1) = rest := by
        rw [← List.drop_drop, hd]; rfl
      by_cases hk : keep st1.cs = true
      · rw [if_pos hk] at p1
        obtain ⟨go, yl⟩ := (wk ρ1 F1 st1 σ1 H1 i x1 r1 hk).1 d hi
        refine .inr ⟨go, fun σ2 H2 => ∃ ρ2 F2 st2, Ext ρ' F' ρ2 F2 ∧ Rel G ρ2 F2 st2 σ2 H2 ∧ SPost G W ρ2 F2 D (forL g f keep rest st2), fun σ2 H2 ⟨ρ2, F2, st2, x2, r2, p2⟩ => ⟨m - 1, ?_, ρ2, F2, st2, x2, r2, ?_, by rw [hr]; exact p2⟩, fun y H2 hy => ?_⟩
        · have := (List.getElem?_eq_some_iff.mp hi).1
          omega
        · have := (List.getElem?_eq_some_iff.mp hi).1
          omega
        · obtain ⟨ρ3, F3, x3, _, _, r3, rv3⟩ := yl y H2 hy
          have p3 := SPost.ext x3 p1
          cases q3 : g d st1 with
          | none => simp only [q3] at p3; exact p3.elim
          | some st3 =>
            simp only [q3] at p3
            refine ⟨ρ3, F3, st1, d, st3, r3, rv3, q3, fun σ4 r4 _ => ⟨ρ3, F3, st3, r4, ?_⟩⟩
            cases q4 : f st3 with
            | nx st4 =>
              simp only [q4] at p3
              exact fun ρ5 F5 σ5 H5 x5 r5 => ⟨ρ5, F5, st4, (x1.trans x3).trans x5, r5, SPost.ext x5 p3⟩
            | ct st4 =>
              simp only [q4] at p3
              exact fun ρ5 F5 σ5 H5 x5 r5 => ⟨ρ5, F5, st4, (x1.trans x3).trans x5, r5, SPost.ext x5 p3⟩
            | bk st4 =>
              simp only [q4] at p3
              exact p3
            | rt d4 st4 => simp only [q4] at p3; exact p3
            | ex e4 st4 => simp only [q4] at p3; exact p3
            | no => simp only [q4] at p3; exact p3
      · rw [if_neg hk] at p1
        exact p1.elim

/-! ### while -/
def whL (t : Tx) (body : Sx) : Nat → S → SOut
  | 0, _ => .no
  | n + 1, st => thenS (t st) st.env fun k st1 => if k then (match body st1 with
    | .nx st2 => whL t body n st2
    | .ct st2 => whL t body n st2
    | .bk st2 => .nx st2
    | o => o) else .nx st1
def sWhile (fuel : S → Nat) (t : Tx) (body : Sx) : Sx := fun st => whL t body (fuel st) st
theorem ds_while {c : Expr} {body : List Stmt} {fuel : S → Nat} {t : Tx} {f : Sx} (hp : PassesOwn (model X.prog X.w) X.A X.env X.xe) (hc : PT X c (tTs G W t)) (hb : PSs X body (tS G W f)) : PS X (.While c body [] pos) (tS G W (sWhile fuel t f)) :=
  (ps_while hp hc hb).impV fun D σ H ⟨ρ, F, st, r, p⟩ => by
    refine ⟨fun m σ1 H1 => ∃ ρ1 F1 st1, Rel G ρ1 F1 st1 σ1 H1 ∧ SPost G W ρ1 F1 D (whL t f m st1), ⟨fuel st, ρ, F, st, r, p⟩, ?_⟩
    rintro m σ1 H1 ⟨ρ1, F1, st1, r1, p1⟩
    cases m with
    | zero => exact p1.elim
    | succ n =>
      unfold whL at p1
      refine seqS (R := RB) (f := t) r1 p1 fun ρ2 F2 H2 k c2 k' x2 r2 e p2 => ?_
      have e : k = k' := e
      subst e
      cases k with
      | false => exact p2 ρ2 F2 σ1 H2 Ext.refl r2
      | true =>
        rw [if_pos rfl]
        rw [if_pos rfl] at p2
        refine ⟨fun σ3 H3 => ∃ ρ3 F3 st3, Rel G ρ3 F3 st3 σ3 H3 ∧ SPost G W ρ3 F3 D (whL t f n st3), fun σ3 H3 h3 => ⟨n, Nat.lt_succ_self n, h3⟩, ρ2, F2, _, r2, ?_⟩
        cases q4 : f ⟨st1.env, c2⟩ with
        | nx st4 =>
          simp only [q4] at p2
          exact fun ρ5 F5 σ5 H5 x5 r5 => ⟨ρ5, F5, st4, r5, SPost.ext x5 p2⟩
        | ct st4 =>
          simp only [q4] at p2
          exact fun ρ5 F5 σ5 H5 x5 r5 => ⟨ρ5, F5, st4, r5, SPost.ext x5 p2⟩
        | bk st4 => simp only [q4] at p2; exact p2
        | rt d4 st4 => simp only [q4] at p2; exact p2
        | ex e4 st4 => simp only [q4] at p2; exact p2
        | no => simp only [q4] at p2; exact p2
end
end VL

namespace VL
open PySem L2
/-- nothing is raised -/
abbrev W0 : WX := fun _ _ _ _ => False
def wipeD (env : List (Option D)) : List Nat → List (Option D)
  | [] => env
  | v :: vs => (wipeD env vs).set v none
theorem wipeD_length (env : List (Option D)) : ∀ vs : List Nat, (wipeD env vs).length = env.length
  | [] => rfl
  | v :: vs => by unfold wipeD; rw [List.length_set, wipeD_length env vs]
theorem wipeD_some {env : List (Option D)} {i : Nat} {x : D} : ∀ {vs : List Nat}, (wipeD env vs)[i]? = some (some x) → env[i]? = some (some x) ∧ i ∉ vs
  | [], h => ⟨h, by simp⟩
  | v :: vs, h => by
    unfold wipeD at h
    by_cases hi : v = i
    · subst hi
      by_cases hv : v < (wipeD env vs).length
      · rw [List.getElem?_set_self hv] at h; cases h
      · rw [List.getElem?_eq_none (by simpa using hv)] at h; cases h
    · rw [List.getElem?_set_ne hi] at h
      obtain ⟨h1, h2⟩ := wipeD_some h
      exact ⟨h1, by simp only [List.mem_cons, not_or]; exact ⟨fun e => hi e.symm, h2⟩⟩
theorem wipe_get {σ : St} {j : Nat} : ∀ {vs : List Nat}, (wipe σ vs)[j]? = if j ∈ vs then (if j < σ.length then some none else none) else σ[j]?
  | [] => by simp [wipe]
  | v :: vs => by
    unfold wipe
    by_cases hj : v = j
    · subst hj
      rw [if_pos List.mem_cons_self]
      by_cases hv : v < σ.length
      · rw [if_pos hv, List.getElem?_set_self (by rw [wipe_length]; exact hv)]
      · rw [if_neg hv, List.getElem?_eq_none (by rw [List.length_set, wipe_length]; omega)]
    · rw [List.getElem?_set_ne hj, wipe_get (vs := vs)]
      by_cases h : j ∈ vs
      · rw [if_pos h, if_pos (List.mem_cons_of_mem _ h)]
      · rw [if_neg h, if_neg (fun z => (List.mem_cons.mp z).elim (fun e => hj e.symm) h)]
theorem wipe_but {vs sl : List Nat} {σ σ' : St} (h : But sl (wipe σ vs) σ') (hs : ∀ i ∈ sl, i ∈ vs) : wipe σ' vs = wipe σ vs := by
  have hl : σ'.length = σ.length := by rw [h.1, wipe_length]
  refine List.ext_getElem? fun j => ?_
  rw [wipe_get, wipe_get]
  by_cases hj : j ∈ vs
  · rw [if_pos hj, if_pos hj, hl]
  · rw [if_neg hj, if_neg hj, h.2 j (fun z => hj (hs j z)), wipe_get, if_neg hj]
section
variable {X : Cx} {G : Gx} {ρ ρ' : List Addr} {F F' : Hp} {st : S} {σ σ' : St} {H H' : Hp}
theorem Rel.wiped (r : Rel G ρ F st σ H) (vs : List Nat) : Rel G ρ F ⟨wipeD st.env vs, st.cs⟩ (wipe σ vs) H :=
  ⟨by show (wipeD st.env vs).length = _; rw [wipeD_length, wipe_length, r.len], fun i d e => by
    obtain ⟨h1, h2⟩ := wipeD_some e
    obtain ⟨v, e1, e2⟩ := r.env i d h1
    exact ⟨v, by rw [wipe_get, if_neg h2]; exact e1, e2⟩, r.cl, r.cell, r.nd, r.fz, r.sep, r.fr, r.own, r.new, r.old, r.a0⟩
/-- back to elder slots -/
theorem Rel.back {env env' : List (Option D)} {cs cs' : List Cell} (r : Rel G ρ F ⟨env, cs⟩ σ H) (x : Ext ρ F ρ' F') (r' : Rel G ρ' F' ⟨env', cs'⟩ σ' H') : Rel G ρ' F' ⟨env, cs'⟩ σ H' :=
  ⟨r.len, fun i d e => let ⟨v, e1, e2⟩ := r.env i d e; ⟨v, e1, e2.ext x⟩, r'.cl, r'.cell, r'.nd, r'.fz, r'.sep, r'.fr, r'.own, r'.new, r'.old, r'.a0⟩
end
/-! ### the own cells that a value names lie below n -/
mutual
def below (n : Nat) : D → Bool
  | .non => true
  | .bl _ => true
  | .int _ => true
  | .str _ => true
  | .tup ds => belows n ds
  | .lst ds => belows n ds
  | .frl ds => belows n ds
  | .obj _ _ ds => belows n ds
  | .cls _ => true
  | .loc m => decide (m < n)
def belows (n : Nat) : List D → Bool
  | [] => true
  | d :: r => below n d && belows n r
end
def belowC (n : Nat) : Cell → Bool
  | .lst ds => belows n ds
  | .dk _ ds => belows n ds
  | .ins _ _ ds => belows n ds
mutual
theorem RV.cut {K : Kt} {ρ : List Addr} {F F' : Hp} {n : Nat} (s : Same F F') : ∀ {d : D} {v : V}, RV K ρ F d v → below n d = true → RV K (ρ.take n) F' d v
  | _, _, .non, _ => .non
  | _, _, .bl b, _ => .bl b
  | _, _, .int i, _ => .int i
  | _, _, .str x, _ => .str x
  | _, _, .tup h r, e => .tup (sqT_same s h) (RVs.cut s r (by simpa [below] using e))
  | _, _, .lst h r, e => .lst (s _ _ h) (RVs.cut s r (by simpa [below] using e))
  | _, _, .frl h r, e => .frl (s.seq h) (RVs.cut s r (by simpa [below] using e))
  | _, _, .obj h l r, e => .obj (s _ _ h) l (RVs.cut s r (by simpa [below] using e))
  | _, _, .cls C, _ => .cls C
  | _, _, .loc h, e => .loc (by
    simp only [below, decide_eq_true_eq] at e
    rw [List.getElem?_take_of_lt e]
    exact h)
theorem RVs.cut {K : Kt} {ρ : List Addr} {F F' : Hp} {n : Nat} (s : Same F F') : ∀ {ds : List D} {vs : List V}, RVs K ρ F ds vs → belows n ds = true → RVs K (ρ.take n) F' ds vs
  | _, _, .nil, _ => .nil
  | _, _, .cons h r, e => by
    simp only [belows, Bool.and_eq_true] at e
    exact .cons (RV.cut s h e.1) (RVs.cut s r e.2)
end
theorem CellAt.cut {K : Kt} {ρ : List Addr} {F F' H : Hp} {a : Addr} {n : Nat} (s : Same F F') : ∀ {c : Cell}, CellAt K ρ F H a c → belowC n c = true → CellAt K (ρ.take n) F' H a c
  | .lst _, ⟨_, h, r⟩, e => ⟨_, h, r.cut s e⟩
  | .dk _ _, ⟨_, h, l, r⟩, e => ⟨_, h, l, r.cut s e⟩
  | .ins _ _ _, ⟨_, _, h, l, r⟩, e => ⟨_, _, h, l, r.cut s e⟩
/-- the last own cell, a list, becomes a frozen one: its place leaves the cells -/
theorem Rel.freeze {G : Gx} {ρ0 ρ : List Addr} {F0 F : Hp} {env0 env : List (Option D)} {cs0 cs : List Cell} {ds : List D} {σ0 σ : St} {H0 H : Hp} {a : Addr} {n : Nat} (r0 : Rel G ρ0 F0 ⟨env0, cs0⟩ σ0 H0) (hn : n = cs0.length) (x : Ext ρ0 F0 ρ F)
    (r : Rel G ρ F ⟨env, cs ++ [.lst ds]⟩ σ H) (hl : cs.length = n) (ha : ρ[n]? = some a) (b1 : belows n ds = true) (b2 : cs.all (belowC n) = true) :
    ∃ F', Ext ρ0 F0 ρ0 F' ∧ Rel G ρ0 F' ⟨env0, cs⟩ σ0 H ∧ RV G.K ρ0 F' (.lst ds) (.ref a) := by
  have hρ : ρ.take n = ρ0 := by
    obtain ⟨t, rfl⟩ := x.pre
    rw [hn, ← show ρ0.length = cs0.length from r0.cl, List.take_left]
  obtain ⟨vs, h1, h2⟩ := r.cell n (.lst ds) a (by
    show (cs ++ [Cell.lst ds])[n]? = _
    rw [List.getElem?_append_right (by omega), hl, Nat.sub_self]; rfl) ha
  have hm : a ∈ ρ := List.mem_of_getElem? ha
  have hFa : F a = none := r.sep a hm
  have s1 : Same F (upd F a (.lst vs)) := same_upd' hFa
  have hlen : ρ.length = n + 1 := by rw [show ρ.length = (cs ++ [Cell.lst ds]).length from r.cl, List.length_append, hl]; rfl
  have hna : a ∉ ρ0 := fun z => by
    rw [← hρ] at z
    obtain ⟨i, hi, e⟩ := List.getElem_of_mem z
    rw [List.length_take] at hi
    have hin : i < n := by omega
    rw [List.getElem_take] at e
    obtain ⟨h3, h3'⟩ := List.getElem?_eq_some_iff.mp ha
    have := (List.getElem_inj r.nd).mp (e.trans h3'.symm)
    omega
  have hA : a ∉ G.A0 := fun z => hna (r0.a0.subset z)
  have hH0 : G.H0 a = none := (r.own a hm).resolve_left hA
  refine ⟨upd F a (.lst vs), ⟨List.prefix_refl _, x.fz.trans s1⟩, ⟨r0.len, fun i d e => ?_, ?_, fun i c b e1 e2 => ?_, r0.nd, fun b o e => ?_, fun b hb => ?_, r.fr, fun b hb => r.own b (x.pre.subset hb), fun b o e => ?_, r.old.trans s1, r0.a0⟩, ?_⟩
  · obtain ⟨v, e1, e2⟩ := r0.env i d e
    exact ⟨v, e1, e2.ext ⟨List.prefix_refl _, x.fz.trans s1⟩⟩
  · show ρ0.length = cs.length
    rw [hl, hn]; exact r0.cl
  · have e1 : cs[i]? = some c := e1
    have hi : i < cs.length := (List.getElem?_eq_some_iff.mp e1).1
    have e3 : ρ[i]? = some b := x.at e2
    have := r.cell i c b (by show (cs ++ [Cell.lst ds])[i]? = _; rw [List.getElem?_append_left hi]; exact e1) e3
    have q := this.cut (n := n) s1 (List.all_eq_true.mp b2 c (List.mem_of_getElem? e1))
    rw [hρ] at q
    exact q
  · by_cases hb : b = a
    · subst hb
      rw [upd_same] at e
      cases e
      exact h1
    · rw [upd_ne hb] at e
      exact r.fz b o e
  · rw [upd_ne (show b ≠ a from fun z => hna (by rw [← z]; exact hb))]
    exact r.sep b (x.pre.subset hb)
  · by_cases hb : b = a
    · subst hb
      exact .inr hH0
    · rw [upd_ne hb] at e
      exact r.new b o e
  · have q := h2.cut (n := n) s1 b1
    rw [hρ] at q
    exact .lst upd_same q
/-! ### comprehensions -/
/-- the list is made in the cell n -/
def lcL (g : Gt) (t : Tx) (f : Ex) (keep : List Cell → Bool) (env : List (Option D)) (n : Nat) : List D → List Cell → Option (List Cell)
  | [], cs => if keep cs then some cs else none
  | d :: ds, cs => if keep cs then (match g d ⟨env, cs⟩ with
    | some st1 => (match t st1 with
      | .ok true c2 => (match f ⟨st1.env, c2⟩ with
        | .ok y c3 => (match c3[n]? with
          | some (.lst acc) => if acc.length < 16777216 then lcL g t f keep env n ds (c3.set n (.lst (acc ++ [y]))) else none
          | _ => none)
        | _ => none)
      | .ok false c2 => lcL g t f keep env n ds c2
      | _ => none)
    | none => none) else none
/-- split off the last cell -/
def lastCell (cs : List Cell) : Option (List Cell × List D) := match cs.reverse with
  | .lst ds :: r => some (r.reverse, ds)
  | _ => none
theorem lastCell_eq {cs c1 : List Cell} {ds : List D} (h : lastCell cs = some (c1, ds)) : cs = c1 ++ [.lst ds] := by
  unfold lastCell at h
  split at h
  · rename_i es r e
    cases h
    rw [← List.reverse_reverse cs, e, List.reverse_cons]
  · cases h
/-- a comprehension's list, frozen -/
def eLc (src : Ix) (g : Gt) (t : Tx) (f : Ex) (vs : List Nat) : Ex := fun st => (src st).bind fun w c1 => match lcL g t f w.2 (wipeD st.env vs) c1.length w.1 (c1 ++ [.lst []]) with
  | some c2 => (match lastCell c2 with
    | some (c3, ds) => if c3.length = c1.length ∧ belows c1.length ds = true ∧ c3.all (belowC c1.length) = true then .ok (.lst ds) c3 else .no
    | none => .no)
  | none => .no
/-- a comprehension's list, an own cell -/
def eLcLoc (src : Ix) (g : Gt) (t : Tx) (f : Ex) (vs : List Nat) : Ex := fun st => (src st).bind fun w c1 => match lcL g t f w.2 (wipeD st.env vs) c1.length w.1 (c1 ++ [.lst []]) with
  | some c2 => .ok (.loc c1.length) c2
  | none => .no
section
variable {X : Cx} {G : Gx} {W : WX} {tg iter elt : Expr} {ifs : List Expr}
theorem lc_of {src : Ix} {sl vs : List Nat} {g : Gt} {t : Tx} {f : Ex} (hsl : ∀ i ∈ sl, i ∈ vs) {k : S → Walk → List Cell → List Cell → Out D} {σ : St} {H : Hp} {Q : VK} {ρ : List Addr} {F : Hp} {st : S} (r : Rel G ρ F st σ H)
    (p : Post RV G W ρ F st.env σ Q ((src st).bind fun w c1 => match lcL g t f w.2 (wipeD st.env vs) c1.length w.1 (c1 ++ [.lst []]) with
      | some c2 => k st w c1 c2
      | none => .no))
    (fin : ∀ (w : Walk) (c1 c2 : List Cell) (ρ1 : List Addr) (F1 H1 : Hp) (ρ2 : List Addr) (F2 H2 : Hp) (a : Addr), Ext ρ F ρ1 F1 → Rel G ρ1 F1 ⟨st.env, c1⟩ σ H1 → Ext (ρ1 ++ [a]) F1 ρ2 F2 → Rel G ρ2 F2 ⟨st.env, c2⟩ σ H2 → ρ1.length = c1.length → Post RV G W ρ F st.env σ Q (k st w c1 c2) → Q (.ref a) H2) :
    tLc (tI G W src) (tG G sl g) (tTs G W0 t) (tE G W0 f) vs σ H Q := by
  refine ⟨ρ, F, st, r, ?_⟩
  cases q : src st with
  | no => rw [q] at p; exact p
  | ex e' cs =>
    rw [q] at p
    exact fun ρ' F' H' c d x r' xa => p ρ' F' H' c d x r' xa
  | ok w c1 =>
    rw [q] at p
    have p : Post RV G W ρ F st.env σ Q (match lcL g t f w.2 (wipeD st.env vs) c1.length w.1 (c1 ++ [.lst []]) with
      | some c2 => k st w c1 c2
      | none => .no) := p
    cases q2 : lcL g t f w.2 (wipeD st.env vs) c1.length w.1 (c1 ++ [.lst []]) with
    | none => rw [q2] at p; exact p.elim
    | some c2 =>
    rw [q2] at p
    obtain ⟨ds, keep⟩ := w
    have q2 : lcL g t f keep (wipeD st.env vs) c1.length ds (c1 ++ [.lst []]) = some c2 := q2
    intro ρ1 F1 H1 J x1 r1 wk D hD
    have hl1 : ρ1.length = c1.length := r1.cl
    have y0 : Ext ρ1 F1 (ρ1 ++ [D]) F1 := ⟨List.prefix_append _ _, Same.refl _⟩
    obtain ⟨_, r2⟩ := r1.cellNew (p := D) (o := .lst []) (c := .lst []) hD ⟨[], upd_same, .nil⟩
    refine ⟨fun i m H2 => ∃ ρ2 F2 cs, Ext (ρ1 ++ [D]) F1 ρ2 F2 ∧ Rel G ρ2 F2 ⟨st.env, cs⟩ σ H2 ∧ i + m = ds.length ∧ lcL g t f keep (wipeD st.env vs) c1.length (ds.drop i) cs = some c2, ⟨ds.length, ρ1 ++ [D], F1, _, Ext.refl, r2, Nat.zero_add _, q2⟩, ?_⟩
    rintro i m H2 ⟨ρ2, F2, cs, x2, r2, em, e2⟩
    cases hd : ds.drop i with
    | nil =>
      rw [hd] at e2
      unfold lcL at e2
      have hi : i = ds.length := by
        have := List.drop_eq_nil_iff.mp hd
        omega
      by_cases hk : keep cs = true
      · rw [if_pos hk] at e2
        cases e2
        exact .inl ⟨(wk ρ2 F2 _ σ H2 i (y0.trans x2) r2 hk).2 hi, fin _ _ _ _ _ _ _ _ _ _ x1 r1 x2 r2 hl1 p⟩
      · rw [if_neg hk] at e2
        cases e2
    | cons d rest =>
      rw [hd] at e2
      unfold lcL at e2
      have hi : ds[i]? = some d := by
        have := List.getElem?_drop (xs := ds) (i := i) (j := 0)
        rw [hd, Nat.add_zero] at this
        exact this.symm
      have hr : ds.drop (i + 1) = rest := by
        rw [← List.drop_drop, hd]; rfl
      by_cases hk : keep cs = true
      · rw [if_pos hk] at e2
        obtain ⟨go, yl⟩ := (wk ρ2 F2 _ σ H2 i (y0.trans x2) r2 hk).1 d hi
        refine .inr ⟨go, fun H3 => ∃ ρ3 F3 cs3, Ext (ρ1 ++ [D]) F1 ρ3 F3 ∧ Rel G ρ3 F3 ⟨st.env, cs3⟩ σ H3 ∧ lcL g t f keep (wipeD st.env vs) c1.length rest cs3 = some c2, fun H3 ⟨ρ3, F3, cs3, x3, r3, e3⟩ => ⟨m - 1, ?_, ρ3, F3, cs3, x3, r3, ?_, by rw [hr]; exact e3⟩, fun y H3 hy => ?_⟩
        · have := (List.getElem?_eq_some_iff.mp hi).1
          omega
        · have := (List.getElem?_eq_some_iff.mp hi).1
          omega
        · obtain ⟨ρ3, F3, x3, _, _, r3, rv3⟩ := yl y H3 hy
          have x23 := x2.trans x3
          cases q3 : g d ⟨wipeD st.env vs, cs⟩ with
          | none => simp only [q3] at e2; cases e2
          | some st1 =>
            simp only [q3] at e2
            refine ⟨ρ3, F3, _, d, st1, r3.wiped vs, rv3, q3, fun σ4 r4 b4 => ⟨wipe_but b4 hsl, ρ3, F3, st1, r4, ?_⟩⟩
            cases q4 : t st1 with
            | no => simp only [q4] at e2; cases e2
            | ex _ _ => simp only [q4] at e2; cases e2
            | ok b c4 =>
              intro ρ5 F5 H5 b' x5 r5 eb
              have eb : b = b' := eb
              subst eb
              cases b with
              | false =>
                simp only [q4] at e2
                exact ⟨ρ5, F5, c4, x23.trans x5, r3.back x5 r5, e2⟩
              | true =>
                simp only [q4] at e2
                rw [if_pos rfl]
                refine ⟨ρ5, F5, _, r5, ?_⟩
                cases q6 : f ⟨st1.env, c4⟩ with
                | no => simp only [q6] at e2; cases e2
                | ex _ _ => simp only [q6] at e2; cases e2
                | ok z c6 =>
                  simp only [q6] at e2
                  intro ρ7 F7 H7 v x7 r7 rv7
                  cases q7 : c6[c1.length]? with
                  | none => simp only [q7] at e2; cases e2
                  | some c0 =>
                    cases c0 with
                    | dk _ _ => simp only [q7] at e2; cases e2
                    | ins _ _ _ => simp only [q7] at e2; cases e2
                    | lst acc =>
                      simp only [q7] at e2
                      by_cases hz : acc.length < 16777216
                      · rw [if_pos hz] at e2
                        have x27 := (x23.trans x5).trans x7
                        have hat : ρ7[c1.length]? = some D := x27.at (by
                          rw [← hl1, List.getElem?_append_right (Nat.le_refl _), Nat.sub_self]; rfl)
                        obtain ⟨ws, h8, h9⟩ := r7.cell _ _ _ q7 hat
                        refine ⟨ws, h8, by rw [← h9.length, sizeLine_eq]; exact hz, ρ7, F7, _, x27, ?_, e2⟩
                        have r8 := r3.back (x5.trans x7) r7
                        exact r8.cellSet (c := .lst (acc ++ [z])) hat ⟨_, upd_same, h9.append (RVs.one rv7)⟩
                      · rw [if_neg hz] at e2
                        cases e2
      · rw [if_neg hk] at e2
        cases e2
variable {scope : Scope} {own : List (Str × Nat)} {pos : Pos} {src : Ix} {sl : List Nat} {g : Gt} {t : Tx} {f : Ex}
theorem eLc_of (hsl : ∀ i ∈ sl, i ∈ own.map (·.2)) : ∀ σ H Q, tE G W (eLc src g t f (own.map (·.2))) σ H Q → tLc (tI G W src) (tG G sl g) (tTs G W0 t) (tE G W0 f) (own.map (·.2)) σ H Q := fun σ H Q ⟨ρ, F, st, r, p⟩ =>
  lc_of hsl (k := fun _ _ c1 c2 => match lastCell c2 with
    | some (c3, ds) => if c3.length = c1.length ∧ belows c1.length ds = true ∧ c3.all (belowC c1.length) = true then .ok (.lst ds) c3 else .no
    | none => .no) r p fun w c1 c2 ρ1 F1 H1 ρ2 F2 H2 a x1 r1 x2 r2 hl p2 => by
    cases q : lastCell c2 with
    | none => simp only [q] at p2; exact p2.elim
    | some z =>
      obtain ⟨c3, ds⟩ := z
      simp only [q] at p2
      have e := lastCell_eq q
      subst e
      by_cases c : c3.length = c1.length ∧ belows c1.length ds = true ∧ c3.all (belowC c1.length) = true
      · rw [if_pos c] at p2
        have y0 : Ext ρ1 F1 (ρ1 ++ [a]) F1 := ⟨List.prefix_append _ _, Same.refl _⟩
        obtain ⟨F', x3, r3, rv3⟩ := Rel.freeze (a := a) r1 rfl (y0.trans x2) r2 c.1 (x2.at (by rw [← hl, List.getElem?_append_right (Nat.le_refl _), Nat.sub_self]; rfl)) c.2.1 c.2.2
        exact p2 ρ1 F' H2 _ (x1.trans x3) r3 rv3
      · rw [if_neg c] at p2
        exact p2.elim
theorem eLcLoc_of (hsl : ∀ i ∈ sl, i ∈ own.map (·.2)) : ∀ σ H Q, tE G W (eLcLoc src g t f (own.map (·.2))) σ H Q → tLc (tI G W src) (tG G sl g) (tTs G W0 t) (tE G W0 f) (own.map (·.2)) σ H Q := fun σ H Q ⟨ρ, F, st, r, p⟩ =>
  lc_of hsl (k := fun _ _ c1 c2 => .ok (.loc c1.length) c2) r p fun w c1 c2 ρ1 F1 H1 ρ2 F2 H2 a x1 r1 x2 r2 hl p2 => by
    have y0 : Ext ρ1 F1 (ρ1 ++ [a]) F1 := ⟨List.prefix_append _ _, Same.refl _⟩
    exact p2 ρ2 F2 H2 _ (x1.trans (y0.trans x2)) r2 (.loc (x2.at (by rw [← hl, List.getElem?_append_right (Nat.le_refl _), Nat.sub_self]; rfl)))
theorem de_lc (hc : X.calm = true) (hN : X.N.Nodup) (hi : PI X tg iter (tI G W src)) (ok : BlkOk X.N X.env.scope scope own) (hsl : ∀ i ∈ sl, i ∈ own.map (·.2))
    (hg : ∀ (s : Shared) (H : Hp) (C : Addr) (cl : List (Str × Addr)) (fp : List Addr), PG (X.blk s H scope (compEnvC scope cl C X.env) fp) tg (tG G sl g)) (ht : ∀ (s : Shared) (H : Hp) (C : Addr) (cl : List (Str × Addr)) (fp : List Addr), PTs (X.blk s H scope (compEnvC scope cl C X.env) fp) ifs (tTs G W0 t))
    (he : ∀ (s : Shared) (H : Hp) (C : Addr) (cl : List (Str × Addr)) (fp : List Addr), PE (X.blk s H scope (compEnvC scope cl C X.env) fp) elt (tE G W0 f)) (hs : ∀ x, foldedSetIterable iter X.env x = pure x := by intro _; rfl) :
    PE X (.ListComp elt [⟨tg, iter, ifs, 0⟩] scope pos) (tE G W (eLc src g t f (own.map (·.2)))) := (pe_lc hc hN hi ok hg ht he hs).impV (eLc_of hsl)
theorem de_lcLoc (hc : X.calm = true) (hN : X.N.Nodup) (hi : PI X tg iter (tI G W src)) (ok : BlkOk X.N X.env.scope scope own) (hsl : ∀ i ∈ sl, i ∈ own.map (·.2))
    (hg : ∀ (s : Shared) (H : Hp) (C : Addr) (cl : List (Str × Addr)) (fp : List Addr), PG (X.blk s H scope (compEnvC scope cl C X.env) fp) tg (tG G sl g)) (ht : ∀ (s : Shared) (H : Hp) (C : Addr) (cl : List (Str × Addr)) (fp : List Addr), PTs (X.blk s H scope (compEnvC scope cl C X.env) fp) ifs (tTs G W0 t))
    (he : ∀ (s : Shared) (H : Hp) (C : Addr) (cl : List (Str × Addr)) (fp : List Addr), PE (X.blk s H scope (compEnvC scope cl C X.env) fp) elt (tE G W0 f)) (hs : ∀ x, foldedSetIterable iter X.env x = pure x := by intro _; rfl) :
    PE X (.ListComp elt [⟨tg, iter, ifs, 0⟩] scope pos) (tE G W (eLcLoc src g t f (own.map (·.2)))) := (pe_lc hc hN hi ok hg ht he hs).impV (eLcLoc_of hsl)
def tTrue : Tx := fun st => .ok true st.cs
theorem dts_nil : PTs X [] (tTs G W tTrue) := ⟨fun pins s σ H Q I ⟨ρ, F, st, r, p⟩ => pts_nil.run pins s σ H Q I (p.here r rfl)⟩
theorem dts_one {c : Expr} (h : PT X c (tTs G W t)) : PTs X [c] (tTs G W t) := pts_one h
end
end VL

namespace VL
open PySem L2
/-! ### a def's promise by a plain function -/
abbrev Fn := List D → List Cell → Out D
/-- the entry's facts: what is handed in and the cells that may be changed -/
def OPost (G : Gx) (Q : VK) (E : XK) : Out D → Prop
  | .ok d cs => ∀ ρ F H v, Ext G.A0 G.F0 ρ F → Rel G ρ F ⟨[], cs⟩ [] H → RV G.K ρ F d v → Q v H
  | .ex e cs => ∀ ρ F H cls dx, Ext G.A0 G.F0 ρ F → Rel G ρ F ⟨[], cs⟩ [] H → XAt G.K ρ F e cls dx → E cls dx H
  | .no => False
def spF (K : Kt) (n : Nat) (fn : Fn) : Sp := fun vs H Q E => ∃ (ρ0 : List Addr) (F0 : Hp) (ds : List D) (cs : List Cell), Rel ⟨K, H, F0, ρ0⟩ ρ0 F0 ⟨[], cs⟩ [] H ∧ RVs K ρ0 F0 ds vs ∧ ds.length = n ∧ OPost ⟨K, H, F0, ρ0⟩ Q E (fn ds cs)
theorem spF_len {K : Kt} {n : Nat} {fn : Fn} {vs : List V} {H : Hp} {Q : VK} {E : XK} (h : spF K n fn vs H Q E) : vs.length = n := by
  obtain ⟨ρ0, F0, ds, cs, _, r, e, _⟩ := h
  rw [← r.length, e]
def startD (n : Nat) (ds : List D) : List (Option D) := ds.map some ++ List.replicate (n - ds.length) none
/-- a body as a function; its own cells stay -/
def runF (n : Nat) (body : Sx) : Fn := fun ds cs => match body ⟨startD n ds, cs⟩ with
  | .rt d st => .ok d st.cs
  | .nx st => .ok .non st.cs
  | .ex e st => .ex e st.cs
  | _ => .no
theorem start_rel {G : Gx} {ρ : List Addr} {F H : Hp} {cs : List Cell} {ds : List D} {vs : List V} {N : List Str} (r : Rel G ρ F ⟨[], cs⟩ [] H) (rv : RVs G.K ρ F ds vs) : Rel G ρ F ⟨startD N.length ds, cs⟩ (start N vs) H := by
  refine ⟨?_, fun i d e => ?_, r.cl, r.cell, r.nd, r.fz, r.sep, r.fr, r.own, r.new, r.old, r.a0⟩
  · show (startD N.length ds).length = _
    unfold startD L2.start
    rw [List.length_append, List.length_append, List.length_map, List.length_map, List.length_replicate, List.length_replicate, rv.length]
  · have e : (startD N.length ds)[i]? = some (some d) := e
    unfold startD at e
    unfold L2.start
    by_cases hi : i < ds.length
    · rw [List.getElem?_append_left (by rw [List.length_map]; exact hi), List.getElem?_map] at e
      cases q : ds[i]? with
      | none => rw [q] at e; cases e
      | some d' =>
        rw [q] at e
        cases e
        obtain ⟨v, e1, e2⟩ := rv.get q
        refine ⟨v, ?_, e2⟩
        rw [List.getElem?_append_left (by rw [List.length_map, ← rv.length]; exact hi), List.getElem?_map, e1]
        rfl
    · rw [List.getElem?_append_right (by rw [List.length_map]; omega), List.getElem?_replicate] at e
      split at e <;> cases e
theorem Rel.noenv {G : Gx} {ρ : List Addr} {F H : Hp} {st : S} {σ : St} (r : Rel G ρ F st σ H) : Rel G ρ F ⟨[], st.cs⟩ [] H :=
  ⟨rfl, fun i d e => by simp at e, r.cl, r.cell, r.nd, r.fz, r.sep, r.fr, r.own, r.new, r.old, r.a0⟩
section
variable {P : Program} {w : World} {K : Kt} {mg : Str → Option Value} {base : Heap}
theorem body_of {N : List Str} {body : Sx} {vs : List V} {H : Hp} {Q : VK} {E : XK} {ps : Nat} (h : spF K ps (runF N.length body) vs H Q E) :
    ∃ G : Gx, G.K = K ∧ tS G (fun cls d _ H' => E cls d H') body { nx := fun _ H' => Q .non H', rt := Q } (start N vs) H := by
  obtain ⟨ρ0, F0, ds, cs, r, rv, _, p⟩ := h
  refine ⟨⟨K, H, F0, ρ0⟩, rfl, ρ0, F0, _, start_rel r rv, ?_⟩
  unfold runF at p
  cases q : body ⟨startD N.length ds, cs⟩ with
  | nx st => rw [q] at p; exact fun ρ F σ H x r' => p ρ F H .non x r'.noenv .non
  | rt d st => rw [q] at p; exact fun ρ F σ H v x r' rv' => p ρ F H v x r'.noenv rv'
  | ex e st => rw [q] at p; exact fun ρ F σ H c d x r' xa => p ρ F H c d x r'.noenv xa
  | bk st => rw [q] at p; exact p.elim
  | ct st => rw [q] at p; exact p.elim
  | no => rw [q] at p; exact p.elim
/-- THE RULE: a def by its body's plain function -/
theorem okV {x qual : Str} {st : Stmt} {f : Addr} {fd : FuncData} {N ps : List Str} {k : Nat} {body : Sx} (F : Fun K.K x qual st f fd) (S : FnScope N ps (defScope st))
    (hbody : ∀ (G : Gx), G.K = K → ∀ (cdv : Value) (A : Around) (outer : List Env) (s : Shared) (H : Hp) (E : XK), Room k (A.deeper (PyProof.Rows.envOfC qual (defScope st) s.heap.objs.size f cdv)) →
      PSs (cxOf (L2.CX P w) P w K.K mg base N qual (defScope st) f cdv A outer s H E) (defBody st) (tS G (fun cls d _ H' => E cls d H') body)) :
    FnOk P w K.K mg base (L2.CX P w) (k + 1) f fd ps (spF K ps.length (runF N.length body)) := by
  refine F.okX S (fun vs H Q E h => spF_len h) (fun cdv A outer s H vs Q E hr h => ?_)
  obtain ⟨G, e, t⟩ := body_of h
  exact ⟨_, hbody G e cdv A outer s H E hr, t⟩
end
/-! ### a call: all cells are handed on -/
section
variable {X : Cx} {G : Gx} {W : WX} {ρ : List Addr} {F : Hp} {st : S} {σ : St} {H : Hp} {e : Expr} {es : List Expr} {g : Ax} {pos : Pos}
/-- what a call leaves, seen from the caller -/
theorem Rel.after {ρ' : List Addr} {F' H' : Hp} {cs' : List Cell} (r : Rel G ρ F st σ H) (x : Ext ρ F ρ' F') (r' : Rel ⟨G.K, H, F, ρ⟩ ρ' F' ⟨[], cs'⟩ [] H') : Rel G ρ' F' ⟨st.env, cs'⟩ σ H' := by
  have old : ∀ a, a ∈ ρ → a ∈ G.A0 ∨ G.H0 a = none := r.own
  refine ⟨r.len, fun i d e => ?_, r'.cl, r'.cell, r'.nd, r'.fz, r'.sep, fun a o e1 e2 => ?_, fun a ha => ?_, fun a o e1 => ?_, r.old.trans x.fz, r.a0.trans x.pre⟩
  · obtain ⟨v, e1, e2⟩ := r.env i d e
    exact ⟨v, e1, e2.ext x⟩
  · refine r'.fr a o (r.fr a o e1 e2) fun z => ?_
    rcases old a z with q | q
    · exact e2 q
    · rw [q] at e1; cases e1
  · rcases r'.own a ha with q | q
    · exact old a q
    · exact .inr (r.free0 q)
  · rcases r'.new a o e1 with q | q
    · exact r.new a o q
    · exact .inr (r.free0 q)
theorem Rel.entry (r : Rel G ρ F st σ H) : Rel ⟨G.K, H, F, ρ⟩ ρ F ⟨[], st.cs⟩ [] H :=
  ⟨rfl, fun i d e => by simp at e, r.cl, r.cell, r.nd, r.fz, r.sep, fun _ _ h _ => h, fun _ h => .inl h, fun _ _ h => .inl h, Same.refl _, List.prefix_refl _⟩
def eCallAll (fn : Fn) (g : Ax) : Ex := fun st => (g st).bind fun ds c1 => fn ds c1
theorem callAll_of {fn : Fn} {ds : List D} {vs : List V} {Q : VK} {n : Nat} (r : Rel G ρ F st σ H) (rv : RVs G.K ρ F ds vs) (hn : ds.length = n) (p : Post RV G W ρ F st.env σ Q (fn ds st.cs)) : spF G.K n fn vs H Q (WE W σ) := by
  refine ⟨ρ, F, ds, st.cs, r.entry, rv, hn, ?_⟩
  cases q : fn ds st.cs with
  | ok d cs' => rw [q] at p; exact fun ρ' F' H' v x r' rv' => p ρ' F' H' v x (r.after x r') rv'
  | ex e cs' => rw [q] at p; exact fun ρ' F' H' c d x r' xa => p ρ' F' H' c d x (r.after x r') xa
  | no => rw [q] at p; exact p
/-! ### a call: the first n cells are handed on -/
/-- the cells from n on are lent as frozen lists -/
def lendD (n : Nat) (cs : List Cell) : D → D
  | .loc m => if m < n then .loc m else (match cs[m]? with
    | some (.lst ds) => .lst ds
    | _ => .loc m)
  | d => d
mutual
def noLst : D → Bool
  | .non => true
  | .bl _ => true
  | .int _ => true
  | .str _ => true
  | .tup ds => noLsts ds
  | .lst _ => false
  | .frl _ => false
  | .obj _ _ ds => noLsts ds
  | .cls _ => true
  | .loc _ => true
def noLsts : List D → Bool
  | [] => true
  | d :: r => noLst d && noLsts r
end
def noLstC : Cell → Bool
  | .lst ds => noLsts ds
  | .dk _ ds => noLsts ds
  | .ins _ _ ds => noLsts ds
/-- a call that is handed the first n cells -/
def callV (n : Nat) (fn : Fn) (ds : List D) (cs : List Cell) : Out D :=
  if n ≤ cs.length ∧ belows n (ds.map (lendD n cs)) = true ∧ (cs.take n).all (belowC n) = true then
    match fn (ds.map (lendD n cs)) (cs.take n) with
    | .ok d cs' => if cs'.length = n ∧ (belows n ds = true ∨ (noLst d = true ∧ cs'.all noLstC = true)) then .ok d (cs' ++ cs.drop n) else .no
    | .ex e cs' => if cs'.length = n ∧ (belows n ds = true ∨ (noLsts e.ds = true ∧ cs'.all noLstC = true)) then .ex e (cs' ++ cs.drop n) else .no
    | .no => .no
  else .no
/-- the heap that is lent: the lists among the cells from n on are frozen -/
def lentF (ρ : List Addr) (n : Nat) (F H : Hp) : Hp := fun a => if a ∈ ρ.drop n then (match H a with
  | some (.lst vs) => some (.lst vs)
  | _ => none) else F a
/-- .. and taken back -/
def backF (ρ : List Addr) (n : Nat) (F' : Hp) : Hp := fun a => if a ∈ ρ.drop n then none else F' a

section
variable {n : Nat} {F' H' : Hp}
theorem drop_mem {a : Addr} (h : a ∈ ρ.drop n) : a ∈ ρ := List.mem_of_mem_drop h
theorem Rel.sameLent (r : Rel G ρ F st σ H) : Same F (lentF ρ n F H) := fun a o e => by
  unfold lentF
  by_cases h : a ∈ ρ.drop n
  · rw [r.sep a (drop_mem h)] at e; cases e
  · rw [if_neg h]; exact e
theorem lent_same (r : Rel G ρ F st σ H) : Same (lentF ρ n F H) H := fun a o e => by
  unfold lentF at e
  by_cases h : a ∈ ρ.drop n
  · rw [if_pos h] at e
    cases q : H a with
    | none => rw [q] at e; cases e
    | some u =>
      rw [q] at e
      cases u <;> first | cases e <;> rfl | cases e
  · rw [if_neg h] at e
    exact r.fz a o e
theorem take_drop_ne {a : Addr} (nd : ρ.Nodup) (h1 : a ∈ ρ.take n) (h2 : a ∈ ρ.drop n) : False := by
  have := List.take_append_drop n ρ
  rw [← this] at nd
  exact (List.nodup_append.mp nd).2.2 a h1 a h2 rfl
/-- the entry of such a call -/
theorem Rel.entryN (r : Rel G ρ F st σ H) (hn : n ≤ st.cs.length) (hb : (st.cs.take n).all (belowC n) = true) : Rel ⟨G.K, H, lentF ρ n F H, ρ.take n⟩ (ρ.take n) (lentF ρ n F H) ⟨[], st.cs.take n⟩ [] H := by
  refine ⟨rfl, fun i d e => by simp at e, ?_, fun i c a e1 e2 => ?_, r.nd.sublist (List.take_sublist _ _), lent_same r, fun a ha => ?_, fun _ _ h _ => h, fun _ h => .inl h, fun _ _ h => .inl h, Same.refl _, List.prefix_refl _⟩
  · show (ρ.take n).length = (st.cs.take n).length
    rw [List.length_take, List.length_take, r.cl]
  · have e1 : (st.cs.take n)[i]? = some c := e1
    have hi : i < n := by
      have := (List.getElem?_eq_some_iff.mp e1).1
      rw [List.length_take] at this
      omega
    have q := r.cell i c a (by rw [← List.getElem?_take_of_lt hi]; exact e1) (by rw [← List.getElem?_take_of_lt hi]; exact e2)
    exact q.cut r.sameLent (List.all_eq_true.mp hb c (List.mem_of_getElem? e1))
  · unfold lentF
    rw [if_neg fun z => take_drop_ne r.nd ha z]
    exact r.sep a (List.mem_of_mem_take ha)
theorem lend_rel (r : Rel G ρ F st σ H) : ∀ {ds : List D} {vs : List V}, RVs G.K ρ F ds vs → belows n (ds.map (lendD n st.cs)) = true → RVs G.K (ρ.take n) (lentF ρ n F H) (ds.map (lendD n st.cs)) vs
  | _, _, .nil, _ => .nil
  | d :: ds, v :: vs, .cons h t, e => by
    rw [List.map_cons] at e ⊢
    simp only [belows, Bool.and_eq_true] at e
    refine .cons ?_ (lend_rel r t e.2)
    have e := e.1
    cases h with
    | @loc m a h =>
      unfold lendD at e ⊢
      simp only at e ⊢
      by_cases c : m < n
      · rw [if_pos c] at e ⊢
        exact .loc (by rw [List.getElem?_take_of_lt c]; exact h)
      · rw [if_neg c] at e ⊢
        cases q : st.cs[m]? with
        | none => simp only [q, below, decide_eq_true_eq] at e; exact absurd e c
        | some c0 =>
          cases c0 with
          | lst es =>
            simp only [q, below] at e ⊢
            obtain ⟨vs, h1, h2⟩ := r.cell m _ _ q h
            have hm : a ∈ ρ.drop n := by
              refine List.mem_of_getElem? (i := m - n) ?_
              rw [List.getElem?_drop, Nat.add_sub_cancel' (by omega)]
              exact h
            refine .lst ?_ (h2.cut r.sameLent e)
            unfold lentF
            rw [if_pos hm, h1]
          | dk _ _ => simp only [q, below, decide_eq_true_eq] at e; exact absurd e c
          | ins _ _ _ => simp only [q, below, decide_eq_true_eq] at e; exact absurd e c
    | non => exact .non
    | bl b => exact .bl b
    | int i => exact .int i
    | str x => exact .str x
    | tup h1 h2 => exact RV.cut r.sameLent (.tup h1 h2) e
    | lst h1 h2 => exact RV.cut r.sameLent (.lst h1 h2) e
    | frl h1 h2 => exact RV.cut r.sameLent (.frl h1 h2) e
    | obj h1 h2 h3 => exact RV.cut r.sameLent (.obj h1 h2 h3) e
    | cls C => exact .cls C
/-- what is frozen behind the call and is no lent list stays behind -/
theorem lent_back {Fl : Hp} (r : Rel G ρ F st σ H) (hf : ∀ a o, Fl a = some o → lentF ρ n F H a = some o ∨ H a = none) {a : Addr} {o : HO} (e : Fl a = some o) (hno : ∀ vs, o ≠ .lst vs) : backF ρ n Fl a = some o := by
  unfold backF
  by_cases h : a ∈ ρ.drop n
  · rcases hf a o e with q | q
    · unfold lentF at q
      rw [if_pos h] at q
      cases z : H a with
      | none => rw [z] at q; cases q
      | some u =>
        rw [z] at q
        cases u <;> first | (cases q; exact absurd rfl (hno _)) | cases q
    · exact absurd (drop_mem h) (r.free q)
  · rw [if_neg h]; exact e
mutual
theorem RV.lentBack {Fl : Hp} (r : Rel G ρ F st σ H) (hf : ∀ a o, Fl a = some o → lentF ρ n F H a = some o ∨ H a = none) : ∀ {d : D} {v : V}, RV G.K (ρ.take n) Fl d v → noLst d = true → RV G.K ρ (backF ρ n Fl) d v
  | _, _, .non, _ => .non
  | _, _, .bl b, _ => .bl b
  | _, _, .int i, _ => .int i
  | _, _, .str x, _ => .str x
  | _, _, .tup h t, e => .tup (by
      rcases h with (h | ⟨o, h⟩) | h
      · exact .inl (.inl (lent_back r hf h fun vs z => nomatch z))
      · exact .inl (.inr ⟨o, lent_back r hf h fun vs z => nomatch z⟩)
      · exact .inr h) (RVs.lentBack r hf t (by simpa [noLst] using e))
  | _, _, .lst _ _, e => by simp [noLst] at e
  | _, _, .frl _ _, e => by simp [noLst] at e
  | _, _, .obj h l t, e => .obj (lent_back r hf h fun vs z => nomatch z) l (RVs.lentBack r hf t (by simpa [noLst] using e))
  | _, _, .cls C, _ => .cls C
  | _, _, .loc h, _ => .loc (by
      obtain ⟨h1, h2⟩ := List.getElem?_eq_some_iff.mp h
      rw [List.length_take] at h1
      rw [List.getElem?_take_of_lt (by omega)] at h
      exact h)
theorem RVs.lentBack {Fl : Hp} (r : Rel G ρ F st σ H) (hf : ∀ a o, Fl a = some o → lentF ρ n F H a = some o ∨ H a = none) : ∀ {ds : List D} {vs : List V}, RVs G.K (ρ.take n) Fl ds vs → noLsts ds = true → RVs G.K ρ (backF ρ n Fl) ds vs
  | _, _, .nil, _ => .nil
  | _, _, .cons h t, e => by
    simp only [noLsts, Bool.and_eq_true] at e
    exact .cons (RV.lentBack r hf h e.1) (RVs.lentBack r hf t e.2)
end
theorem cellLentBack {Fl : Hp} {a : Addr} (r : Rel G ρ F st σ H) (hf : ∀ a o, Fl a = some o → lentF ρ n F H a = some o ∨ H a = none) : ∀ {c : Cell}, CellAt G.K (ρ.take n) Fl H' a c → noLstC c = true → CellAt G.K ρ (backF ρ n Fl) H' a c
  | .lst _, ⟨_, h, t⟩, e => ⟨_, h, RVs.lentBack r hf t e⟩
  | .dk _ _, ⟨_, h, l, t⟩, e => ⟨_, h, l, RVs.lentBack r hf t e⟩
  | .ins _ _ _, ⟨_, _, h, l, t⟩, e => ⟨_, _, h, l, RVs.lentBack r hf t e⟩
/-- behind the call: the caller's state again; ok: cells and value can be read without what was lent -/
theorem Rel.afterN {Fl : Hp} {ρ' : List Addr} {cs' : List Cell} (r : Rel G ρ F st σ H) (hn : n ≤ st.cs.length) (x : Ext (ρ.take n) (lentF ρ n F H) ρ' Fl) (r' : Rel ⟨G.K, H, lentF ρ n F H, ρ.take n⟩ ρ' Fl ⟨[], cs'⟩ [] H') (hl : cs'.length = n)
    (hc : ∀ c a, c ∈ cs' → CellAt G.K (ρ.take n) Fl H' a c → CellAt G.K ρ (backF ρ n Fl) H' a c) :
    ρ' = ρ.take n ∧ Ext ρ F ρ (backF ρ n Fl) ∧ Rel G ρ (backF ρ n Fl) ⟨st.env, cs' ++ st.cs.drop n⟩ σ H' := by
  have eρ : ρ' = ρ.take n := by
    obtain ⟨t, ht⟩ := x.pre
    have hlen : ρ'.length = n := by rw [show ρ'.length = cs'.length from r'.cl, hl]
    have : t = [] := by
      have := congrArg List.length ht
      rw [List.length_append, List.length_take, hlen, r.cl] at this
      exact List.length_eq_zero_iff.mp (by omega)
    rw [← ht, this, List.append_nil]
  subst eρ
  have hsF : Same F (backF ρ n Fl) := fun a o e => by
    unfold backF
    rw [if_neg fun z => by rw [r.sep a (drop_mem z)] at e; cases e]
    exact x.fz a o (r.sameLent a o e)
  have y : Ext ρ F ρ (backF ρ n Fl) := ⟨List.prefix_refl _, hsF⟩
  have hsH : Same (backF ρ n Fl) H' := fun a o e => by
    unfold backF at e
    by_cases h : a ∈ ρ.drop n
    · rw [if_pos h] at e; cases e
    · rw [if_neg h] at e
      exact r'.fz a o e
  have keepD : ∀ a ∈ ρ.drop n, H' a = H a := fun a ha => by
    obtain ⟨o, e⟩ := r.inρ (drop_mem ha)
    rw [e]
    exact r'.fr a o e fun z => take_drop_ne r.nd z ha
  refine ⟨rfl, y, ⟨r.len, fun i d e => ?_, ?_, fun i c a e1 e2 => ?_, r.nd, hsH, fun a ha => ?_, fun a o e1 e2 => ?_, r.own, fun a o e => ?_, r.old.trans hsF, r.a0⟩⟩
  · obtain ⟨v, e1, e2⟩ := r.env i d e
    exact ⟨v, e1, e2.ext y⟩
  · show ρ.length = (cs' ++ st.cs.drop n).length
    rw [List.length_append, List.length_drop, hl, r.cl]
    omega
  · have e1 : (cs' ++ st.cs.drop n)[i]? = some c := e1
    by_cases hi : i < n
    · rw [List.getElem?_append_left (by rw [hl]; exact hi)] at e1
      exact hc c a (List.mem_of_getElem? e1) (r'.cell i c a e1 (by rw [List.getElem?_take_of_lt hi]; exact e2))
    · rw [List.getElem?_append_right (by rw [hl]; omega), hl, List.getElem?_drop, Nat.add_sub_cancel' (by omega)] at e1
      have hm : a ∈ ρ.drop n := by
        refine List.mem_of_getElem? (i := i - n) ?_
        rw [List.getElem?_drop, Nat.add_sub_cancel' (by omega)]
        exact e2
      exact (r.cell i c a e1 e2).ext y (keepD a hm)
  · unfold backF
    by_cases h : a ∈ ρ.drop n
    · rw [if_pos h]
    · rw [if_neg h]
      have : a ∈ ρ.take n := by
        rw [← List.take_append_drop n ρ] at ha
        exact (List.mem_append.mp ha).resolve_right h
      exact r'.sep a this
  · refine r'.fr a o (r.fr a o e1 e2) fun z => ?_
    rcases r.own a (List.mem_of_mem_take z) with q | q
    · exact e2 q
    · rw [q] at e1; cases e1
  · unfold backF at e
    by_cases h : a ∈ ρ.drop n
    · rw [if_pos h] at e; cases e
    · rw [if_neg h] at e
      rcases r'.new a o e with q | q
      · have q : lentF ρ n F H a = some o := q
        unfold lentF at q
        rw [if_neg h] at q
        exact r.new a o q
      · exact .inr (r.free0 q)
end

section
variable {n m k : Nat} {fn : Fn} {Q : VK} {ds : List D} {vs : List V}
theorem below_cell_mono {c : Cell} {K : Kt} {ρ : List Addr} {F H : Hp} {a : Addr} (h : CellAt K (ρ.take n) F H a c) : CellAt K ρ F H a c := h.ext ⟨List.take_prefix _ _, Same.refl _⟩ rfl
theorem noLent {Fl : Hp} (r : Rel G ρ F st σ H) (hF : ∀ a ∈ ρ.drop n, Fl a = none) : backF ρ n Fl = Fl := by
  funext a
  unfold backF
  by_cases h : a ∈ ρ.drop n
  · rw [if_pos h, hF a h]
  · rw [if_neg h]
/-- nothing is lent: the entry with F itself -/
theorem Rel.entryP (r : Rel G ρ F st σ H) (hb : (st.cs.take n).all (belowC n) = true) : Rel ⟨G.K, H, F, ρ.take n⟩ (ρ.take n) F ⟨[], st.cs.take n⟩ [] H := by
  refine ⟨rfl, fun i d e => by simp at e, ?_, fun i c a e1 e2 => ?_, r.nd.sublist (List.take_sublist _ _), r.fz, fun a ha => r.sep a (List.mem_of_mem_take ha), fun _ _ h _ => h, fun _ h => .inl h, fun _ _ h => .inl h, Same.refl _, List.prefix_refl _⟩
  · show (ρ.take n).length = (st.cs.take n).length
    rw [List.length_take, List.length_take, r.cl]
  · have e1 : (st.cs.take n)[i]? = some c := e1
    have hi : i < n := by
      have := (List.getElem?_eq_some_iff.mp e1).1
      rw [List.length_take] at this
      omega
    have q := r.cell i c a (by rw [← List.getElem?_take_of_lt hi]; exact e1) (by rw [← List.getElem?_take_of_lt hi]; exact e2)
    exact q.cut (Same.refl _) (List.all_eq_true.mp hb c (List.mem_of_getElem? e1))
theorem lend_below : ∀ {ds : List D} {cs : List Cell}, belows n ds = true → ds.map (lendD n cs) = ds
  | [], _, _ => rfl
  | d :: ds, cs, e => by
    simp only [belows, Bool.and_eq_true] at e
    rw [List.map_cons, lend_below e.2]
    congr 1
    cases d with
    | loc m =>
      have h := e.1
      simp only [below, decide_eq_true_eq] at h
      unfold lendD
      simp only [h, if_true]
    | _ => rfl
theorem Rel.afterP {Fl : Hp} {ρ' : List Addr} {cs' : List Cell} {H' : Hp} (r : Rel G ρ F st σ H) (hn : n ≤ st.cs.length) (x : Ext (ρ.take n) F ρ' Fl) (r' : Rel ⟨G.K, H, F, ρ.take n⟩ ρ' Fl ⟨[], cs'⟩ [] H') (hl : cs'.length = n) :
    ρ' = ρ.take n ∧ Ext ρ F ρ Fl ∧ Rel G ρ Fl ⟨st.env, cs' ++ st.cs.drop n⟩ σ H' := by
  have eρ : ρ' = ρ.take n := by
    obtain ⟨t, ht⟩ := x.pre
    have hlen : ρ'.length = n := by rw [show ρ'.length = cs'.length from r'.cl, hl]
    have : t = [] := by
      have := congrArg List.length ht
      rw [List.length_append, List.length_take, hlen, r.cl] at this
      exact List.length_eq_zero_iff.mp (by omega)
    rw [← ht, this, List.append_nil]
  subst eρ
  have y : Ext ρ F ρ Fl := ⟨List.prefix_refl _, x.fz⟩
  have keepD : ∀ a ∈ ρ.drop n, H' a = H a := fun a ha => by
    obtain ⟨o, e⟩ := r.inρ (drop_mem ha)
    rw [e]
    exact r'.fr a o e fun z => take_drop_ne r.nd z ha
  refine ⟨rfl, y, ⟨r.len, fun i d e => ?_, ?_, fun i c a e1 e2 => ?_, r.nd, r'.fz, fun a ha => ?_, fun a o e1 e2 => ?_, r.own, fun a o e => ?_, r.old.trans x.fz, r.a0⟩⟩
  · obtain ⟨v, e1, e2⟩ := r.env i d e
    exact ⟨v, e1, e2.ext y⟩
  · show ρ.length = (cs' ++ st.cs.drop n).length
    rw [List.length_append, List.length_drop, hl, r.cl]
    omega
  · have e1 : (cs' ++ st.cs.drop n)[i]? = some c := e1
    by_cases hi : i < n
    · rw [List.getElem?_append_left (by rw [hl]; exact hi)] at e1
      exact below_cell_mono (r'.cell i c a e1 (by rw [List.getElem?_take_of_lt hi]; exact e2))
    · rw [List.getElem?_append_right (by rw [hl]; omega), hl, List.getElem?_drop, Nat.add_sub_cancel' (by omega)] at e1
      have hm : a ∈ ρ.drop n := by
        refine List.mem_of_getElem? (i := i - n) ?_
        rw [List.getElem?_drop, Nat.add_sub_cancel' (by omega)]
        exact e2
      exact (r.cell i c a e1 e2).ext y (keepD a hm)
  · cases q : Fl a with
    | none => rfl
    | some o =>
      rcases r'.new a o q with z | z
      · have z : F a = some o := z
        rw [r.sep a ha] at z; cases z
      · exact absurd ha (r.free z)
  · refine r'.fr a o (r.fr a o e1 e2) fun z => ?_
    rcases r.own a (List.mem_of_mem_take z) with q | q
    · exact e2 q
    · rw [q] at e1; cases e1
  · rcases r'.new a o e with q | q
    · exact r.new a o q
    · exact .inr (r.free0 q)
theorem callV_of (r : Rel G ρ F st σ H) (rv : RVs G.K ρ F ds vs) (hm : ds.length = m) (p : Post RV G W ρ F st.env σ Q (callV n fn ds st.cs)) : spF G.K m fn vs H Q (WE W σ) := by
  unfold callV at p
  by_cases c : n ≤ st.cs.length ∧ belows n (ds.map (lendD n st.cs)) = true ∧ (st.cs.take n).all (belowC n) = true
  · rw [if_pos c] at p
    obtain ⟨hn, hb, hc⟩ := c
    by_cases hbe : belows n ds = true
    · rw [lend_below hbe] at p
      refine ⟨ρ.take n, F, ds, st.cs.take n, r.entryP hc, rv.cut (Same.refl _) hbe, hm, ?_⟩
      cases q : fn ds (st.cs.take n) with
      | no => rw [q] at p; exact p
      | ok d cs' =>
        rw [q] at p
        by_cases hl : cs'.length = n
        · simp only [hl, hbe, true_and, true_or, if_true] at p
          intro ρ' F' H' v x r' rv'
          obtain ⟨e, y, r2⟩ := r.afterP hn x r' hl
          subst e
          exact p ρ F' H' v y r2 (rv'.ext ⟨List.take_prefix _ _, Same.refl _⟩)
        · simp only [hl, false_and, if_false] at p
          exact p.elim
      | ex e cs' =>
        rw [q] at p
        by_cases hl : cs'.length = n
        · simp only [hl, hbe, true_and, true_or, if_true] at p
          intro ρ' F' H' cls dx x r' xa
          obtain ⟨e, y, r2⟩ := r.afterP hn x r' hl
          subst e
          obtain ⟨x1, x2, x3, x4, x5, x6, x7⟩ := xa
          exact p ρ F' H' cls dx y r2 ⟨x1, x2, x3, x4, x5, x6, x7.ext ⟨List.take_prefix _ _, Same.refl _⟩⟩
        · simp only [hl, false_and, if_false] at p
          exact p.elim
    · refine ⟨ρ.take n, lentF ρ n F H, ds.map (lendD n st.cs), st.cs.take n, r.entryN hn hc, lend_rel r rv hb, by rw [List.length_map]; exact hm, ?_⟩
      cases q : fn (ds.map (lendD n st.cs)) (st.cs.take n) with
      | no => rw [q] at p; exact p
      | ok d cs' =>
        rw [q] at p
        have p : Post RV G W ρ F st.env σ Q (if cs'.length = n ∧ (belows n ds = true ∨ (noLst d = true ∧ cs'.all noLstC = true)) then .ok d (cs' ++ st.cs.drop n) else .no) := p
        by_cases hl : cs'.length = n ∧ noLst d = true ∧ cs'.all noLstC = true
        · simp only [hl, hbe, true_and, and_self, or_true, if_true] at p
          intro ρ' F' H' v x r' rv'
          have hf : ∀ a o, F' a = some o → lentF ρ n F H a = some o ∨ H a = none := r'.new
          obtain ⟨e, y, r2⟩ := r.afterN hn x r' hl.1 fun c a hc2 h2 => cellLentBack r hf h2 (List.all_eq_true.mp hl.2.2 c hc2)
          subst e
          exact p ρ _ H' v y r2 (RV.lentBack r hf rv' hl.2.1)
        · rw [if_neg (by rintro ⟨z1, z2⟩; exact hl ⟨z1, z2.resolve_left hbe⟩)] at p
          exact p.elim
      | ex e cs' =>
        rw [q] at p
        have p : Post RV G W ρ F st.env σ Q (if cs'.length = n ∧ (belows n ds = true ∨ (noLsts e.ds = true ∧ cs'.all noLstC = true)) then .ex e (cs' ++ st.cs.drop n) else .no) := p
        by_cases hl : cs'.length = n ∧ noLsts e.ds = true ∧ cs'.all noLstC = true
        · simp only [hl, hbe, true_and, and_self, or_true, if_true] at p
          intro ρ' F' H' cls dx x r' xa
          have hf : ∀ a o, F' a = some o → lentF ρ n F H a = some o ∨ H a = none := r'.new
          obtain ⟨e', y, r2⟩ := r.afterN hn x r' hl.1 fun c a hc2 h2 => cellLentBack r hf h2 (List.all_eq_true.mp hl.2.2 c hc2)
          subst e'
          obtain ⟨x1, x2, x3, x4, x5, x6, x7⟩ := xa
          exact p ρ _ H' cls dx y r2 ⟨x1, x2, x3, x4, lent_back r hf x5 (fun vs z => nomatch z), x6, RVs.lentBack r hf x7 hl.2.1⟩
        · rw [if_neg (by rintro ⟨z1, z2⟩; exact hl ⟨z1, z2.resolve_left hbe⟩)] at p
          exact p.elim
  · rw [if_neg c] at p
    exact p.elim
/-- f(..) -/
def eCall (n : Nat) (fn : Fn) (g : Ax) : Ex := fun st => (g st).bind fun ds c1 => callV n fn ds c1
variable {f : Addr} {fd : FuncData} {ps : List Str} {x : Str} {p : Pos}
theorem de_call {n : Nat} (hK : G.K.K = X.K) (tk : Takes X W) (hF : FnOk X.prog X.w X.K X.mg X.base (L2.CX X.prog X.w) k f fd ps (spF G.K ps.length fn)) (hr : Room k X.A) (hg : Gl X x) (hm : X.mg x = some (.ref f)) (hk : PySem.W.keepIn X.K (.ref f) = true) (hb : Binds X.K fd ps [])
    (ha : PA X (e :: es) (tAs G W g)) (hlen : ∀ st ds c1, g st = .ok ds c1 → ds.length = ps.length) (hdb : (x == ("__debug__" : Str)) = false := by decide) (he : starEach (e :: es) X.env = (false, eval e X.env) :: starEach es X.env := by rfl) (hpl : (backTo pos (starEach es X.env)).any (·.1) = false := by rfl) :
    PE X (.Call (.Name x p) (e :: es) [] pos) (tE G W (eCall n fn g)) :=
  (pe_callS hF hr hg hm hk hb (fun σ => passAt tk σ) ha hdb he hpl).impV fun σ H Q ⟨ρ, F, st, r, p⟩ => by
    unfold eCall at p
    cases q : g st with
    | no => rw [q] at p; exact p.elim
    | ex e' cs => rw [q] at p; exact ⟨ρ, F, st, r, by rw [q]; exact p⟩
    | ok ds c1 =>
      rw [q] at p
      have p : Post RV G W ρ F st.env σ Q (callV n fn ds c1) := p
      refine ⟨ρ, F, st, r, ?_⟩
      rw [q]
      exact fun ρ1 F1 H1 vs x1 r1 rv1 => callV_of (st := ⟨st.env, c1⟩) r1 rv1 (hlen _ _ _ q) (Post.ext x1 p)
theorem de_callAll (hK : G.K.K = X.K) (tk : Takes X W) (hF : FnOk X.prog X.w X.K X.mg X.base (L2.CX X.prog X.w) k f fd ps (spF G.K ps.length fn)) (hr : Room k X.A) (hg : Gl X x) (hm : X.mg x = some (.ref f)) (hk : PySem.W.keepIn X.K (.ref f) = true) (hb : Binds X.K fd ps [])
    (ha : PA X (e :: es) (tAs G W g)) (hlen : ∀ st ds c1, g st = .ok ds c1 → ds.length = ps.length) (hdb : (x == ("__debug__" : Str)) = false := by decide) (he : starEach (e :: es) X.env = (false, eval e X.env) :: starEach es X.env := by rfl) (hpl : (backTo pos (starEach es X.env)).any (·.1) = false := by rfl) :
    PE X (.Call (.Name x p) (e :: es) [] pos) (tE G W (eCallAll fn g)) :=
  (pe_callS hF hr hg hm hk hb (fun σ => passAt tk σ) ha hdb he hpl).impV fun σ H Q ⟨ρ, F, st, r, p⟩ => by
    unfold eCallAll at p
    cases q : g st with
    | no => rw [q] at p; exact p.elim
    | ex e' cs => rw [q] at p; exact ⟨ρ, F, st, r, by rw [q]; exact p⟩
    | ok ds c1 =>
      rw [q] at p
      have p : Post RV G W ρ F st.env σ Q (fn ds c1) := p
      refine ⟨ρ, F, st, r, ?_⟩
      rw [q]
      exact fun ρ1 F1 H1 vs x1 r1 rv1 => callAll_of (st := ⟨st.env, c1⟩) r1 rv1 (hlen _ _ _ q) (Post.ext x1 p)
end
end
end VL

namespace VL
open PySem L2
/-! ### a def's own cells left behind -/
/-- what leaves the def: an own list, opened -/
def outD (n : Nat) (cs : List Cell) (d : D) : Option D := match d with
  | .loc m => if m < n then some (.loc m) else (match cs[m]? with
    | some (.lst ds) => if belows n ds then some (.lst ds) else none
    | _ => none)
  | d => if below n d then some d else none
def trimF (fn : Fn) : Fn := fun ds cs => match fn ds cs with
  | .ok d cs' => if (cs'.take cs.length).all (belowC cs.length) then (match outD cs.length cs' d with
    | some d' => .ok d' (cs'.take cs.length)
    | none => .no) else .no
  | .ex e cs' => if (cs'.take cs.length).all (belowC cs.length) && belows cs.length e.ds then .ex e (cs'.take cs.length) else .no
  | .no => .no
/-- the cells behind n become frozen -/
theorem Rel.trim {G : Gx} {ρ : List Addr} {F : Hp} {st : S} {σ : St} {H : Hp} (r : Rel G ρ F st σ H) (hn : G.A0.length ≤ st.cs.length) (hb : (st.cs.take G.A0.length).all (belowC G.A0.length) = true) (x : Ext G.A0 G.F0 ρ F) :
    Same F (lentF ρ G.A0.length F H) ∧ Ext G.A0 G.F0 G.A0 (lentF ρ G.A0.length F H) ∧ Rel G G.A0 (lentF ρ G.A0.length F H) ⟨[], st.cs.take G.A0.length⟩ [] H := by
  have eρ : ρ.take G.A0.length = G.A0 := by
    obtain ⟨t, ht⟩ := x.pre
    rw [← ht, List.take_left]
  have hs := r.sameLent (n := G.A0.length)
  have e := r.entryN hn hb
  refine ⟨hs, ⟨List.prefix_refl _, x.fz.trans hs⟩, ⟨rfl, fun i d e => by simp at e, ?_, fun i c a e1 e2 => ?_, ?_, e.fz, fun a ha => ?_, r.fr, fun a ha => .inl ha, fun a o q => ?_, x.fz.trans hs, List.prefix_refl _⟩⟩
  · have := e.cl
    rw [eρ] at this
    exact this
  · have := e.cell i c a e1 (by rw [eρ]; exact e2)
    rw [eρ] at this
    exact this
  · have := e.nd
    rw [eρ] at this
    exact this
  · exact e.sep a (by rw [eρ]; exact ha)
  · unfold lentF at q
    by_cases h : a ∈ ρ.drop G.A0.length
    · rcases r.own a (drop_mem h) with z | z
      · exact (take_drop_ne r.nd (by rw [eρ]; exact z) h).elim
      · exact .inr z
    · rw [if_neg h] at q
      exact r.new a o q
theorem trim_of {K : Kt} {n : Nat} {fn : Fn} (vs : List V) (H : Hp) (Q : VK) (E : XK) (h : spF K n (trimF fn) vs H Q E) : spF K n fn vs H Q E := by
  obtain ⟨ρ0, F0, ds, cs, r, rv, hl, p⟩ := h
  refine ⟨ρ0, F0, ds, cs, r, rv, hl, ?_⟩
  have hc : ρ0.length = cs.length := r.cl
  unfold trimF at p
  cases q : fn ds cs with
  | no => rw [q] at p; exact p
  | ex e cs' =>
    rw [q] at p
    simp only at p
    by_cases c : ((cs'.take cs.length).all (belowC cs.length) && belows cs.length e.ds) = true
    · rw [if_pos c] at p
      rw [Bool.and_eq_true] at c
      intro ρ F H' cls dx x r' xa
      have hle : ρ0.length ≤ cs'.length := by
        have := x.pre.length_le
        rw [show ρ.length = cs'.length from r'.cl] at this
        exact this
      obtain ⟨s1, x1, r1⟩ := r'.trim hle (by show (cs'.take ρ0.length).all (belowC ρ0.length) = true; rw [hc]; exact c.1) x
      obtain ⟨y1, y2, y3, y4, y5, y6, y7⟩ := xa
      have eρ : ρ.take cs.length = ρ0 := by
        obtain ⟨t, ht⟩ := x.pre
        have ht : ρ0 ++ t = ρ := ht
        rw [← ht, ← hc, List.take_left]
      have q7 := y7.cut (n := cs.length) s1 c.2
      rw [eρ] at q7
      refine p ρ0 _ H' cls dx x1 ?_ ⟨y1, y2, y3, y4, s1 _ _ y5, y6, q7⟩
      rw [← hc]; exact r1
    · rw [if_neg c] at p
      exact p.elim
  | ok d cs' =>
    rw [q] at p
    simp only at p
    by_cases c : (cs'.take cs.length).all (belowC cs.length) = true
    · rw [if_pos c] at p
      cases q2 : outD cs.length cs' d with
      | none => rw [q2] at p; exact p.elim
      | some d' =>
        rw [q2] at p
        simp only at p
        intro ρ F H' v x r' rv'
        have hle : ρ0.length ≤ cs'.length := by
          have := x.pre.length_le
          rw [show ρ.length = cs'.length from r'.cl] at this
          exact this
        obtain ⟨s1, x1, r1⟩ := r'.trim hle (by show (cs'.take ρ0.length).all (belowC ρ0.length) = true; rw [hc]; exact c) x
        have eρ : ρ.take cs.length = ρ0 := by
          obtain ⟨t, ht⟩ := x.pre
          have ht : ρ0 ++ t = ρ := ht
          rw [← ht, ← hc, List.take_left]
        have r1' : Rel ⟨K, H, F0, ρ0⟩ ρ0 (lentF ρ ρ0.length F H') ⟨[], cs'.take cs.length⟩ [] H' := by rw [← hc]; exact r1
        refine p ρ0 _ H' v x1 r1' ?_
        have low : below cs.length d = true → d' = d → RV K ρ0 (lentF ρ ρ0.length F H') d' v := fun hb e => by
          subst e
          have := rv'.cut (n := cs.length) s1 hb
          rw [eρ] at this
          exact this
        cases d with
        | loc m =>
          unfold outD at q2
          simp only at q2
          by_cases hm : m < cs.length
          · rw [if_pos hm] at q2
            exact low (by simp [below, hm]) (Option.some.inj q2).symm
          · rw [if_neg hm] at q2
            cases q3 : cs'[m]? with
            | none => rw [q3] at q2; cases q2
            | some c0 =>
              rw [q3] at q2
              cases c0 with
              | lst es =>
                simp only at q2
                by_cases hb : belows cs.length es = true
                · rw [if_pos hb] at q2
                  cases q2
                  cases rv' with
                  | @loc _ a h =>
                    obtain ⟨ws, h1, h2⟩ := r'.cell m _ _ q3 h
                    have hmem : a ∈ ρ.drop ρ0.length := by
                      refine List.mem_of_getElem? (i := m - ρ0.length) ?_
                      rw [List.getElem?_drop, Nat.add_sub_cancel' (by omega)]
                      exact h
                    have q7 := h2.cut (n := cs.length) s1 hb
                    rw [eρ] at q7
                    refine .lst ?_ q7
                    unfold lentF
                    rw [if_pos hmem, h1]
                · rw [if_neg hb] at q2
                  cases q2
              | dk _ _ => cases q2
              | ins _ _ _ => cases q2
        | _ =>
          unfold outD at q2
          simp only at q2
          split at q2
          · rename_i hb
            exact low hb (Option.some.inj q2).symm
          · cases q2
    · rw [if_neg c] at p
      exact p.elim
/-- another plain function: wherever it says something, fn says the same -/
theorem spF_ref {K : Kt} {n : Nat} {fn fn' : Fn} (hr : ∀ ds cs, fn' ds cs ≠ .no → fn ds cs = fn' ds cs) (vs : List V) (H : Hp) (Q : VK) (E : XK) (h : spF K n fn' vs H Q E) : spF K n fn vs H Q E := by
  obtain ⟨ρ0, F0, ds, cs, r, rv, hl, p⟩ := h
  refine ⟨ρ0, F0, ds, cs, r, rv, hl, ?_⟩
  by_cases c : fn' ds cs = .no
  · rw [c] at p; exact p.elim
  · rw [hr ds cs c]; exact p
section
variable {P : Program} {w : World} {K : Kt} {mg : Str → Option Value} {base : Heap} {CX : CXT} {k : Nat} {f : Addr} {fd : FuncData} {ps : List Str} {fn fn' : Fn} {n : Nat}
theorem fnTrim (F : FnOk P w K.K mg base CX k f fd ps (spF K n fn)) : FnOk P w K.K mg base CX k f fd ps (spF K n (trimF fn)) := F.imp trim_of
theorem fnRef (F : FnOk P w K.K mg base CX k f fd ps (spF K n fn)) (hr : ∀ ds cs, fn' ds cs ≠ .no → fn ds cs = fn' ds cs) : FnOk P w K.K mg base CX k f fd ps (spF K n fn') := F.imp (spF_ref hr)
end
/-! ### built-ins -/
section
variable {X : Cx} {G : Gx} {W : WX} {e a : Expr} {es : List Expr} {g : Ax} {pos p : Pos} {fa : Ex}
abbrev FB := List Cell → List D → Out D
def VN (G : Gx) (W : WX) (r : List V → Hp → VK → Prop) (h : FB) : Prop := ∀ (ρ : List Addr) (F : Hp) (st : S) (σ : St) (H : Hp) (ds : List D) (vs : List V) (Q : VK), Rel G ρ F st σ H → RVs G.K ρ F ds vs → Post RV G W ρ F st.env σ Q (h st.cs ds) → r vs H Q
def eB (h : FB) (g : Ax) : Ex := fun st => (g st).bind fun ds c1 => h c1 ds
theorem tCB_of {r : List V → Hp → VK → Prop} {h : FB} (hv : VN G W r h) : ∀ σ H Q, tE G W (eB h g) σ H Q → tCB r (tAs G W g) σ H Q := fun σ H Q ⟨ρ, F, st, r, p⟩ =>
  seqX r p fun ρ1 F1 H1 ds c1 vs x1 r1 rv1 p1 => hv ρ1 F1 ⟨st.env, c1⟩ σ H1 ds vs Q r1 rv1 p1
theorem de_callB {id : String} {x : Str} {r : List V → Hp → VK → Prop} {h : FB} (hc : CallR X (.builtin id) r) (hv : VN G W r h) (hg : Gl X x) (hm : X.mg x = none) (hb : bootBuiltins x = some (.builtin id)) (ha : PA X (e :: es) (tAs G W g)) (hn : x ≠ "__name__" := by decide) (hdb : (x == ("__debug__" : Str)) = false := by decide)
    (he : starEach (e :: es) X.env = (false, eval e X.env) :: starEach es X.env := by rfl) (hpl : (backTo pos (starEach es X.env)).any (·.1) = false := by rfl) : PE X (.Call (.Name x p) (e :: es) [] pos) (tE G W (eB h g)) := (pe_callB hc hg hm hb ha hn hdb he hpl).impV (tCB_of hv)
theorem de_callTy {T : String} {x : Str} {r : List V → Hp → VK → Prop} {h : FB} (hc : CallR X (.type T) r) (hv : VN G W r h) (hg : Gl X x) (hm : X.mg x = none) (hb : bootBuiltins x = some (.type T)) (ha : PA X (e :: es) (tAs G W g)) (hn : x ≠ "__name__" := by decide) (hdb : (x == ("__debug__" : Str)) = false := by decide)
    (he : starEach (e :: es) X.env = (false, eval e X.env) :: starEach es X.env := by rfl) (hpl : (backTo pos (starEach es X.env)).any (·.1) = false := by rfl) : PE X (.Call (.Name x p) (e :: es) [] pos) (tE G W (eB h g)) := (pe_callTy hc hg hm hb ha hn hdb he hpl).impV (tCB_of hv)
def hLen : FB := fun cs ds => match ds with
  | [.str z] => if z.length ≤ 16777216 then .ok (.int (z.length : Nat)) cs else .no
  | [d] => (match seqOf cs d with
    | some xs => .ok (.int (xs.length : Nat)) cs
    | none => .no)
  | _ => .no
theorem vn_len : VN G W (fun xs H Q => ∃ x n, xs = [x] ∧ LenV G.K.K x H n ∧ Q (.int n) H) hLen := by
  intro ρ F st σ H ds vs Q r rv p
  unfold hLen at p
  split at p
  · cases rv with
    | cons h1 h2 =>
      cases h2
      cases h1
      rename_i z
      by_cases c : z.length ≤ 16777216
      · rw [if_pos c] at p
        exact ⟨_, _, rfl, ⟨line_of c, rfl⟩, p.here r (.int _)⟩
      · rw [if_neg c] at p
        exact p.elim
  · rename_i d _
    cases rv with
    | cons h1 h2 =>
      cases h2
      cases q : seqOf st.cs d with
      | none => rw [q] at p; exact p.elim
      | some xs =>
        rw [q] at p
        obtain ⟨a2, ws, rfl, s2, r2⟩ := seq_read r h1 q
        refine ⟨_, ws.length, rfl, ?_, ?_⟩
        · rcases s2 with s2 | s2
          · exact .inl ⟨ws, s2, rfl⟩
          · exact .inr ⟨ws, s2, rfl⟩
        · rw [← r2.length]
          exact p.here r (.int _)
  · exact p.elim
theorem de_len (hK : X.K = G.K.K) (hg : Gl X "len") (hm : X.mg "len" = none) (ha : PA X (e :: es) (tAs G W g)) (he : starEach (e :: es) X.env = (false, eval e X.env) :: starEach es X.env := by rfl) (hpl : (backTo pos (starEach es X.env)).any (·.1) = false := by rfl) : PE X (.Call (.Name "len" p) (e :: es) [] pos) (tE G W (eB hLen g)) :=
  de_callB call_len (by rw [hK]; exact vn_len) hg hm PySem.boot_len ha (he := he) (hpl := hpl)
def hInt : FB := fun cs ds => match ds with
  | [.int i] => .ok (.int i) cs
  | [.bl b] => .ok (.int (if b then 1 else 0)) cs
  | _ => .no
theorem de_int1 (hg : Gl X "int") (hm : X.mg "int" = none) (ha : PA X (e :: es) (tAs G W g)) (he : starEach (e :: es) X.env = (false, eval e X.env) :: starEach es X.env := by rfl) (hpl : (backTo pos (starEach es X.env)).any (·.1) = false := by rfl) : PE X (.Call (.Name "int" p) (e :: es) [] pos) (tE G W (eB hInt g)) :=
  de_callTy call_int1 (by
    intro ρ F st σ H ds vs Q r rv p
    unfold hInt at p
    split at p
    · cases rv with
      | cons h1 h2 =>
        cases h2
        cases h1
        exact .inl ⟨_, rfl, p.here r (.int _)⟩
    · cases rv with
      | cons h1 h2 =>
        cases h2
        cases h1
        exact .inr ⟨_, rfl, p.here r (.int _)⟩
    · exact p.elim) hg hm (by decide +kernel) ha (he := he) (hpl := hpl)
def hAbs : FB := fun cs ds => match ds with
  | [.int i] => .ok (.int (if i < 0 then -i else i)) cs
  | _ => .no
theorem de_abs (hg : Gl X "abs") (hm : X.mg "abs" = none) (ha : PA X (e :: es) (tAs G W g)) (he : starEach (e :: es) X.env = (false, eval e X.env) :: starEach es X.env := by rfl) (hpl : (backTo pos (starEach es X.env)).any (·.1) = false := by rfl) : PE X (.Call (.Name "abs" p) (e :: es) [] pos) (tE G W (eB hAbs g)) :=
  de_callB call_abs (by
    intro ρ F st σ H ds vs Q r rv p
    unfold hAbs at p
    split at p
    · cases rv with
      | cons h1 h2 =>
        cases h2
        cases h1
        exact ⟨_, rfl, p.here r (.int _)⟩
    · exact p.elim) hg hm (by decide +kernel) ha (he := he) (hpl := hpl)
def hTuple : FB := fun cs ds => match ds with
  | [.tup xs] => .ok (.tup xs) cs
  | [d] => (match lstOf cs d with
    | some xs => .ok (.tup xs) cs
    | none => .no)
  | _ => .no
theorem vn_tuple : VN G W (fun xs H Q => ∃ p ys, xs = [.ref p] ∧ ((SqL G.K.K H p ys ∧ ∀ l, H l = none → Q (.ref l) (upd H l (.tup ys))) ∨ (SqT G.K.K H p ys ∧ Q (.ref p) H))) hTuple := by
  intro ρ F st σ H ds vs Q r rv p
  unfold hTuple at p
  split at p
  · cases rv with
    | cons h1 h2 =>
      cases h2
      obtain ⟨a2, ws, rfl, s2, r2⟩ := tup_read r h1 rfl
      exact ⟨a2, ws, rfl, .inr ⟨s2, p.here r h1⟩⟩
  · rename_i d _
    cases rv with
    | cons h1 h2 =>
      cases h2
      cases q : lstOf st.cs d with
      | none => rw [q] at p; exact p.elim
      | some xs =>
        rw [q] at p
        obtain ⟨a2, ws, rfl, s2, r2⟩ := lst_read r h1 q
        refine ⟨a2, ws, rfl, .inl ⟨s2, fun l hl => ?_⟩⟩
        obtain ⟨x2, r3⟩ := r.fresh (o := .tup ws) hl
        exact p _ _ _ _ x2 r3 (.tup (SqT.of upd_same) (r2.ext x2))
  · exact p.elim
theorem de_tuple1 (hK : X.K = G.K.K) (hg : Gl X "tuple") (hm : X.mg "tuple" = none) (ha : PA X (e :: es) (tAs G W g)) (he : starEach (e :: es) X.env = (false, eval e X.env) :: starEach es X.env := by rfl) (hpl : (backTo pos (starEach es X.env)).any (·.1) = false := by rfl) : PE X (.Call (.Name "tuple" p) (e :: es) [] pos) (tE G W (eB hTuple g)) :=
  de_callTy call_tuple_of (by rw [hK]; exact vn_tuple) hg hm (by decide +kernel) ha (he := he) (hpl := hpl)
/-- list(x): frozen, or an own cell -/
def hList (own : Bool) : FB := fun cs ds => match ds with
  | [d] => (match seqOf cs d with
    | some xs => if own then newCell xs cs else .ok (.lst xs) cs
    | none => .no)
  | _ => .no
theorem vn_list {own : Bool} : VN G W (fun xs H Q => ∃ p ys, xs = [.ref p] ∧ (SqL G.K.K H p ys ∨ SqT G.K.K H p ys) ∧ ∀ l, H l = none → Q (.ref l) (upd H l (.lst ys))) (hList own) := by
  intro ρ F st σ H ds vs Q r rv p
  unfold hList at p
  split at p
  · rename_i d
    cases rv with
    | cons h1 h2 =>
      cases h2
      cases q : seqOf st.cs d with
      | none => rw [q] at p; exact p.elim
      | some xs =>
        rw [q] at p
        obtain ⟨a2, ws, rfl, s2, r2⟩ := seq_read r h1 q
        refine ⟨a2, ws, rfl, s2, fun l hl => ?_⟩
        cases own with
        | true => exact newCell_of r r2 hl p
        | false =>
          obtain ⟨x2, r3⟩ := r.fresh (o := .lst ws) hl
          exact p _ _ _ _ x2 r3 (.lst upd_same (r2.ext x2))
  · exact p.elim
theorem de_list1 (own : Bool) (hK : X.K = G.K.K) (hg : Gl X "list") (hm : X.mg "list" = none) (ha : PA X (e :: es) (tAs G W g)) (he : starEach (e :: es) X.env = (false, eval e X.env) :: starEach es X.env := by rfl) (hpl : (backTo pos (starEach es X.env)).any (·.1) = false := by rfl) : PE X (.Call (.Name "list" p) (e :: es) [] pos) (tE G W (eB (hList own) g)) :=
  de_callTy call_list_of (by rw [hK]; exact vn_list) hg hm (by decide +kernel) ha (he := he) (hpl := hpl)
/-! ints of a list -/
def intsOf : List D → Option (List Int)
  | [] => some []
  | .int i :: r => (intsOf r).map (i :: ·)
  | _ => none
theorem ints_rel {K : Kt} {ρ : List Addr} {F : Hp} : ∀ {ds : List D} {vs : List V} {ns : List Int}, RVs K ρ F ds vs → intsOf ds = some ns → vs = ns.map V.int
  | _, _, _, .nil, e => by cases e; rfl
  | _, _, _, @RVs.cons _ _ _ d ds v vs h r, e => by
    cases h with
    | int i =>
      unfold intsOf at e
      cases q : intsOf ds with
      | none => rw [q] at e; cases e
      | some l =>
        rw [q] at e
        cases e
        rw [ints_rel r q]
        rfl
    | _ => cases e
theorem ints_back {K : Kt} {ρ : List Addr} {F : Hp} : ∀ (ns : List Int), RVs K ρ F (ns.map D.int) (ns.map V.int)
  | [] => .nil
  | n :: r => .cons (.int n) (ints_back r)
def maxI : List Int → Int
  | [] => 0
  | [a] => a
  | a :: b :: r => max a (maxI (b :: r))
theorem maxI_mem : ∀ {l : List Int}, l ≠ [] → maxI l ∈ l ∧ ∀ y ∈ l, y ≤ maxI l
  | [], h => absurd rfl h
  | [a], _ => ⟨List.mem_singleton.mpr rfl, fun y hy => by rw [List.mem_singleton.mp hy]; exact Int.le_refl _⟩
  | a :: b :: r, _ => by
    obtain ⟨h1, h2⟩ := maxI_mem (l := b :: r) (by simp)
    unfold maxI
    refine ⟨?_, fun y hy => ?_⟩
    · by_cases c : a ≤ maxI (b :: r)
      · rw [Int.max_eq_right c]; exact List.mem_cons_of_mem _ h1
      · rw [Int.max_eq_left (by omega)]; exact List.mem_cons_self
    · rcases List.mem_cons.mp hy with rfl | hy
      · omega
      · have := h2 y hy
        omega
/-- max(xs), max(a, b) -/
def hMax : FB := fun cs ds => match ds with
  | [.int i, .int j] => .ok (.int (if j > i then j else i)) cs
  | [d] => (match lstOf cs d with
    | some xs => (match intsOf xs with
      | some ns => if ns.isEmpty then .no else .ok (.int (maxI ns)) cs
      | none => .no)
    | none => .no)
  | _ => .no
theorem max_uniq {l : List Int} {m : Int} (h : l ≠ []) (h1 : m ∈ l) (h2 : ∀ y ∈ l, y ≤ m) : m = maxI l := by
  obtain ⟨h3, h4⟩ := maxI_mem h
  have := h4 m h1
  have := h2 _ h3
  omega
theorem de_max (hK : X.K = G.K.K) (hc : X.calm = true) (hg : Gl X "max") (hm : X.mg "max" = none) (ha : PA X (e :: es) (tAs G W g)) (he : starEach (e :: es) X.env = (false, eval e X.env) :: starEach es X.env := by rfl) (hpl : (backTo pos (starEach es X.env)).any (·.1) = false := by rfl) : PE X (.Call (.Name "max" p) (e :: es) [] pos) (tE G W (eB hMax g)) :=
  de_callB (CallR.or (call_max2 hc) (cr_max hc)) (by
    rw [hK]
    intro ρ F st σ H ds vs Q r rv p
    cases rv with
    | nil => exact p.elim
    | @cons d _ v _ h1 h2 =>
      cases h2 with
      | nil =>
        have p : Post RV G W ρ F st.env σ Q (match lstOf st.cs d with
          | some xs => (match intsOf xs with
            | some ns => if ns.isEmpty then .no else .ok (.int (maxI ns)) st.cs
            | none => .no)
          | none => .no) := by cases d <;> exact p
        cases q : lstOf st.cs d with
        | none => rw [q] at p; exact p.elim
        | some xs =>
          rw [q] at p
          simp only at p
          obtain ⟨a2, ws, rfl, s2, r2⟩ := lst_read r h1 q
          cases q2 : intsOf xs with
          | none => rw [q2] at p; exact p.elim
          | some ns =>
            rw [q2] at p
            simp only at p
            have e := ints_rel r2 q2
            subst e
            cases ns with
            | nil => exact p.elim
            | cons n0 nr =>
              refine .inr ⟨a2, n0 :: nr, rfl, s2, by simp, fun m h1 h2 => ?_⟩
              rw [max_uniq (by simp) h1 h2]
              exact p.here r (.int _)
      | @cons d2 _ _ _ h2 h3 =>
        cases h3 with
        | cons _ _ => exact (by unfold hMax at p; split at p <;> first | (rename_i z; cases z) | exact p.elim)
        | nil =>
          unfold hMax at p
          split at p
          · rename_i e
            cases e
            cases h1
            cases h2
            exact .inl ⟨_, _, rfl, p.here r (.int _)⟩
          · rename_i e
            cases e
          · exact p.elim) hg hm (by decide +kernel) ha (he := he) (hpl := hpl)
/-! ### methods of lists -/
/-- xs.append(e) -/
def eAppend (fo f : Ex) : Ex := fun st => (fo st).bind fun x c1 => match x with
  | .loc n => (match c1[n]? with
    | some (.lst _) => (f ⟨st.env, c1⟩).bind fun y c2 => (match c2[n]? with
      | some (.lst ds) => if ds.length < 16777216 then .ok .non (c2.set n (.lst (ds ++ [y]))) else .no
      | _ => .no)
    | _ => .no)
  | _ => .no
theorem de_append {c : Expr} {fo f : Ex} (hK : X.K = G.K.K) (h : PE X c (tBM X.K "list" rAppend (tE G W fo) (tCons (tE G W f) tNil))) : PE X c (tE G W (eAppend fo f)) :=
  h.impV fun σ H Q ⟨ρ, F, st, r, p⟩ => seqX r p fun ρ1 F1 H1 x c1 v x1 r1 rv1 p1 => by
    cases rv1 with
    | @loc n a0 h1 =>
      simp only at p1
      cases q : c1[n]? with
      | none => rw [q] at p1; exact p1.elim
      | some c0 =>
        rw [q] at p1
        cases c0 with
        | dk _ _ => exact p1.elim
        | ins _ _ _ => exact p1.elim
        | lst ds0 =>
          simp only at p1
          obtain ⟨vs0, h2, h3⟩ := r1.cell n _ _ q h1
          refine ⟨.inl ⟨rfl, vs0, SqL.of h2⟩, ?_⟩
          refine seqX (st := ⟨st.env, c1⟩) (f := f) r1 p1 fun ρ2 F2 H2 y c2 w x2 r2 rv2 p2 => ?_
          cases q2 : c2[n]? with
          | none => rw [q2] at p2; exact p2.elim
          | some c0 =>
            rw [q2] at p2
            cases c0 with
            | dk _ _ => exact p2.elim
            | ins _ _ _ => exact p2.elim
            | lst ds =>
              simp only at p2
              by_cases c : ds.length < 16777216
              · rw [if_pos c] at p2
                obtain ⟨vs, h4, h5⟩ := r2.cell n _ _ q2 (x2.at h1)
                refine ⟨a0, vs, w, rfl, rfl, h4, by rw [← h5.length, sizeLine_eq]; exact c, ?_⟩
                exact p2 ρ2 F2 _ .non Ext.refl (r2.cellSet (st := ⟨st.env, c2⟩) (c := .lst (ds ++ [y])) (x2.at h1) ⟨_, upd_same, h5.append (RVs.one rv2)⟩) .non
              · rw [if_neg c] at p2
                exact p2.elim
    | _ => exact p1.elim
/-- xs.pop() -/
def ePop (fo : Ex) : Ex := fun st => (fo st).bind fun x c1 => match x with
  | .loc n => (match c1[n]? with
    | some (.lst ds) => (match ds.getLast? with
      | some y => .ok y (c1.set n (.lst ds.dropLast))
      | none => .no)
    | _ => .no)
  | _ => .no
theorem RVs.dropLast {K : Kt} {ρ : List Addr} {F : Hp} {ds : List D} {vs : List V} (h : RVs K ρ F ds vs) : RVs K ρ F ds.dropLast vs.dropLast := by
  rw [List.dropLast_eq_take, List.dropLast_eq_take, h.length]
  exact h.take _
theorem de_pop {c : Expr} {fo : Ex} (hK : X.K = G.K.K) (h : PE X c (tBM0 X.K "list" rPop (tE G W fo))) : PE X c (tE G W (ePop fo)) :=
  h.impV fun σ H Q ⟨ρ, F, st, r, p⟩ => seqX r p fun ρ1 F1 H1 x c1 v x1 r1 rv1 p1 => by
    cases rv1 with
    | @loc n a0 h1 =>
      simp only at p1
      cases q : c1[n]? with
      | none => rw [q] at p1; exact p1.elim
      | some c0 =>
        rw [q] at p1
        cases c0 with
        | dk _ _ => exact p1.elim
        | ins _ _ _ => exact p1.elim
        | lst ds =>
          simp only at p1
          obtain ⟨vs, h2, h3⟩ := r1.cell n _ _ q h1
          cases q2 : ds.getLast? with
          | none => rw [q2] at p1; exact p1.elim
          | some y =>
            rw [q2] at p1
            rw [List.getLast?_eq_getElem?] at q2
            obtain ⟨w, e1, e2⟩ := h3.get q2
            rw [h3.length] at e1
            refine ⟨.inl ⟨rfl, vs, SqL.of h2⟩, a0, vs, w, rfl, rfl, h2, e1, ?_⟩
            exact p1 ρ1 F1 _ w Ext.refl (r1.cellSet (st := ⟨st.env, c1⟩) (c := .lst ds.dropLast) h1 ⟨_, upd_same, h3.dropLast⟩) e2
    | _ => exact p1.elim
end
end VL

namespace VL
open PySem L2 PyProof.Rows
/-! ### the law itself, called from outside: no repr is under way -/
/-- the def at f keeps sp when it is called from outside -/
structure AtC (P : Program) (w : World) (K : PySem.W.Frag) (mg : Str → Option Value) (base : Heap) (CX : CXT) (k : Nat) (f : Addr) (fd : FuncData) (ps : List Str) (sp : Sp) : Prop where
  run : ∀ (s : Shared) (H : Hp) (args : Args) (us : List Value) (vs : List V) (Q : VK) (E : XK), Room k callerA → Env0 P w K mg base callerA [] s H → BindsTo s fd args (ps.zip us) → Vals vs us → sp vs H Q E →
    codeAny (model P w) callerA (.call (.ref f) args) (CR CX [] P w H s Q E) s
section
variable {P : Program} {w : World} {mg : Str → Option Value} {base : Heap}
theorem atC_of {K : PySem.W.Frag} {CX : CXT} {k : Nat} {f : Addr} {name qual : Str} {st : Stmt} {fd : FuncData} {N ps : List Str} {sp : Sp} (Fu : Fun K name qual st f fd) (Sc : FnScope N ps (defScope st)) (hlen : ∀ vs H Q E, sp vs H Q E → vs.length = ps.length)
    (body : ∀ (cdv : Value) (s : Shared) (H : Hp) (vs : List V) (Q : VK) (E : XK), Room k (callerA.deeper (envOfC qual (defScope st) s.heap.objs.size f cdv)) → sp vs H Q E →
      ∃ t, PSs (cxOf CX P w K mg base N qual (defScope st) f cdv callerA [] s H E) (defBody st) t ∧ t { nx := fun _ H1 => Q .non H1, rt := Q } (L2.start N vs) H) :
    AtC P w K mg base CX (k + 1) f fd ps sp := by
  obtain ⟨oc, od, kV, doc, pm, an, cdv, ct, osl, rfl, lk, hcd⟩ := Fu.ex
  constructor
  intro s H args us vs Q E room e0 bind vals hsp
  have kin : K.In s.heap := e0.mod.kin.keeps fun b o h => (e0.bs b o h).1
  have nol : s.heap.NoLimit := e0.mod.nolimit.keeps fun b o h => (e0.bs b o h).1
  have kinds : ∀ y ∈ ps.zip us, (defScope st).names.lookup y.1 = some .local ∨
      ((defScope st).names.lookup y.1 = some .cell ∧ ((cellsFrom (s.heap.objs.size + 1) (defScope st).names []).lookup y.1).isSome = true) := by
    rintro ⟨nm, val⟩ hy
    cases Sc.par nm (List.of_mem_zip hy).1 with
    | inl h => exact .inl h
    | inr h => exact .inr ⟨h, PySem.W.cellsFrom_some _ _ _ (.inl h)⟩
  refine codeAny_call_function room.depth (kin _ _ lk) rfl Sc.co Sc.gen rfl (PySem.W.codeRec_of kin hcd) ?_
  refine bind _ _ _ _ ?_
  refine wpAny_newFunctionEnv_cells Sc.kind kinds ?_
  rintro env rfl s1 x
  refine ⟨nol.keeps x.toInCall.keep, codeAny_func ?_⟩
  obtain ⟨t, pt, ht⟩ := body cdv s H vs Q E (room.deeper _) hsp
  have inv := inv_start (CX := CX) (P := P) (w := w) (K := K) (mg := mg) (base := base) (N := N) (ps := ps) (E := E) (A := callerA) (outer := []) Sc room.hd e0 (hlen _ _ _ _ hsp) vals x
  refine wpAny_mono (pt.run [] s1 _ H _ inv ht) ?_ fun _ _ h => h
  intro fl s' hs
  cases fl with
  | brk => obtain ⟨_, _, _, h⟩ := hs; exact h.elim
  | cont => obtain ⟨_, _, _, h⟩ := hs; exact h.elim
  | next =>
    obtain ⟨σ', H', J, h⟩ := hs
    exact ⟨V.non, H', J.os, J.bare, J.base, J.hok, rfl, h⟩
  | ret u =>
    obtain ⟨v, σ', H', J, rv, h⟩ := hs
    exact ⟨v, H', J.os, J.bare, J.base, J.hok, rv, h⟩
/-- the law's call, by that promise -/
theorem lawC {K : PySem.W.Frag} {mb : Str → Option Value} {CX : CXT} {k : Nat} {fa a : Addr} {fd : FuncData} {x : Str} {sp : Sp} {s₁ : Shared} {vs : List Value} {ns : List Int}
    (kin : K.In s₁.heap) (globs : s₁.heap.Ns mainGlobals mg) (blt : s₁.heap.Ns builtinsNs mb) (bb : ∀ x : Str, x ≠ "__name__" → mb x = bootBuiltins x) (nol : s₁.heap.NoLimit) (gens : s₁.gens = #[])
    (obj : s₁.heap.get? a = some { cls := .type "list", data := .seq vs.toArray }) (areInts : IntsAre vs ns) (size : ns.length ≤ sizeLine) (room : Room k callerA)
    (F : ∀ base : Heap, K.In base → base.Ns mainGlobals mg → AtC P w K mg base CX k fa fd [x] sp) (binds : ∀ (s : Shared) (u : Value), BindsTo s fd ⟨[u], []⟩ [(x, u)])
    (pre : ∀ H : Hp, Only H → SqL K H a (ns.map V.int) → sp [.ref a] H (fun v _ => v = .bl true) fun _ _ _ => False)
    (noX : ∀ H e s', CX [] H s₁ (fun _ _ _ => False) e s' → False) :
    codeAny (model P w) callerA (.call (.ref fa) ⟨[.ref a], []⟩) (fun r s' => r = .ok (.ret (.bool true)) ∧ OldK s₁.heap s'.heap ∧ s'.os = s₁.os ∧ AllBare s'.gens) s₁ := by
  have rv := vals_ints areInts
  have hlv := areInts.length
  have main : ∀ H : Hp, Only H → SqL K H a (ns.map V.int) → HOk P w H s₁.heap → (∀ b o, H b = some o → b = a ∧ K.lookup a = none) →
      codeAny (model P w) callerA (.call (.ref fa) ⟨[.ref a], []⟩) (fun r s' => r = .ok (.ret (.bool true)) ∧ OldK s₁.heap s'.heap ∧ s'.os = s₁.os ∧ AllBare s'.gens) s₁ := by
    intro H only sq hok hA
    have noDict : ∀ {b : Addr} {o : Obj} {es : Array DictEntry} {ep : Nat}, s₁.heap.get? b = some o → o.data = .dict es ep → H b = none := by
      intro b o es ep hb hd
      cases q : H b with
      | none => rfl
      | some u =>
        obtain ⟨rfl, _⟩ := hA b u q
        rw [obj] at hb
        cases hb
        exact nomatch hd
    have nsB : ∀ {b : Addr} {m : Str → Option Value}, s₁.heap.Ns b m → (hidT s₁.heap H).Ns b m := by
      rintro b m ⟨o, es, ep, h1, h2, h3⟩
      exact ⟨o, es, ep, hidT_get h1 (noDict h1 h2), h2, h3⟩
    have kinB : K.In (hidT s₁.heap H) := by
      intro b o hb
      refine hidT_get (kin b o hb) ?_
      cases q : H b with
      | none => rfl
      | some u =>
        obtain ⟨rfl, h2⟩ := hA b u q
        rw [h2] at hb
        cases hb
    have md : Mod K mg (hidT s₁.heap H) := by
      refine ⟨kinB, nsB globs, ⟨mb, nsB blt, bb⟩, ?_⟩
      obtain ⟨mc, h1, h2⟩ := nol
      exact ⟨mc, nsB h1, h2⟩
    have nomem : ∀ b : Addr, b ∉ frs [] := fun b z => absurd (show b ∈ ([] : List Addr) from z) (by simp)
    have env : Env0 P w K mg (hidT s₁.heap H) callerA [] s₁ H :=
      ⟨rfl, md, fun b o h => of_hidT h, Nat.le_of_eq (hidT_size _ _), trivial, fun b z => absurd z (nomem b), hok, .of_eq gens⟩
    refine codeAny_mono ((F _ kinB (nsB globs)).run s₁ H ⟨[.ref a], []⟩ [.ref a] [.ref a] _ _ room env (binds s₁ (.ref a)) (.cons rfl .nil) (pre H only sq)) ?_
    intro r s' h
    match r, h with
    | .error e, h => exact (noX H e s' h).elim
    | .ok .next, h => exact h.elim
    | .ok .brk, h => exact h.elim
    | .ok .cont, h => exact h.elim
    | .ok (.ret u), ⟨v, H', os, bare, un, hok', ru, hv⟩ =>
      have hv : v = .bl true := hv
      subst hv
      obtain rfl : u = Value.bool true := ru
      refine ⟨rfl, OldK.of_keep ?_, os, bare⟩
      intro b o hb
      cases q : H b with
      | none => exact un.keep b o hb q (nomem b) (by simp)
      | some u =>
        rcases only b with z | ⟨ob, xs, z⟩
        · rw [q] at z
          cases z
        · obtain ⟨h1, _⟩ := hok b _ z
          obtain ⟨h2, _⟩ := hok' b _ (un.frzs b ob _ z)
          rw [hb] at h1
          cases h1
          exact h2
  cases hk : K.lookup a with
  | some o =>
    have e := kin a o hk
    rw [obj] at e
    cases e
    refine main (fun _ => none) (fun _ => .inl rfl) (.inr ⟨_, vs.toArray, _, hk, rfl, rfl, rfl, ?_, ?_⟩) (fun b u z => nomatch z) (fun b u z => nomatch z)
    · rw [List.size_toArray, hlv]
      exact size
    · simpa using rv
  | none =>
    have at_a : ∀ b u, (if b = a then some (HO.frz { cls := .type "list", data := .seq vs.toArray } (.lst (ns.map V.int))) else none) = some u → b = a ∧ u = HO.frz { cls := .type "list", data := .seq vs.toArray } (.lst (ns.map V.int)) := by
      intro b u z
      by_cases hb : b = a
      · rw [if_pos hb] at z
        exact ⟨hb, (Option.some.inj z).symm⟩
      · rw [if_neg hb] at z
        cases z
    refine main (fun b => if b = a then some (.frz { cls := .type "list", data := .seq vs.toArray } (.lst (ns.map V.int))) else none) ?_ (.inl (.inr ⟨_, if_pos rfl⟩)) ?_ fun b u z => ⟨(at_a b u z).1, hk⟩
    · intro b
      by_cases hb : b = a
      · exact .inr ⟨_, _, if_pos hb⟩
      · exact .inl (if_neg hb)
    · intro b u z
      obtain ⟨rfl, rfl⟩ := at_a b u z
      refine ⟨obj, ?_, vs, _, rv, obj⟩
      rw [List.length_map]
      exact size
end
/-- THE END: k_head's goal, from a promise that holds from outside -/
theorem walkC {l : PySem.W.OpenLaw} {n k : Nat} {q : Program} {loose : List Str} {XP : (Str → Option Value) → Heap → Prop} {YP : World → Heap → Prop} {d : DefRec} {K : Params → PySem.W.Frag} {CX : World → CXT} {x : Str}
    (hn : l.most = some n) (hn2 : n ≤ sizeLine) (hdf : d.params.defaults = []) (hr : Room k callerA)
    (hY : ∀ (w : World) (h : Heap), YP w h → (K w.params).In h)
    (F : ∀ (w : World) (mg : Str → Option Value) (fa : Addr) (h : Heap), (K w.params).In h → h.Ns mainGlobals mg → mg d.name = some (.ref fa) →
      ∃ fd : FuncData, (∀ (s : Shared) (u : Value), BindsTo s fd ⟨[u], []⟩ [(x, u)]) ∧
        ∃ sp : Sp, (∀ base : Heap, (K w.params).In base → base.Ns mainGlobals mg → AtC l.prog w (K w.params) mg base (CX w) k fa fd [x] sp) ∧
          ∀ (H : Hp) (a : Addr) (ns : List Int), ns.length ≤ n → Only H → SqL (K w.params) H a (ns.map V.int) → sp [.ref a] H (fun v _ => v = .bl true) fun _ _ _ => False)
    (hCX : ∀ (w : World) (H : Hp) (s : Shared) (e : Value) (s' : Shared), CX w [] H s (fun _ _ _ => False) e s' → False) :
    PySem.W.WalkO q loose XP YP l.row.toRowW d [] (fun f vs => PySem.call f vs) := by
  refine Att.attach_call hn hdf ?_
  intro w s₀ s₁ mg mb fa o pm cd doc a vs ns G Y ho hd hcd hmg hobj hints hlen hg
  obtain ⟨fd, hb, sp, hF, hs⟩ := F w mg fa _ (hY w _ Y) G.T.g hmg
  refine lawC (hY w _ Y) G.T.g G.T.b G.T.builtins G.T.nolimit hg hobj hints (Nat.le_trans hlen hn2) hr hF hb ?_ ?_
  · intro H hO hS
    exact hs H a ns hlen hO hS
  · intro H e s'
    exact hCX w H s₁ e s'
/-- no exception with no wish -/
theorem noCX {P : Program} {w : World} (H : Hp) (s : Shared) (e : Value) (s' : Shared) (h : L2.CX P w [] H s (fun _ _ _ => False) e s') : False := by
  obtain ⟨a, B, H', cls, d, _, _, _, _, _, _, _, hE⟩ := h
  exact hE
/-- the law's body by a plain function over the script's ints -/
theorem lawV {P : Program} {w : World} {K : Kt} {mg : Str → Option Value} {base : Heap} {k : Nat} {f : Addr} {name qual x : Str} {st : Stmt} {fd : FuncData} {N : List Str} {body : Sx} (Fu : Fun K.K name qual st f fd) (Sc : FnScope N [x] (defScope st))
    (hbody : ∀ (G : Gx), G.K = K → ∀ (cdv : Value) (s : Shared) (H : Hp) (E : XK), Room k (callerA.deeper (envOfC qual (defScope st) s.heap.objs.size f cdv)) →
      PSs (cxOf (L2.CX P w) P w K.K mg base N qual (defScope st) f cdv callerA [] s H E) (defBody st) (tS G (fun cls d _ H' => E cls d H') body)) :
    AtC P w K.K mg base (L2.CX P w) (k + 1) f fd [x] (spF K 1 (runF N.length body)) := by
  refine atC_of Fu Sc (fun vs H Q E h => spF_len h) ?_
  intro cdv s H vs Q E hr h
  obtain ⟨G, e, t⟩ := body_of h
  exact ⟨_, hbody G e cdv s H E hr, t⟩
/-- the script, handed to the law -/
theorem law_pre {K : Kt} {n : Nat} {fn : Fn} (h : ∀ ns : List Int, ns.length ≤ n → ∃ cs, fn [.frl (ns.map D.int)] [] = .ok (.bl true) cs) (H : Hp) (a : Addr) (ns : List Int) (hl : ns.length ≤ n) (_ : Only H) (hs : SqL K.K H a (ns.map V.int)) :
    spF K 1 fn [.ref a] H (fun v _ => v = .bl true) fun _ _ _ => False := by
  obtain ⟨cs, e⟩ := h ns hl
  refine ⟨[], H, [.frl (ns.map D.int)], [], ⟨rfl, fun i d e => by simp at e, rfl, fun i c a e => by simp at e, List.nodup_nil, Same.refl _, fun a ha => by simp at ha, fun _ _ h _ => h, fun a ha => by simp at ha, fun _ _ h => .inl h, Same.refl _, List.prefix_refl _⟩, .cons (.frl hs (ints_back ns)) .nil, rfl, ?_⟩
  rw [e]
  intro ρ F H' v x r rv
  cases rv
  rfl
end VL

/-! VLE: enumerate of a tuple -/
namespace VL
open PySem L2 PyProof.Rows
set_option maxHeartbeats 1000000 in
theorem enum_new1 {v : Value} {o : Obj} {Hh : Heap → Prop} (B : Begins v o Hh) :
    Meets (Builtin.«enumerate.__new__» ⟨[.type "enumerate", v], []⟩) (fun _ R s => Hh s.heap ∧
      R (.ok (.ret (.ref (s.heap.push o).objs.size))) { s with heap := (s.heap.push o).push { cls := .type "enumerate", data := .fields #[.none, .bool false, .ref s.heap.objs.size, rawInt 0, .none, .none] } }) :=
  .of_wp fun prog w A R s hs => by
    obtain ⟨hp, gn, dr, tk, os⟩ := s
    obtain ⟨hH, hR⟩ := hs
    have sub := sub_enumerate
    have step : ∀ {A1 : Around} {E1 : Value → Shared → Prop} {Q1 : Value → Shared → Prop}, Q1 (.ref hp.objs.size) ⟨hp.push o, gn, dr, tk, os⟩ → wpAny (model prog w) A1 (pyIter v) Q1 E1 ⟨hp, gn, dr, tk, os⟩ := by
      intro A1 E1 Q1 h1
      exact B.iter prog w _ _ ⟨hp, gn, dr, tk, os⟩ _ hH h1
    wp_walk using step
    refine wpAny_stack_any fun stk => wpAny_pure ?_
    split
    · rename_i cl _ _ _ _ _
      cases (cl == Value.type "enumerate")
      all_goals
        wp_walk using step
        exact ⟨_, rfl, hR⟩
    · wp_walk using step
      exact ⟨_, rfl, hR⟩
section
variable {prog : Program} {w : World} {A : Around} {E : Value → Shared → Prop} {s : Shared}
theorem enum_tup {t : Addr} {items : Array Value} {Q : Value → Shared → Prop} (ht : s.heap.IsTuple t items)
    (h : ∀ h', IsEnum h' (s.heap.objs.size + 1) s.heap.objs.size 0 .none → h'.IsTupleIter s.heap.objs.size t 0 →
      (∀ b o, s.heap.get? b = some o → h'.get? b = some o) → Q (.ref (s.heap.objs.size + 1)) { s with heap := h' }) :
    wpAny (model prog w) A (call (.type "enumerate") [.ref t]) Q E s := by
  refine callType_new F.called_enumerate (by decide) (F.typeCall_enumerate_1 _) (F.newCall_enumerate_1 _) (fun obj => F.args_object_init_2 obj _) F.entry_enumerate_new (enum_new1 (begins_tuple t items)) ⟨ht, ?_⟩
  generalize hO : ({ cls := .type "tuple_iterator", data := .fields #[.ref t, .int 0 0] } : Obj) = O
  have sz : (s.heap.push O).objs.size = s.heap.objs.size + 1 := Heap.size_push ..
  show _ ∧ _
  rw [sz]
  have he : IsEnum ((s.heap.push O).push { cls := .type "enumerate", data := .fields #[.none, .bool false, .ref s.heap.objs.size, rawInt 0, .none, .none] }) (s.heap.objs.size + 1) s.heap.objs.size 0 .none := by
    have q := Heap.get?_push_size (s.heap.push O) (o := { cls := .type "enumerate", data := .fields #[.none, .bool false, .ref s.heap.objs.size, rawInt 0, .none, .none] }) rfl
    rw [sz] at q
    exact q
  have hi : ((s.heap.push O).push { cls := .type "enumerate", data := .fields #[.none, .bool false, .ref s.heap.objs.size, rawInt 0, .none, .none] }).get? s.heap.objs.size = some O :=
    Heap.get?_push_of_some _ (Heap.get?_push_size _ (by rw [← hO]; rfl))
  refine ⟨⟨_, he, rfl⟩, h _ he ⟨O, hi, by rw [← hO], by rw [← hO]; rfl⟩ fun b ob y => Heap.get?_push_of_some _ (Heap.get?_push_of_some _ y)⟩
end
/-- each item of the tuple at a in a new pair -/
def IteT (K : PySem.W.Frag) (a : Addr) : It where
  go := fun i H => ∃ (xs : List V) (x : V), SqT K H a xs ∧ xs[i]? = some x
  yld := fun i H v H' => ∃ T x, v = .ref T ∧ H T = none ∧ H' = upd H T (.tup [.int (i : Nat), x]) ∧ ∀ xs, SqT K H a xs → xs[i]? = some x
  stop := fun i H => ∃ xs : List V, SqT K H a xs ∧ xs.length = i
theorem tupIter_ne {h : Heap} {it a : Addr} {i : Nat} {items : Array Value} (h1 : h.IsTupleIter it a i) (h2 : h.IsTuple a items) : a ≠ it := by
  rintro rfl
  obtain ⟨o, e, c, _⟩ := h1
  obtain ⟨o2, e2, c2, _⟩ := h2
  rw [e] at e2
  cases e2
  rw [c] at c2
  exact absurd c2 (by decide)
theorem turn_enumT {P : Program} {w : World} {K : PySem.W.Frag} {elts : List Expr} {kk : Nat} {tpos : Pos} (a e it : Addr) :
    Turn P w K (.Tuple elts kk tpos) (IteT K a) [e, it] e (fun i h => (∃ old, IsEnum h e it ((i : Nat) : Int) old) ∧ h.IsTupleIter it a i ∧ e ≠ it) where
  mem := by simp
  obj := by
    rintro i h ⟨⟨old, he⟩, ⟨o, ho, hc, hd⟩, _⟩ b hb
    rcases List.mem_cons.mp hb with rfl | hb
    · exact ⟨_, he, fun v q => nomatch q⟩
    · rw [List.mem_singleton.mp hb]
      exact ⟨o, ho, fun v q => by rw [hd] at q; cases q⟩
  keep := by
    rintro i h h' ⟨⟨old, he⟩, hi, ne⟩ k
    exact ⟨⟨old, k e (by simp) _ he⟩, hi.at fun o q => k it (by simp) o q, ne⟩
  item := by
    intro X hP hw hK hc i pins s σ H E I hf st hg
    subst hP hw hK
    obtain ⟨⟨old, he⟩, hit, ne⟩ := st
    obtain ⟨xs, x, hq, hx⟩ := hg
    obtain ⟨its, rv, pt, hz⟩ := I.tuple hq
    have pt : s.heap.IsTuple a its.toArray := pt
    obtain ⟨u, hu, ru⟩ := rv.get hx
    have hi : i < its.toArray.size := by
      rw [List.size_toArray]
      exact (List.getElem?_eq_some_iff.mp hu).1
    have lte : e < s.heap.objs.size := Heap.lt_size he
    have lti : it < s.heap.objs.size := by
      obtain ⟨_, q, _⟩ := hit
      exact Heap.lt_size q
    have nea : e ≠ a := by
      rintro rfl
      obtain ⟨o2, e2, c2, _⟩ := pt
      rw [he] at e2
      cases e2
      exact absurd (show Value.type "enumerate" = Value.type "tuple" from c2) (by decide)
    have Dr := Draws.tuple (prog := X.prog) (w := X.w) (A := X.A.in1) (I.ok.hd hc) it a (tupIter_ne hit pt) its.toArray
    refine wpAny_pyNext_enum_itemD Dr he ⟨hit, pt⟩ hi ne (by simp [ne, nea]) ?_
    intro y h' tk hy hOut hSt hT hsz hk
    have ey : y = u := by
      rw [List.getElem?_toArray, hu] at hy
      exact (Option.some.inj hy).symm
    subst ey
    refine ⟨_, rfl, wpAny_letOwnedTupleGo_enum (s := { s with heap := h', toks := tk + 1 }) hOut ?_⟩
    intro h2 he2 sb
    have at2 : h2.get? s.heap.objs.size = some { cls := .type "tuple", data := .seq #[.int i tk, y] } := (sb.2 _ (Nat.ne_of_gt lte)).trans hT
    have new : ObjOk X.prog X.w (upd H s.heap.objs.size (.tup [.int (i : Nat), x])) h2 s.heap.objs.size (.tup [.int (i : Nat), x]) := by
      refine ⟨by show 2 ≤ sizeLine; decide, [.int i tk, y], .cons ⟨_, rfl⟩ (.cons ru .nil), ?_⟩
      exact ⟨_, at2, rfl, _, rfl⟩
    have I2 : Inv X pins σ (upd H s.heap.objs.size (.tup [.int (i : Nat), x])) { s with heap := h2, toks := tk + 1 } := by
      refine I.turnedNew (ch := [e, it]) ?_ hf (Nat.le_refl _) new
      intro b ob hb q
      have n1 : b ≠ e := fun z => hb (by simp [z])
      have n2 : b ≠ it := fun z => hb (by simp [z])
      exact (sb.2 b n1).trans (hk b ob n1 n2 q)
    refine ⟨.ref s.heap.objs.size, _, I2, rfl, ⟨_, x, rfl, I.hok.fresh (Nat.le_refl _), rfl, ?_⟩, ⟨⟨y, ?_⟩, hSt.1.at fun o q => (sb.2 it (Ne.symm ne)).trans q, ne⟩, ?_⟩
    · intro ys hys
      rw [I.tuple_inj hys hq]
      exact hx
    · rw [show ((i + 1 : Nat) : Int) = (i : Int) + 1 by omega]
      exact he2
    · intro b hb
      have lb : b < s.heap.objs.size := by
        rcases List.mem_cons.mp hb with rfl | hb
        · exact lte
        · rw [List.mem_singleton.mp hb]; exact lti
      rw [upd_ne (Nat.ne_of_lt lb)]
      exact (hf b hb).1
  done := by
    intro X hP hw hK hc i pins s σ H E I hf st hg
    subst hP hw hK
    obtain ⟨⟨old, he⟩, hit, ne⟩ := st
    obtain ⟨xs, hq, hx⟩ := hg
    obtain ⟨its, rv, pt, hz⟩ := I.tuple hq
    have pt : s.heap.IsTuple a its.toArray := pt
    obtain ⟨f0, f1, f2, f3, f4, f5⟩ := hf it (by simp)
    have Dr := Draws.tuple (prog := X.prog) (w := X.w) (A := X.A.in1) (I.ok.hd hc) it a (tupIter_ne hit pt) its.toArray
    have ei : its.toArray.size = i := by rw [List.size_toArray, ← rv.length, hx]
    refine wpAny_pyNext_enum_endD Dr he ⟨by rw [ei]; exact hit, pt⟩ ?_
    intro h' eb
    exact ⟨rfl, I.turned (t' := s.toks) (fun b o hb q => eb b o hb q) f0 f1 f3 f4 f5⟩
  self := by
    rintro A i s Q E ⟨⟨_, he⟩, _⟩ h
    exact wpAny_pyIter_enum he h
def iEnumT (K : PySem.W.Frag) (ta : TA) : TI := fun σ H R => ta σ H fun vs H1 => ∃ a xs, vs = [.ref a] ∧ SqT K H1 a xs ∧ R (IteT K a) H1
theorem pi_enumT {X : Cx} {e : Expr} {ta : TA} {p pos tpos : Pos} {elts : List Expr} {kk : Nat} (hg : Gl X "enumerate") (hm : X.mg "enumerate" = none) (ha : PA X [e] ta) (hs : starEach [e] X.env = [(false, eval e X.env)] := by rfl) :
    PI X (.Tuple elts kk tpos) (.Call (.Name "enumerate" p) [e] [] pos) (iEnumT X.K ta) := by
  constructor
  intro pins s σ H R I h
  refine Call_ (ld_blt I hg hm boot_enumerate (PyProof.Rows.callWith_type1 (thn (ha.run pos pins s σ H _ I h) ?_) hs rfl))
  rintro us s1 ⟨vs, H1, I1, r1, a, xs, rfl, hq, q⟩
  cases r1 with
  | cons r rr =>
    cases rr
    cases r
    obtain ⟨its, rv, pt, hz⟩ := I1.tuple hq
    refine enum_tup (show s1.heap.IsTuple a its.toArray from pt) ?_
    intro h' he hit hk
    refine wpAny_pyIter_enum he ?_
    have I2 : Inv X pins σ H1 { s1 with heap := h' } := I1.kept (t' := s1.toks) hk
    refine ⟨s1.heap.objs.size + 1, [s1.heap.objs.size + 1, s1.heap.objs.size], _, _, H1, rfl, I2, turn_enumT a (s1.heap.objs.size + 1) s1.heap.objs.size, ⟨⟨.none, he⟩, hit, Nat.succ_ne_self _⟩, ?_, q⟩
    intro b hb
    have le : s1.heap.objs.size ≤ b := by
      rcases List.mem_cons.mp hb with rfl | hb
      · exact Nat.le_add_right _ _
      · rw [List.mem_singleton.mp hb]; exact Nat.le_refl _
    exact I1.fpOk le (I1.hok.fresh le)
section
variable {X : Cx} {G : Gx} {W : WX} {ρ : List Addr} {F : Hp} {e : Expr} {pos : Pos}
theorem wk_enumT {a : Addr} {ds : List D} {vs : List V} (hs : SqT G.K.K F a vs) (rv : RVs G.K ρ F ds vs) : Wk G ρ F (IteT G.K.K a) (enumD ds) keepAll := by
  intro ρ1 F1 st1 σ1 H1 i x r _
  have hs1 : SqT G.K.K H1 a vs := sqT_same r.fz (sqT_same x.fz hs)
  constructor
  · intro d e
    unfold enumD at e
    rw [List.getElem?_mapIdx] at e
    cases q : ds[i]? with
    | none => rw [q] at e; cases e
    | some d0 =>
      rw [q] at e
      cases e
      obtain ⟨v, e1, e2⟩ := (rv.ext x).get q
      refine ⟨⟨vs, v, hs1, e1⟩, ?_⟩
      rintro y H' ⟨T, u, rfl, e4, rfl, e6⟩
      have e6 := e6 vs hs1
      rw [e1] at e6
      cases e6
      obtain ⟨x2, r2⟩ := r.fresh (o := .tup [.int (i : Nat), v]) e4
      exact ⟨ρ1, _, x2, rfl, same_upd' e4, r2, .tup (SqT.of upd_same) (.cons (.int _) (.cons (e2.ext x2) .nil))⟩
  · intro e
    unfold enumD at e
    rw [List.length_mapIdx] at e
    exact ⟨vs, hs1, by rw [← rv.length, e]⟩
def iEnT (g : Ax) : Ix := fun st => (g st).bind fun xs c1 => match xs with
  | [.tup ds] => .ok (enumD ds, keepAll) c1
  | _ => .no
theorem di_enumT {g : Ax} {p pos tpos : Pos} {elts : List Expr} {kk : Nat} (hK : X.K = G.K.K) (hg : Gl X "enumerate") (hm : X.mg "enumerate" = none) (ha : PA X [e] (tAs G W g)) (hs : starEach [e] X.env = [(false, eval e X.env)] := by rfl) :
    PI X (.Tuple elts kk tpos) (.Call (.Name "enumerate" p) [e] [] pos) (tI G W (iEnT g)) := by
  refine (pi_enumT hg hm ha hs).impV ?_
  rintro σ H R ⟨ρ, F, st, r, p⟩
  refine tI_of (R := RVs) r p (fun ρ1 F1 H1 xs c1 v x1 r1 rv1 q hn => ?_) (fun xs c1 => ?_)
  · rw [hK]
    split at hn
    · cases rv1 with
      | cons h1 h2 =>
        cases h2
        cases h1 with
        | tup h1 h2 => exact ⟨_, _, rfl, sqT_same r1.fz h1, q _ rfl _ (wk_enumT h1 h2)⟩
    · exact absurd rfl hn
  · split <;> first | exact .inl ⟨_, rfl⟩ | exact .inr rfl
end
end VL

/-! VLB: repr, isinstance, new objects, keywords -/
namespace VL
open PySem L2 PyProof.Rows
/-! ### repr of data -/
def rReprD (K : PySem.W.Frag) : List V → Hp → VK → Prop := fun xs H Q => ∃ (x : V) (d : PyData), xs = [x] ∧ Dp K H x d ∧ SeqAt.shaped d = true ∧ d.showable = true ∧ d.shown.length ≤ sizeLine ∧ Q (.str d.shown) H
theorem call_reprD {X : Cx} (hg : X.A.guards = some []) (hu : X.A.units + 66 < cLine) : CallR X (.builtin "repr") (rReprD X.K) := by
  intro pins s σ H xs us Q I r h
  obtain ⟨x, d, rfl, dp, sh, sw, sz, q⟩ := h
  obtain ⟨u, rfl, rx⟩ := vals1 r
  cases d with
  | none =>
    cases dp
    cases rx
    exact PySem.P.repr_of_none ⟨.str _, H, I.tok _, ⟨_, rfl⟩, q⟩
  | bool b =>
    cases dp
    cases rx
    refine PySem.P.repr_of_bool ⟨.str _, H, I.tok _, ⟨_, rfl⟩, ?_⟩
    simp only [PyData.shown] at q
    exact q
  | int i =>
    cases dp
    obtain ⟨t, rfl⟩ := rx
    simp only [PyData.showable, decide_eq_true_eq] at sw
    refine PySem.P.repr_of_int sw ⟨.str _, H, I.tok _, ⟨_, rfl⟩, ?_⟩
    simp only [PyData.shown] at q
    exact q
  | str z =>
    cases dp
    obtain ⟨t, rfl⟩ := rx
    simp only [PyData.shown] at q sz
    exact PySem.P.repr_of_str ⟨.str _, H, I.tok _, ⟨_, rfl⟩, q⟩ sz
  | dict kvs => cases dp
  | list ds =>
    have hd := SeqAt.depth_of_shaped sh
    have hnd := PyData.hasDict_of_canLay _ (SeqAt.canLay_of_shaped sh)
    obtain ⟨as, rd⟩ := Dp.reads I _ _ _ dp rx
    cases dp
    obtain rfl : u = Value.ref _ := rx
    refine repr_of_reads' rd sw (PyData.noDict_hsm hnd) hg (by omega) (fun _ _ e => e) ?_ sz
    intro h' t tk hk
    exact ⟨.str _, H, I.kept hk, ⟨_, rfl⟩, q⟩
  | tuple ds =>
    have hd := SeqAt.depth_of_shaped sh
    have hnd := PyData.hasDict_of_canLay _ (SeqAt.canLay_of_shaped sh)
    obtain ⟨as, rd⟩ := Dp.reads I _ _ _ dp rx
    cases dp
    obtain rfl : u = Value.ref _ := rx
    refine repr_of_reads' rd sw (PyData.noDict_hsm hnd) hg (by omega) (fun _ _ e => e) ?_ sz
    intro h' t tk hk
    exact ⟨.str _, H, I.kept hk, ⟨_, rfl⟩, q⟩
/-- may be shown -/
def showOk (d : D) : Bool := plain d && SeqAt.shaped (py d) && (py d).showable && decide ((py d).shown.length ≤ 16777216)
def hRepr : FB := fun cs ds => match ds with
  | [x] => if showOk (norm cs x) then .ok (.str (py (norm cs x)).shown) cs else .no
  | _ => .no
section
variable {X : Cx} {G : Gx} {W : WX} {e a : Expr} {es : List Expr} {g : Ax} {pos p : Pos} {fa : Ex}
theorem vn_repr : VN G W (rReprD G.K.K) hRepr := by
  intro ρ F st σ H ds vs Q r rv p
  unfold hRepr at p
  split at p
  · rename_i x
    cases rv with
    | cons h1 h2 =>
      cases h2
      by_cases c : showOk (norm st.cs x) = true
      · rw [if_pos c] at p
        unfold showOk at c
        simp only [Bool.and_eq_true, decide_eq_true_eq] at c
        exact ⟨_, _, rfl, dp_norm r h1 c.1.1.1, c.1.1.2, c.1.2, line_of c.2, p.here r (.str _)⟩
      · rw [if_neg c] at p
        exact p.elim
  · exact p.elim
theorem de_repr (hK : X.K = G.K.K) (hgd : X.A.guards = some []) (hu : X.A.units + 66 < cLine) (hg : Gl X "repr") (hm : X.mg "repr" = none) (ha : PA X (e :: es) (tAs G W g)) (he : starEach (e :: es) X.env = (false, eval e X.env) :: starEach es X.env := by rfl) (hpl : (backTo pos (starEach es X.env)).any (·.1) = false := by rfl) : PE X (.Call (.Name "repr" p) (e :: es) [] pos) (tE G W (eB hRepr g)) :=
  de_callB (call_reprD hgd hu) (by rw [hK]; exact vn_repr) hg hm boot_repr ha (he := he) (hpl := hpl)
/-! ### isinstance with a built-in class -/
def tyD (cs : List Cell) : D → Option String
  | .non => some "NoneType"
  | .bl _ => some "bool"
  | .int _ => some "int"
  | .str _ => some "str"
  | .tup _ => some "tuple"
  | .obj _ _ _ => none
  | .cls _ => none
  | d => (lstOf cs d).map fun _ => "list"
theorem tyX_of {ρ : List Addr} {F : Hp} {st : S} {σ : L2.St} {H : Hp} {x : D} {v : V} {n : String} (r : Rel G ρ F st σ H) (h : RV G.K ρ F x v) (e : tyD st.cs x = some n) : TyX G.K.K H v (.type n) := by
  have lists : ∀ {y : D}, RV G.K ρ F y v → (lstOf st.cs y).map (fun _ => "list") = some n → TyX G.K.K H v (.type n) := by
    intro y hy e
    cases q : lstOf st.cs y with
    | none => rw [q] at e; cases e
    | some ds =>
      rw [q] at e
      cases e
      obtain ⟨b, vs, rfl, s2, _⟩ := lst_read r hy q
      rcases s2 with (s2 | ⟨o, s2⟩) | ⟨o, its, k, l1, l2, _⟩
      · exact .base (.lst s2)
      · exact .base (.frz s2)
      · exact .kList l1 l2
  cases h with
  | non => cases e; exact .base .non
  | bl b => cases e; exact .base (.bl b)
  | int i => cases e; exact .base (.int i)
  | str z => cases e; exact .base (.str z)
  | tup h1 h2 =>
    cases e
    rcases sqT_same r.fz h1 with (s2 | ⟨o, s2⟩) | ⟨o, its, k, l1, l2, _⟩
    · exact .base (.tup s2)
    · exact .fTuple s2
    · exact .kTuple l1 l2
  | lst h1 h2 => exact lists (.lst h1 h2) e
  | frl h1 h2 => exact lists (.frl h1 h2) e
  | loc h1 => exact lists (.loc h1) e
  | obj => cases e
  | cls => cases e
def isSub (a b : String) : Option Bool :=
  if ["NoneType", "bool", "int", "str", "tuple", "list"].contains a && ["bool", "int", "str", "tuple", "list"].contains b then some (a == b || a == "bool" && b == "int") else none
theorem isSub_of {a b : String} {k : Bool} (h : isSub a b = some k) : kitB a b = some k := by
  unfold isSub at h
  split at h
  · rename_i c
    rw [Bool.and_eq_true] at c
    have h1 := List.contains_iff_mem.mp c.1
    have h2 := List.contains_iff_mem.mp c.2
    cases h
    simp only [List.mem_cons, List.not_mem_nil, or_false] at h1 h2
    rcases h1 with rfl | rfl | rfl | rfl | rfl | rfl <;> rcases h2 with rfl | rfl | rfl | rfl | rfl <;> decide +kernel
  · cases h
def gIsi (T : String) : F1 := fun cs x => match tyD cs x with
  | some n => (match isSub n T with
    | some k => .ok (.bl k) cs
    | none => .no)
  | none => .no
theorem de_isi {T : String} {x : Str} {p1 p2 : Pos} (hK : X.K = G.K.K) (hg : Gl X "isinstance") (hm : X.mg "isinstance" = none) (hgT : Gl X x) (hmT : X.mg x = none) (hbT : bootBuiltins x = some (.type T)) (ha : PE X a (tE G W fa)) (hn : x ≠ "__name__" := by decide) (hd : (x == ("__debug__" : Str)) = false := by decide)
    (hs : starEach [a, .Name x p2] X.env = (false, eval a X.env) :: starEach [.Name x p2] X.env := by rfl) (hpl : (backTo pos (starEach [.Name x p2] X.env)).any (·.1) = false := by rfl) (hs2 : starEach [.Name x p2] X.env = (false, eval (.Name x p2) X.env) :: starEach [] X.env := by rfl) :
    PE X (.Call (.Name "isinstance" p1) [a, .Name x p2] [] pos) (tE G W (eUn (gIsi T) fa)) := by
  have hT : PE X (.Name x p2) (tC (.ty T)) := pe_bltn hgT hmT hbT rfl hn hd
  refine (pe_callB call_isi hg hm boot_isinstance (pa_cons ha (pa_cons hT pa_nil hs2) hs) (he := hs) (hpl := hpl)).impV ?_
  rintro σ H Q ⟨ρ, F, st, r, p⟩
  refine seqX r p fun ρ1 F1 H1 x c1 v x1 r1 rv1 p1 => ?_
  unfold gIsi at p1
  cases q : tyD c1 x with
  | none => rw [q] at p1; exact p1.elim
  | some n =>
    rw [q] at p1
    simp only at p1
    cases q2 : isSub n T with
    | none => rw [q2] at p1; exact p1.elim
    | some k =>
      rw [q2] at p1
      rw [hK]
      exact ⟨v, .ty T, .type n, .type T, k, rfl, .ty T, tyX_of (st := ⟨st.env, c1⟩) r1 rv1 q, kit_ty (isSub_of q2), p1.here (st := ⟨st.env, c1⟩) r1 (.bl _)⟩
/-! ### self.f = e, self an own instance -/
def putD (f : Str) (d : D) : List Str → List D → List Str × List D
  | k :: ks, x :: xs => if k = f then (k :: ks, d :: xs) else ((putD f d ks xs).1.cons k, (putD f d ks xs).2.cons x)
  | _, _ => ([f], [d])
theorem putD_rel {K : Kt} {ρ : List Addr} {F : Hp} {f : Str} {d : D} {v : V} (h : RV K ρ F d v) : ∀ {ks : List Str} {ds : List D} {vs : List V}, RVs K ρ F ds vs → ks.length = vs.length →
    ∃ ws, RVs K ρ F (putD f d ks ds).2 ws ∧ (putD f d ks ds).1.length = ws.length ∧ putF f v (ks.zip vs) = (putD f d ks ds).1.zip ws
  | [], _, _, .nil, _ => ⟨[v], .cons h .nil, rfl, rfl⟩
  | [], _, _, .cons _ _, e => by simp at e
  | _ :: _, _, _, .nil, e => by simp at e
  | k :: ks, _, _, @RVs.cons _ _ _ x xs y ys hx r, e => by
    have e' : ks.length = ys.length := by simpa using e
    unfold putD
    rw [List.zip_cons_cons]
    unfold putF
    by_cases c : k = f
    · rw [if_pos c, if_pos c]
      exact ⟨v :: ys, .cons h r, by simp [e'], by rw [List.zip_cons_cons]⟩
    · rw [if_neg c, if_neg c]
      obtain ⟨ws, h1, h2, h3⟩ := putD_rel h r e'
      exact ⟨y :: ws, .cons hx h1, by simpa using h2, by rw [h3]; rfl⟩
def setFld (cn : Nat) (f : Str) (o v : D) (st : S) : SOut := match o with
  | .loc n => (match st.cs[n]? with
    | some (.ins C ks ds) => if C = cn ∧ ks.length < 1000 then .nx ⟨st.env, st.cs.set n (.ins C (putD f v ks ds).1 (putD f v ks ds).2)⟩ else .no
    | _ => .no)
  | _ => .no
def sSetFld (cn : Nat) (f : Str) (fv fo : Ex) : Sx := fun st => thenS (fv st) st.env fun v st1 => thenS (fo st1) st1.env fun o st2 => setFld cn f o v st2
theorem ds_fld {cn : Nat} {f : Str} {o value : Expr} {fv fo : Ex} {pos' : Pos} (hK : X.K = G.K.K) (hf : FldOk G.K cn f) (ho : PE X o (tE G W fo)) (hv : PE X value (tE G W fv)) (hs : swapsWith value (some (.Attribute o f pos')) pos.line X.env = pure false := by rfl) :
    PS X (.Assign [.Attribute o f pos'] value pos) (tS G W (sSetFld cn f fv fo)) := by
  refine (ps_fld ho hv hs).impV ?_
  rintro E σ H ⟨ρ, F, st, r, p⟩
  refine seqS (f := fv) r p fun ρ1 F1 H1 x c1 v x1 r1 rv1 p1 => ?_
  refine seqS (st := ⟨st.env, c1⟩) (f := fo) r1 p1 fun ρ2 F2 H2 y c2 w x2 r2 rv2 p2 => ?_
  rw [hK]
  unfold setFld at p2
  cases rv2 with
  | @loc n a0 h1 =>
    simp only at p2
    cases q : c2[n]? with
    | none => rw [q] at p2; exact p2.elim
    | some c0 =>
      rw [q] at p2
      cases c0 with
      | lst _ => exact p2.elim
      | dk _ _ => exact p2.elim
      | ins C ks ds =>
        simp only at p2
        by_cases c : C = cn ∧ ks.length < 1000
        · rw [if_pos c] at p2
          obtain ⟨rfl, c2'⟩ := c
          obtain ⟨dx, vs, h2, h3, h4⟩ := r2.cell n _ _ q h1
          refine ⟨a0, _, dx, _, rfl, h2, hf.cl, hf.no, ?_, ?_⟩
          · rw [List.length_zip, ← h3, Nat.min_self]
            exact c2'
          · obtain ⟨ws, g1, g2, g3⟩ := putD_rel (f := f) (rv1.ext x2) h4 h3
            refine p2 ρ2 F2 σ _ Ext.refl (r2.cellSet (st := ⟨st.env, c2⟩) (c := .ins C (putD f x ks ds).1 (putD f x ks ds).2) h1 ⟨dx, ws, ?_, g2, g1⟩)
            rw [upd_same, g3]
        · rw [if_neg c] at p2
          exact p2.elim
  | _ => exact p2.elim
end
/-! ### a new object -/
/-- the last own cell, an instance, becomes a frozen object -/
theorem Rel.freezeO {G : Gx} {ρ0 ρ : List Addr} {F0 F : Hp} {env0 env : List (Option D)} {cs0 cs : List Cell} {C : Nat} {ks : List Str} {ds : List D} {σ0 σ : L2.St} {H0 H : Hp} {a : Addr} {n : Nat} (r0 : Rel G ρ0 F0 ⟨env0, cs0⟩ σ0 H0) (hn : n = cs0.length) (x : Ext ρ0 F0 ρ F)
    (r : Rel G ρ F ⟨env, cs ++ [.ins C ks ds]⟩ σ H) (hl : cs.length = n) (ha : ρ[n]? = some a) (b1 : belows n ds = true) (b2 : cs.all (belowC n) = true) :
    ∃ F', Ext ρ0 F0 ρ0 F' ∧ Rel G ρ0 F' ⟨env0, cs⟩ σ0 H ∧ RV G.K ρ0 F' (.obj C ks ds) (.ref a) := by
  have hρ : ρ.take n = ρ0 := by
    obtain ⟨t, rfl⟩ := x.pre
    rw [hn, ← show ρ0.length = cs0.length from r0.cl, List.take_left]
  obtain ⟨dx, vs, h1, h1l, h2⟩ := r.cell n (.ins C ks ds) a (by
    show (cs ++ [Cell.ins C ks ds])[n]? = _
    rw [List.getElem?_append_right (by omega), hl, Nat.sub_self]; rfl) ha
  have hm : a ∈ ρ := List.mem_of_getElem? ha
  have hFa : F a = none := r.sep a hm
  have s1 : Same F (upd F a (.ins (G.K.κ C) dx (ks.zip vs))) := same_upd' hFa
  have hna : a ∉ ρ0 := fun z => by
    rw [← hρ] at z
    obtain ⟨i, hi, e⟩ := List.getElem_of_mem z
    rw [List.length_take] at hi
    have hin : i < n := by omega
    rw [List.getElem_take] at e
    obtain ⟨h3, h3'⟩ := List.getElem?_eq_some_iff.mp ha
    have := (List.getElem_inj r.nd).mp (e.trans h3'.symm)
    omega
  have hA : a ∉ G.A0 := fun z => hna (r0.a0.subset z)
  have hH0 : G.H0 a = none := (r.own a hm).resolve_left hA
  refine ⟨upd F a (.ins (G.K.κ C) dx (ks.zip vs)), ⟨List.prefix_refl _, x.fz.trans s1⟩, ⟨r0.len, fun i d e => ?_, ?_, fun i c b e1 e2 => ?_, r0.nd, fun b o e => ?_, fun b hb => ?_, r.fr, fun b hb => r.own b (x.pre.subset hb), fun b o e => ?_, r.old.trans s1, r0.a0⟩, ?_⟩
  · obtain ⟨v, e1, e2⟩ := r0.env i d e
    exact ⟨v, e1, e2.ext ⟨List.prefix_refl _, x.fz.trans s1⟩⟩
  · show ρ0.length = cs.length
    rw [hl, hn]; exact r0.cl
  · have e1 : cs[i]? = some c := e1
    have hi : i < cs.length := (List.getElem?_eq_some_iff.mp e1).1
    have q := r.cell i c b (by show (cs ++ [Cell.ins C ks ds])[i]? = _; rw [List.getElem?_append_left hi]; exact e1) (x.at e2)
    have q := q.cut (n := n) s1 (List.all_eq_true.mp b2 c (List.mem_of_getElem? e1))
    rw [hρ] at q
    exact q
  · by_cases hb : b = a
    · subst hb
      rw [upd_same] at e
      cases e
      exact h1
    · rw [upd_ne hb] at e
      exact r.fz b o e
  · rw [upd_ne (show b ≠ a from fun z => hna (by rw [← z]; exact hb))]
    exact r.sep b (x.pre.subset hb)
  · by_cases hb : b = a
    · subst hb
      exact .inr hH0
    · rw [upd_ne hb] at e
      exact r.new b o e
  · have q := h2.cut (n := n) s1 b1
    rw [hρ] at q
    exact .obj upd_same h1l q
def lastIns (cs : List Cell) : Option (List Cell × Nat × List Str × List D) := match cs.reverse with
  | .ins C ks ds :: r => some (r.reverse, C, ks, ds)
  | _ => none
theorem lastIns_eq {cs c1 : List Cell} {C : Nat} {ks : List Str} {ds : List D} (h : lastIns cs = some (c1, C, ks, ds)) : cs = c1 ++ [.ins C ks ds] := by
  unfold lastIns at h
  split at h
  · rename_i e
    cases h
    rw [← List.reverse_reverse cs, e, List.reverse_cons]
  · cases h
/-- C(..): __init__ is fn; the new instance is its first argument -/
def makeD (cn : Nat) (fn : Fn) (ds : List D) (cs : List Cell) : Out D := match fn (.loc cs.length :: ds) (cs ++ [.ins cn [] []]) with
  | .ok .non c2 => (match lastIns c2 with
    | some (c3, C, ks, es) => if C = cn ∧ c3.length = cs.length ∧ belows cs.length es = true ∧ c3.all (belowC cs.length) = true then .ok (.obj C ks es) c3 else .no
    | none => .no)
  | .ok _ _ => .no
  | .ex e c2 => if belows cs.length e.ds = true ∧ (c2.take cs.length).all (belowC cs.length) = true ∧ c2.length = cs.length + 1 then .ex e (c2.take cs.length) else .no
  | .no => .no

section
variable {X : Cx} {G : Gx} {W : WX} {ρ : List Addr} {F : Hp} {st : S} {σ : L2.St} {H : Hp} {e : Expr} {es : List Expr} {g : Ax} {pos p : Pos}
/-- W does not hang on the slots -/
def Flat (W : WX) : Prop := ∀ c d σ σ' H, W c d σ H → W c d σ' H
theorem flat0 : Flat W0 := fun _ _ _ _ _ h => h
theorem flatE {E : XK} : Flat (fun cls d _ H' => E cls d H') := fun _ _ _ _ _ h => h
theorem passF (tk : Takes X W) (hW : Flat W) : Passes (L2.CX X.prog X.w) X (fun c d H => W c d [] H) := fun pins σ H s e s' I c => passes_call tk (fun cls d σ H h => hW _ _ _ _ _ h) pins σ H s e s' I c
theorem make_of {cn n : Nat} {fn : Fn} {ds : List D} {vs : List V} {Q : VK} {x dx : Addr} (hW : Flat W) (r : Rel G ρ F st σ H) (rv : RVs G.K ρ F ds vs) (hn : ds.length + 1 = n) (nx : H x = none) (ndx : H dx = none) (ne : dx ≠ x) (p : Post RV G W ρ F st.env σ Q (makeD cn fn ds st.cs)) :
    spF G.K n fn (.ref x :: vs) (upd (upd H dx (.own x)) x (.ins (G.K.κ cn) dx [])) (fun v H2 => v = .non ∧ Q (.ref x) H2) (fun c d H => W c d [] H) := by
  obtain ⟨x1, r1⟩ := r.fresh (o := .own x) ndx
  have nx1 : (upd H dx (.own x)) x = none := by rw [upd_ne ne.symm]; exact nx
  have y : Ext ρ (upd F dx (.own x)) (ρ ++ [x]) (upd F dx (.own x)) := ⟨List.prefix_append _ _, Same.refl _⟩
  obtain ⟨x2, r2⟩ := r1.cellNew (p := x) (o := .ins (G.K.κ cn) dx []) (c := .ins cn [] []) nx1 ⟨dx, [], upd_same, rfl, .nil⟩
  have hat : (ρ ++ [x])[st.cs.length]? = some x := by rw [← r.cl, List.getElem?_append_right (Nat.le_refl _), Nat.sub_self]; rfl
  refine ⟨ρ ++ [x], upd F dx (.own x), .loc st.cs.length :: ds, st.cs ++ [.ins cn [] []], r2.entry, .cons (.loc hat) ((rv.ext x1).ext x2), by simpa using hn, ?_⟩
  unfold makeD at p
  have x12 := x1.trans x2
  cases q : fn (.loc st.cs.length :: ds) (st.cs ++ [.ins cn [] []]) with
  | no => rw [q] at p; exact p.elim
  | ex e' c2 =>
    rw [q] at p
    simp only at p
    by_cases c : belows st.cs.length e'.ds = true ∧ (c2.take st.cs.length).all (belowC st.cs.length) = true ∧ c2.length = st.cs.length + 1
    · rw [if_pos c] at p
      intro ρ3 F3 H3 cls d x3 r3 xa
      have r4 := r2.after x3 r3
      have eρ : ρ3.take st.cs.length = ρ := by
        obtain ⟨t, ht⟩ := x3.pre
        have ht : (ρ ++ [x]) ++ t = ρ3 := ht
        rw [← ht, List.append_assoc, ← show ρ.length = st.cs.length from r.cl, List.take_left]
      obtain ⟨y1, y2, y3, y4, y5, y6, y7⟩ := xa
      have r5 := r4.entryP (n := st.cs.length) c.2.1
      have e4 : Ext ρ F ρ3 F3 := x12.trans x3
      refine hW _ _ _ _ _ (p ρ F3 H3 cls d ⟨List.prefix_refl _, e4.fz⟩ ?_ ⟨y1, y2, y3, y4, y5, y6, ?_⟩)
      · refine ⟨r.len, fun i d' e1 => ?_, ?_, fun i c0 b e1 e2 => ?_, r.nd, r4.fz, fun b hb => r4.sep b (e4.pre.subset hb), r4.fr, fun b hb => r.own b hb, r4.new, r4.old, r.a0⟩
        · obtain ⟨v, f1, f2⟩ := r.env i d' e1
          exact ⟨v, f1, f2.ext ⟨List.prefix_refl _, e4.fz⟩⟩
        · show ρ.length = (c2.take st.cs.length).length
          rw [List.length_take, c.2.2, r.cl]
          omega
        · have q1 := r5.cell i c0 b e1 (by rw [eρ]; exact e2)
          rw [eρ] at q1
          exact q1
      · have q1 := y7.cut (n := st.cs.length) (Same.refl F3) c.1
        rw [eρ] at q1
        exact q1
    · rw [if_neg c] at p
      exact p.elim
  | ok d c2 =>
    rw [q] at p
    cases d with
    | non =>
      simp only at p
      intro ρ3 F3 H3 v x3 r3 rv3
      cases rv3
      refine ⟨rfl, ?_⟩
      cases q2 : lastIns c2 with
      | none => rw [q2] at p; exact p.elim
      | some z =>
        obtain ⟨c3, C, ks, es⟩ := z
        rw [q2] at p
        simp only at p
        by_cases c : C = cn ∧ c3.length = st.cs.length ∧ belows st.cs.length es = true ∧ c3.all (belowC st.cs.length) = true
        · rw [if_pos c] at p
          obtain ⟨rfl, h1, h2, h3⟩ := c
          have e := lastIns_eq q2
          subst e
          have r4 := r2.after x3 r3
          obtain ⟨F', x5, r5, rv5⟩ := Rel.freezeO (a := x) (env0 := st.env) (cs0 := st.cs) r rfl (x12.trans x3) r4 h1 (x3.at hat) h2 h3
          exact p ρ F' H3 _ x5 r5 rv5
        · rw [if_neg c] at p
          exact p.elim
    | _ => exact p.elim
def eMake (cn : Nat) (fn : Fn) (g : Ax) : Ex := fun st => (g st).bind fun ds c1 => makeD cn fn ds c1
theorem de_make {cn k : Nat} {fn : Fn} {f : Addr} {fd : FuncData} {ps : List Str} {x : Str} (hW : Flat W) (tk : Takes X W) (M : Mk X.K (G.K.κ cn) f) (hF : FnOk X.prog X.w X.K X.mg X.base (L2.CX X.prog X.w) k f fd ps (spF G.K ps.length fn)) (hr : Room (k + 1) X.A) (hg : Gl X x) (hm : X.mg x = some (.ref (G.K.κ cn))) (hb : Binds X.K fd ps [])
    (ha : PA X (e :: es) (tAs G W g)) (hlen : ∀ st ds c1, g st = .ok ds c1 → ds.length + 1 = ps.length) (hdb : (x == ("__debug__" : Str)) = false := by decide) (he : starEach (e :: es) X.env = (false, eval e X.env) :: starEach es X.env := by rfl) (hpl : (backTo pos (starEach es X.env)).any (·.1) = false := by rfl) :
    PE X (.Call (.Name x p) (e :: es) [] pos) (tE G W (eMake cn fn g)) := by
  refine (pe_make M hF hr hg hm hb .nil (passF tk hW) ha hdb he hpl).impV ?_
  rintro σ H Q ⟨ρ, F, st, r, p⟩
  unfold eMake at p
  refine ⟨ρ, F, st, r, ?_⟩
  cases q : g st with
  | no => rw [q] at p; exact p.elim
  | ex e' cs => rw [q] at p; exact p
  | ok ds c1 =>
    rw [q] at p
    have p : Post RV G W ρ F st.env σ Q (makeD cn fn ds c1) := p
    intro ρ1 F1 H1 vs x1 r1 rv1 x dx nx ndx ne
    rw [List.append_nil]
    exact make_of (st := ⟨st.env, c1⟩) hW r1 rv1 (hlen _ _ _ q) nx ndx ne (Post.ext x1 p)
/-! ### keywords alone -/
theorem _root_.L2.PK.impV {X : Cx} {kws : List Keyword} {t t' : TA} (h : PK X kws t) (m : ∀ σ H Q, t' σ H Q → t σ H Q) : PK X kws t' := ⟨fun pos pins s σ H Q I hw => h.run pos pins s σ H Q I (m _ _ _ hw)⟩
theorem dk_nil : PK X [] (tAs G W aNil) := pk_nil.impV fun σ H Q ⟨ρ, F, st, r, p⟩ => p.here r .nil
theorem dk_cons {nm : Option Str} {kpos : Pos} {kws : List Keyword} {f : Ex} (h : PE X e (tE G W f)) (hr : PK X kws (tAs G W g)) : PK X (⟨nm, e, kpos⟩ :: kws) (tAs G W (aCons f g)) :=
  (pk_cons h hr).impV fun σ H Q ⟨ρ, F, st, r, p⟩ => seqX r p fun ρ1 F1 H1 x c1 v x1 r1 rv1 p1 => seqX (st := ⟨st.env, c1⟩) r1 p1 fun ρ2 F2 H2 xs c2 vs x2 r2 rv2 p2 => p2.here (st := ⟨st.env, c2⟩) r2 (.cons (rv1.ext x2) rv2)
theorem pe_kw0 {CX : CXT} {E : XK} {k : Nat} {f : Addr} {fd : FuncData} {ps ks : List Str} {sp : Sp} {x : Str} {kws : List Keyword} {tk : TA} {gg : List Value → List Value → List Value} {gV : List V → List V → List V}
    (hF : FnOk X.prog X.w X.K X.mg X.base CX k f fd ps sp) (hr : Room k X.A) (hg : Gl X x) (hm : X.mg x = some (.ref f)) (hk : PySem.W.keepIn X.K (.ref f) = true) (hb : KBn X.K fd ps 0 ks gg gV) (hx : Passes CX X E) (hkw : PK X kws tk)
    (hall : (backToKw pos (keywordEach kws X.env)).all (·.1.isSome) = true := by rfl) (hks : (backToKw pos (keywordEach kws X.env)).filterMap (·.1) = ks := by rfl) (hdb : (x == ("__debug__" : Str)) = false := by decide)
    (hpl : ((backTo pos (starEach [] X.env)).any (·.1) || (backToKw pos (keywordEach kws X.env)).any (·.1.isNone)) = false := by rfl) :
    PE X (.Call (.Name x p) [] kws pos) (fun σ H Q => tk σ H fun zs H2 => zs.length = ks.length ∧ sp (gV [] zs) H2 Q E) := by
  constructor
  intro pins s σ H Q I h
  refine wpAny_Call_Name_kw (ld_glob I hg hm ?_ hdb)
  refine PySem.W.callWith_KW0 (h₀ := X.base) I.ok.mod.kin hk hall (thn (hkw.run pos pins s σ H _ I h) ?_) hpl
  rintro ws s2 ⟨zs, H2, I2, rz, hl, q2⟩
  refine ⟨I2.kIn, ?_⟩
  rw [hks]
  have hlw : ws.length = ks.length := by rw [← rz.length]; exact hl
  have rr := hb.rel (vs := []) (us := []) .nil rz
  refine wpAny_call (codeAny_mono (hF.run X.A X.stack s2 H2 ⟨[], ks.zip ws⟩ (gg [] ws) (gV [] zs) Q E hr I2.env0 (hb.to s2 [] ws I2.kIn rfl hlw) rr q2) ?_)
  intro res s' hq
  match res, hq with
  | .error er, hq => exact hx pins σ H2 s2 er s' I2 hq
  | .ok (.ret u), hq => exact I2.after hq
  | .ok .next, hq => exact hq.elim
  | .ok .brk, hq => exact hq.elim
  | .ok .cont, hq => exact hq.elim
/-- the parameters' order: the i-th parameter is the ix[i]-th keyword -/
def permD (ix : List Nat) (ds : List D) : List D := ix.map fun i => ds.getD i .non
def permV (ix : List Nat) (vs : List V) : List V := ix.map fun i => vs.getD i .non
theorem perm_rel {K : Kt} {ρ : List Addr} {F : Hp} {ds : List D} {vs : List V} (h : RVs K ρ F ds vs) : ∀ ix : List Nat, (∀ i ∈ ix, i < ds.length) → RVs K ρ F (permD ix ds) (permV ix vs)
  | [], _ => .nil
  | i :: ix, hi => by
    refine .cons ?_ (perm_rel h ix fun j hj => hi j (List.mem_cons_of_mem _ hj))
    have h1 : i < ds.length := hi i List.mem_cons_self
    obtain ⟨v, e1, e2⟩ := h.get (List.getElem?_eq_getElem h1)
    show RV K ρ F (ds.getD i D.non) (vs.getD i V.non)
    rw [List.getD_eq_getElem?_getD, List.getD_eq_getElem?_getD, List.getElem?_eq_getElem h1, e1]
    exact e2
def eCallK (n : Nat) (fn : Fn) (ix : List Nat) (g : Ax) : Ex := fun st => (g st).bind fun ds c1 => callV n fn (permD ix ds) c1
theorem de_callK {n k : Nat} {fn : Fn} {f : Addr} {fd : FuncData} {ps ks : List Str} {x : Str} {kws : List Keyword} {ix : List Nat} {gg : List Value → List Value → List Value} (hW : Flat W) (tk : Takes X W)
    (hF : FnOk X.prog X.w X.K X.mg X.base (L2.CX X.prog X.w) k f fd ps (spF G.K ps.length fn)) (hr : Room k X.A) (hg : Gl X x) (hm : X.mg x = some (.ref f)) (hk : PySem.W.keepIn X.K (.ref f) = true) (hb : KBn X.K fd ps 0 ks gg (fun _ zs => permV ix zs)) (hkw : PK X kws (tAs G W g))
    (hlen : ∀ st ds c1, g st = .ok ds c1 → ds.length = ks.length) (hix : ∀ i ∈ ix, i < ks.length) (hixl : ix.length = ps.length)
    (hall : (backToKw pos (keywordEach kws X.env)).all (·.1.isSome) = true := by rfl) (hks : (backToKw pos (keywordEach kws X.env)).filterMap (·.1) = ks := by rfl) (hdb : (x == ("__debug__" : Str)) = false := by decide)
    (hpl : ((backTo pos (starEach [] X.env)).any (·.1) || (backToKw pos (keywordEach kws X.env)).any (·.1.isNone)) = false := by rfl) :
    PE X (.Call (.Name x p) [] kws pos) (tE G W (eCallK n fn ix g)) := by
  refine (pe_kw0 hF hr hg hm hk hb (passF tk hW) hkw hall hks hdb hpl).impV ?_
  rintro σ H Q ⟨ρ, F, st, r, p⟩
  unfold eCallK at p
  refine ⟨ρ, F, st, r, ?_⟩
  cases q : g st with
  | no => rw [q] at p; exact p.elim
  | ex e' cs => rw [q] at p; exact p
  | ok ds c1 =>
    rw [q] at p
    have p : Post RV G W ρ F st.env σ Q (callV n fn (permD ix ds) c1) := p
    intro ρ1 F1 H1 vs x1 r1 rv1
    have hl := hlen _ _ _ q
    refine ⟨by rw [← rv1.length]; exact hl, ?_⟩
    have hp := perm_rel rv1 ix fun i hi => by rw [hl]; exact hix i hi
    obtain ⟨a, b, c, d, e1, e2, e3, e4⟩ := callV_of (st := ⟨st.env, c1⟩) (m := ps.length) (n := n) (fn := fn) r1 hp (by unfold permD; rw [List.length_map]; exact hixl) (Post.ext x1 p)
    refine ⟨a, b, c, d, e1, e2, e3, ?_⟩
    cases q2 : fn c d with
    | no => rw [q2] at e4; exact e4
    | ok d2 c2 => rw [q2] at e4; exact e4
    | ex e' c2 =>
      rw [q2] at e4
      intro ρ5 F5 H5 cls dx y5 r5 xa5
      exact hW _ _ _ _ _ (e4 ρ5 F5 H5 cls dx y5 r5 xa5)
end
end VL

/-! VLD: defs by name, for printed proofs -/
namespace VL
open PySem L2 PyProof.Rows
/-- as many values -/
def ALen (n : Nat) (g : Ax) : Prop := ∀ st ds c1, g st = .ok ds c1 → ds.length = n
theorem alen_nil : ALen 0 aNil := by
  intro st ds c1 h
  cases h
  rfl
theorem alen_cons {n : Nat} {f : Ex} {g : Ax} (h : ALen n g) : ALen (n + 1) (aCons f g) := by
  intro st ds c1 e
  unfold aCons at e
  cases q : f st with
  | no => rw [q] at e; cases e
  | ex _ _ => rw [q] at e; cases e
  | ok x c2 =>
    rw [q] at e
    have e : (g ⟨st.env, c2⟩).bind (fun xs c2 => Out.ok (x :: xs) c2) = .ok ds c1 := e
    cases q2 : g ⟨st.env, c2⟩ with
    | no => rw [q2] at e; cases e
    | ex _ _ => rw [q2] at e; cases e
    | ok xs c3 =>
      rw [q2] at e
      cases e
      rw [List.length_cons, h _ _ _ q2]
/-- a def (or method) of the text as it stands behind the top; dV its defaults -/
structure FunA (K : PySem.W.Frag) (x qual : Str) (st : Stmt) (dV : Value) (f : Addr) (fd : FuncData) : Prop where
  ex : ∃ (oc : Value) (od : Option Addr) (kV doc pm : Value) (an : Option Addr) (cdv ct : Value) (osl : Array (Option Value)),
    fd = PySem.W.fnOf x qual (defArgs st) (defBody st) (defScope st) dV kV doc pm an cdv ct ∧ K.lookup f = some ⟨oc, od, .func fd, osl⟩ ∧ PySem.W.codeIn K cdv qual = true
section
variable {P : Program} {w : World} {K : Kt} {mg : Str → Option Value} {base : Heap} {x qual : Str} {st : Stmt} {f : Addr} {fd : FuncData} {ps N : List Str} {k : Nat} {fn fn' : Fn} {body : Sx}
theorem funA_mk {oc : Value} {od an : Option Addr} {osl : Array (Option Value)} {dV kV doc pm cdv ct : Value} (l : K.K.lookup f = some ⟨oc, od, .func (PySem.W.fnOf x qual (defArgs st) (defBody st) (defScope st) dV kV doc pm an cdv ct), osl⟩) (c : PySem.W.codeIn K.K cdv qual = true) :
    FunA K.K x qual st dV f (PySem.W.fnOf x qual (defArgs st) (defBody st) (defScope st) dV kV doc pm an cdv ct) := ⟨⟨oc, od, kV, doc, pm, an, cdv, ct, osl, rfl, l, c⟩⟩
/-- every parameter is given, by place -/
theorem FunA.binds (Fu : FunA K.K x qual st .none f fd) (h : ∀ (kV doc pm : Value) (an : Option Addr) (cdv ct : Value) (us : List Value), us.length = ps.length → bindArgs (PySem.W.fnOf x qual (defArgs st) (defBody st) (defScope st) .none kV doc pm an cdv ct) ⟨us, []⟩ = pure (ps.zip us)) : Binds K.K fd ps [] := by
  obtain ⟨oc, od, kV, doc, pm, an, cdv, ct, osl, rfl, lk, hcd⟩ := Fu.ex
  exact .all (h kV doc pm an cdv ct)
/-- .. by keywords -/
theorem FunA.kbn {ks : List Str} {ix : List Nat} (Fu : FunA K.K x qual st .none f fd) (h : ∀ (kV doc pm : Value) (an : Option Addr) (cdv ct : Value) (ws : List Value), ws.length = ks.length → bindArgs (PySem.W.fnOf x qual (defArgs st) (defBody st) (defScope st) .none kV doc pm an cdv ct) ⟨[], ks.zip ws⟩ = pure (ps.zip (ix.map fun i => ws.getD i .none)))
    (hix : ∀ i ∈ ix, i < ks.length) : KBn K.K fd ps 0 ks (fun _ ws => ix.map fun i => ws.getD i .none) (fun _ zs => permV ix zs) := by
  obtain ⟨oc, od, kV, doc, pm, an, cdv, ct, osl, rfl, lk, hcd⟩ := Fu.ex
  refine ⟨fun s us ws _ hu hw => ?_, fun {vs us zs ws} _ rz => ?_⟩
  · obtain rfl : us = [] := List.length_eq_zero_iff.mp hu
    exact .of_eq (h kV doc pm an cdv ct ws hw)
  · have : ∀ l : List Nat, Vals (permV l zs) (l.map fun i => ws.getD i .none) := by
      intro l
      induction l with
      | nil => exact .nil
      | cons i l ih =>
        refine .cons ?_ ih
        show RelV (zs.getD i .non) (ws.getD i .none)
        rw [List.getD_eq_getElem?_getD, List.getD_eq_getElem?_getD]
        cases q : zs[i]? with
        | none => rw [rz.none_of q]; rfl
        | some z =>
          obtain ⟨u, e1, e2⟩ := rz.get q
          rw [e1]
          exact e2
    exact this ix
/-- a def with defaults, every parameter given by place -/
theorem FunA.bindsD {T : Addr} {o : Obj} {its : List Value} {m : Nat} (Fu : FunA K.K x qual st (.ref T) f fd) (lT : K.K.lookup T = some o) (oT : o.data = .seq its.toArray m)
    (h : ∀ (kV doc pm : Value) (an : Option Addr) (cdv ct : Value) (us : List Value), us.length = ps.length → ∃ k, bindArgs (PySem.W.fnOf x qual (defArgs st) (defBody st) (defScope st) (.ref T) kV doc pm an cdv ct) ⟨us, []⟩ = seqItems? (.ref T) >>= k ∧ k (some its.toArray) = pure (ps.zip us)) : Binds K.K fd ps [] := by
  obtain ⟨oc, od, kV, doc, pm, an, cdv, ct, osl, rfl, lk, hcd⟩ := Fu.ex
  intro s us KX hl
  rw [List.append_nil] at hl ⊢
  obtain ⟨k, e1, e2⟩ := h kV doc pm an cdv ct us hl
  refine BindsTo.of_looks fun M => ?_
  rw [e1]
  exact looks_items KX lT oT (PySem.W.Looks.of_pure e2)
theorem okA {dV : Value} (Fu : FunA K.K x qual st dV f fd) (S : FnScope N ps (defScope st))
    (hbody : ∀ (G : Gx), G.K = K → ∀ (cdv : Value) (A : Around) (outer : List Env) (s : Shared) (H : Hp) (E : XK), Room k (A.deeper (envOfC qual (defScope st) s.heap.objs.size f cdv)) →
      PSs (cxOf (L2.CX P w) P w K.K mg base N qual (defScope st) f cdv A outer s H E) (defBody st) (tS G (fun cls d _ H' => E cls d H') body)) :
    FnOk P w K.K mg base (L2.CX P w) (k + 1) f fd ps (spF K ps.length (runF N.length body)) := by
  obtain ⟨oc, od, kV, doc, pm, an, cdv, ct, osl, rfl, lk, hcd⟩ := Fu.ex
  refine fn_of lk hcd S (fun vs H Q E h => spF_len h) ?_
  intro A outer s H vs Q E hr h
  obtain ⟨G, e, t⟩ := body_of h
  exact ⟨_, hbody G e cdv A outer s H E hr, t⟩
/-- the def x of the text is there: its statement, its binding -/
structure Txt1 (K : Kt) (mg : Str → Option Value) (x : Str) (st : Stmt) (ps : List Str) : Prop where
  ex : ∃ (f : Addr) (fd : FuncData), mg x = some (.ref f) ∧ PySem.W.keepIn K.K (.ref f) = true ∧ FunA K.K x x st .none f fd ∧ Binds K.K fd ps []
/-- the def x keeps fn's promise at level k -/
structure Def (P : Program) (w : World) (K : Kt) (mg : Str → Option Value) (base : Heap) (x : Str) (st : Stmt) (k : Nat) (ps : List Str) (fn : Fn) : Prop where
  ex : ∃ (f : Addr) (fd : FuncData), mg x = some (.ref f) ∧ PySem.W.keepIn K.K (.ref f) = true ∧ FunA K.K x x st .none f fd ∧ Binds K.K fd ps [] ∧ FnOk P w K.K mg base (L2.CX P w) k f fd ps (spF K ps.length fn)
theorem mkDef (t : Txt1 K mg x st ps) (S : FnScope N ps (defScope st))
    (hbody : ∀ (f : Addr) (G : Gx), G.K = K → ∀ (cdv : Value) (A : Around) (outer : List Env) (s : Shared) (H : Hp) (E : XK), Room k (A.deeper (envOfC x (defScope st) s.heap.objs.size f cdv)) →
      PSs (cxOf (L2.CX P w) P w K.K mg base N x (defScope st) f cdv A outer s H E) (defBody st) (tS G (fun cls d _ H' => E cls d H') body)) :
    Def P w K mg base x st (k + 1) ps (runF N.length body) := by
  obtain ⟨f, fd, h1, h2, h3, h4⟩ := t.ex
  exact ⟨f, fd, h1, h2, h3, h4, okA h3 S fun G e cdv A outer s H E hr => hbody f G e cdv A outer s H E hr⟩
theorem Def.trim (d : Def P w K mg base x st k ps fn) : Def P w K mg base x st k ps (trimF fn) := by
  obtain ⟨f, fd, h1, h2, h3, h4, h5⟩ := d.ex
  exact ⟨f, fd, h1, h2, h3, h4, fnTrim h5⟩
theorem Def.ref (d : Def P w K mg base x st k ps fn) (h : ∀ ds cs, fn' ds cs ≠ .no → fn ds cs = fn' ds cs) : Def P w K mg base x st k ps fn' := by
  obtain ⟨f, fd, h1, h2, h3, h4, h5⟩ := d.ex
  exact ⟨f, fd, h1, h2, h3, h4, fnRef h5 h⟩
/-- a class of the text, made by its __init__ -/
structure TxtC (K : Kt) (mg : Str → Option Value) (x : Str) (cn : Nat) (st : Stmt) (ps : List Str) : Prop where
  ex : ∃ (f : Addr) (fd : FuncData), mg x = some (.ref (K.κ cn)) ∧ Mk K.K (K.κ cn) f ∧ (∃ dV, FunA K.K "__init__" (x ++ ".__init__") st dV f fd) ∧ Binds K.K fd ps []
structure DefC (P : Program) (w : World) (K : Kt) (mg : Str → Option Value) (base : Heap) (x : Str) (cn k : Nat) (ps : List Str) (fn : Fn) : Prop where
  ex : ∃ (f : Addr) (fd : FuncData), mg x = some (.ref (K.κ cn)) ∧ Mk K.K (K.κ cn) f ∧ Binds K.K fd ps [] ∧ FnOk P w K.K mg base (L2.CX P w) k f fd ps (spF K ps.length fn)
theorem mkDefC {cn : Nat} (t : TxtC K mg x cn st ps) (S : FnScope N ps (defScope st))
    (hbody : ∀ (f : Addr) (G : Gx), G.K = K → ∀ (cdv : Value) (A : Around) (outer : List Env) (s : Shared) (H : Hp) (E : XK), Room k (A.deeper (envOfC (x ++ ".__init__") (defScope st) s.heap.objs.size f cdv)) →
      PSs (cxOf (L2.CX P w) P w K.K mg base N (x ++ ".__init__") (defScope st) f cdv A outer s H E) (defBody st) (tS G (fun cls d _ H' => E cls d H') body)) :
    DefC P w K mg base x cn (k + 1) ps (runF N.length body) := by
  obtain ⟨f, fd, h1, h2, ⟨dV, h3⟩, h4⟩ := t.ex
  exact ⟨f, fd, h1, h2, h4, okA h3 S fun G e cdv A outer s H E hr => hbody f G e cdv A outer s H E hr⟩
theorem DefC.ref {cn : Nat} (d : DefC P w K mg base x cn k ps fn) (h : ∀ ds cs, fn' ds cs ≠ .no → fn ds cs = fn' ds cs) : DefC P w K mg base x cn k ps fn' := by
  obtain ⟨f, fd, h1, h2, h3, h5⟩ := d.ex
  exact ⟨f, fd, h1, h2, h3, fnRef h5 h⟩
end
section
variable {X : Cx} {G : Gx} {W : WX} {e : Expr} {es : List Expr} {g : Ax} {pos p : Pos} {x : Str} {st : Stmt} {k : Nat} {ps : List Str} {fn : Fn}
theorem de_callD (n : Nat) (d : Def X.prog X.w G.K X.mg X.base x st k ps fn) (hK : X.K = G.K.K) (tk : Takes X W) (hr : Room k X.A) (ha : PA X (e :: es) (tAs G W g)) (hl : ALen ps.length g) (hg : Gl X x := by rfl) (hdb : (x == ("__debug__" : Str)) = false := by decide) (he : starEach (e :: es) X.env = (false, eval e X.env) :: starEach es X.env := by rfl) (hpl : (backTo pos (starEach es X.env)).any (·.1) = false := by rfl) :
    PE X (.Call (.Name x p) (e :: es) [] pos) (tE G W (eCall n fn g)) := by
  obtain ⟨f, fd, h1, h2, _, h3, h5⟩ := d.ex
  rw [← hK] at h2 h3 h5
  exact de_call hK.symm tk h5 hr hg h1 h2 h3 ha hl hdb he hpl
theorem de_callDA (d : Def X.prog X.w G.K X.mg X.base x st k ps fn) (hK : X.K = G.K.K) (tk : Takes X W) (hr : Room k X.A) (ha : PA X (e :: es) (tAs G W g)) (hl : ALen ps.length g) (hg : Gl X x := by rfl) (hdb : (x == ("__debug__" : Str)) = false := by decide) (he : starEach (e :: es) X.env = (false, eval e X.env) :: starEach es X.env := by rfl) (hpl : (backTo pos (starEach es X.env)).any (·.1) = false := by rfl) :
    PE X (.Call (.Name x p) (e :: es) [] pos) (tE G W (eCallAll fn g)) := by
  obtain ⟨f, fd, h1, h2, _, h3, h5⟩ := d.ex
  rw [← hK] at h2 h3 h5
  exact de_callAll hK.symm tk h5 hr hg h1 h2 h3 ha hl hdb he hpl
theorem de_callKD {kws : List Keyword} {ks : List Str} (n : Nat) (ix : List Nat) (d : Def X.prog X.w G.K X.mg X.base x st k ps fn) (hK : X.K = G.K.K) (hW : Flat W) (tk : Takes X W) (hr : Room k X.A) (hkw : PK X kws (tAs G W g)) (hl : ALen ks.length g) (hix : ∀ i ∈ ix, i < ks.length) (hixl : ix.length = ps.length)
    (hbind : ∀ (kV doc pm : Value) (an : Option Addr) (cdv ct : Value) (ws : List Value), ws.length = ks.length → bindArgs (PySem.W.fnOf x x (defArgs st) (defBody st) (defScope st) .none kV doc pm an cdv ct) ⟨[], ks.zip ws⟩ = pure (ps.zip (ix.map fun i => ws.getD i .none)))
    (hg : Gl X x := by rfl) (hall : (backToKw pos (keywordEach kws X.env)).all (·.1.isSome) = true := by rfl) (hks : (backToKw pos (keywordEach kws X.env)).filterMap (·.1) = ks := by rfl) (hdb : (x == ("__debug__" : Str)) = false := by decide)
    (hpl : ((backTo pos (starEach [] X.env)).any (·.1) || (backToKw pos (keywordEach kws X.env)).any (·.1.isNone)) = false := by rfl) :
    PE X (.Call (.Name x p) [] kws pos) (tE G W (eCallK n fn ix g)) := by
  obtain ⟨f, fd, h1, h2, h4, h3, h5⟩ := d.ex
  have kb := h4.kbn hbind hix
  rw [← hK] at h2 h3 h5 kb
  exact de_callK hW tk h5 hr hg h1 h2 kb hkw hl hix hixl hall hks hdb hpl
theorem de_makeD {cn : Nat} (d : DefC X.prog X.w G.K X.mg X.base x cn k ps fn) (hK : X.K = G.K.K) (hW : Flat W) (tk : Takes X W) (hr : Room (k + 1) X.A) (ha : PA X (e :: es) (tAs G W g)) {m : Nat} (hl : ALen m g) (hm : m + 1 = ps.length) (hg : Gl X x := by rfl) (hdb : (x == ("__debug__" : Str)) = false := by decide) (he : starEach (e :: es) X.env = (false, eval e X.env) :: starEach es X.env := by rfl) (hpl : (backTo pos (starEach es X.env)).any (·.1) = false := by rfl) :
    PE X (.Call (.Name x p) (e :: es) [] pos) (tE G W (eMake cn fn g)) := by
  obtain ⟨f, fd, h1, h2, h3, h5⟩ := d.ex
  rw [← hK] at h2 h3 h5
  exact de_make hW tk h2 h5 hr hg h1 h3 ha (fun st ds c1 e => by rw [hl st ds c1 e, hm]) hdb he hpl
end
/-! ### y = [..] on one line, y a plain local -/
section
variable {X : Cx} {G : Gx} {W : WX} {tg iter elt : Expr} {ifs : List Expr} {scope : Scope} {own : List (Str × Nat)} {pos spos py : Pos} {src : Ix} {sl : List Nat} {g : Gt} {t : Tx} {f : Ex} {i : Nat} {y : Str}
theorem ds_setLc (hc : X.calm = true) (hN : X.N.Nodup) (hi : PI X tg iter (tI G W src)) (ok : BlkOk X.N X.env.scope scope own) (hsl : ∀ i ∈ sl, i ∈ own.map (·.2))
    (hg : ∀ (s : Shared) (H : Hp) (C : Addr) (cl : List (Str × Addr)) (fp : List Addr), PG (X.blk s H scope (compEnvC scope cl C X.env) fp) tg (tG G sl g)) (ht : ∀ (s : Shared) (H : Hp) (C : Addr) (cl : List (Str × Addr)) (fp : List Addr), PTs (X.blk s H scope (compEnvC scope cl C X.env) fp) ifs (tTs G W0 t))
    (he : ∀ (s : Shared) (H : Hp) (C : Addr) (cl : List (Str × Addr)) (fp : List Addr), PE (X.blk s H scope (compEnvC scope cl C X.env) fp) elt (tE G W0 f))
    (hsw : swapsWith (.ListComp elt [⟨tg, iter, ifs, 0⟩] scope pos) (some (.Name y py)) spos.line X.env = pure true) (hy : X.N[i]? = some y := by rfl) (hyl : X.env.scope.names.lookup y = some .local := by rfl) (hs : ∀ x, foldedSetIterable iter X.env x = pure x := by intro _; rfl) :
    PS X (.Assign [.Name y py] (.ListComp elt [⟨tg, iter, ifs, 0⟩] scope pos) spos) (tS G W (sAsg (eLc src g t f (own.map (·.2))) (gNm i))) := by
  refine (ps_setLc (i := i) hc hN hy hyl hsw hi ok hg ht he hs).impV ?_
  rintro E σ H ⟨ρ, F, st, r, p⟩
  refine eLc_of hsl σ H _ (seqS (f := eLc src g t f (own.map (·.2))) r p fun ρ1 F1 H1 x c1 v x1 r1 rv1 p1 => ?_)
  exact p1 ρ1 F1 _ H1 Ext.refl (r1.slot rv1)
theorem ds_setLcLoc (hc : X.calm = true) (hN : X.N.Nodup) (hi : PI X tg iter (tI G W src)) (ok : BlkOk X.N X.env.scope scope own) (hsl : ∀ i ∈ sl, i ∈ own.map (·.2))
    (hg : ∀ (s : Shared) (H : Hp) (C : Addr) (cl : List (Str × Addr)) (fp : List Addr), PG (X.blk s H scope (compEnvC scope cl C X.env) fp) tg (tG G sl g)) (ht : ∀ (s : Shared) (H : Hp) (C : Addr) (cl : List (Str × Addr)) (fp : List Addr), PTs (X.blk s H scope (compEnvC scope cl C X.env) fp) ifs (tTs G W0 t))
    (he : ∀ (s : Shared) (H : Hp) (C : Addr) (cl : List (Str × Addr)) (fp : List Addr), PE (X.blk s H scope (compEnvC scope cl C X.env) fp) elt (tE G W0 f))
    (hsw : swapsWith (.ListComp elt [⟨tg, iter, ifs, 0⟩] scope pos) (some (.Name y py)) spos.line X.env = pure true) (hy : X.N[i]? = some y := by rfl) (hyl : X.env.scope.names.lookup y = some .local := by rfl) (hs : ∀ x, foldedSetIterable iter X.env x = pure x := by intro _; rfl) :
    PS X (.Assign [.Name y py] (.ListComp elt [⟨tg, iter, ifs, 0⟩] scope pos) spos) (tS G W (sAsg (eLcLoc src g t f (own.map (·.2))) (gNm i))) := by
  refine (ps_setLc (i := i) hc hN hy hyl hsw hi ok hg ht he hs).impV ?_
  rintro E σ H ⟨ρ, F, st, r, p⟩
  refine eLcLoc_of hsl σ H _ (seqS (f := eLcLoc src g t f (own.map (·.2))) r p fun ρ1 F1 H1 x c1 v x1 r1 rv1 p1 => ?_)
  exact p1 ρ1 F1 _ H1 Ext.refl (r1.slot rv1)
end
/-! ### comparisons as tests -/
section
variable {X : Cx} {G : Gx} {W : WX} {a b : Expr} {fa fb : Ex} {pos : Pos}
def tCmp' (g : F2) (fa fb : Ex) : Tx := fun st => (eOp g fa fb st).bind fun x c1 => match x with
  | .bl k => .ok k c1
  | _ => .no
theorem dt_cmp {op : CmpOp} {r : R2} {g : F2} (ho : OpR X (compareOp op) r) (hv : V2 G W r g) (ha : PE X a (tE G W fa)) (hb : PE X b (tE G W fb)) (hm : behindInMarks op b = false) : PT X (.Compare a [op] [b] pos) (tTs G W (tCmp' g fa fb)) := by
  refine (pt_cmpR ho ha hb hm).impV ?_
  rintro σ H Q ⟨ρ, F, st, r, p⟩
  refine tOp_of hv σ H _ (seqX (R := RV) r p fun ρ1 F1 H1 x c1 v x1 r1 rv1 p1 => ?_)
  cases rv1 with
  | bl k => exact ⟨k, rfl, p1.here (st := ⟨st.env, c1⟩) r1 rfl⟩
  | _ => exact p1.elim
theorem dt_eq (hK : X.K = G.K.K) (hu : X.A.units + 64 < cLine) (ha : PE X a (tE G W fa)) (hb : PE X b (tE G W fb)) : PT X (.Compare a [.Eq] [b] pos) (tTs G W (tCmp' (gEqB false) fa fb)) := dt_cmp (op_eqD hu) (by rw [hK]; exact v2_eq) ha hb (nomark _)
theorem dt_ne (hK : X.K = G.K.K) (hu : X.A.units + 64 < cLine) (ha : PE X a (tE G W fa)) (hb : PE X b (tE G W fb)) : PT X (.Compare a [.NotEq] [b] pos) (tTs G W (tCmp' (gEqB true) fa fb)) := dt_cmp (op_neD hu) (by rw [hK]; exact v2_ne) ha hb (nomark _)
theorem dt_lt (ha : PE X a (tE G W fa)) (hb : PE X b (tE G W fb)) : PT X (.Compare a [.Lt] [b] pos) (tTs G W (tCmp' gLt fa fb)) := dt_cmp (op_lt.or op_lt_str) v2_ord ha hb (nomark _)
theorem dt_le (ha : PE X a (tE G W fa)) (hb : PE X b (tE G W fb)) : PT X (.Compare a [.LtE] [b] pos) (tTs G W (tCmp' gLe fa fb)) := dt_cmp (op_le.or op_le_str) v2_ord ha hb (nomark _)
theorem dt_gt (ha : PE X a (tE G W fa)) (hb : PE X b (tE G W fb)) : PT X (.Compare a [.Gt] [b] pos) (tTs G W (tCmp' gGt fa fb)) := dt_cmp (op_gt.or op_gt_str) v2_ord ha hb (nomark _)
theorem dt_ge (ha : PE X a (tE G W fa)) (hb : PE X b (tE G W fb)) : PT X (.Compare a [.GtE] [b] pos) (tTs G W (tCmp' gGe fa fb)) := dt_cmp (op_ge.or op_ge_str) v2_ord ha hb (nomark _)
theorem is_of {neg : Bool} {ρ : List Addr} {F : Hp} {st : S} {σ : L2.St} {H : Hp} {x y : D} {v w : V} {Q : VK} (r : Rel G ρ F st σ H) (h1 : RV G.K ρ F x v) (h2 : RV G.K ρ F y w) (p : Post RV G W ρ F st.env σ Q (gIs neg st.cs x y)) :
    (w = .non ∧ Q (.bl (if neg then !decide (v = .non) else decide (v = .non))) H) ∨ ∃ i j : Bool, v = .bl i ∧ w = .bl j ∧ Q (.bl (if neg then !decide (i = j) else decide (i = j))) H := by
  unfold gIs at p
  split at p
  · cases h2
    refine .inl ⟨rfl, ?_⟩
    rw [isNon_of h1]
    exact p.here r (.bl _)
  · cases h1; cases h2
    exact .inr ⟨_, _, rfl, rfl, p.here r (.bl _)⟩
  · exact p.elim
theorem dt_is (ha : PE X a (tE G W fa)) (hb : PE X b (tE G W fb)) : PT X (.Compare a [.Is] [b] pos) (tTs G W (tCmp' (gIs false) fa fb)) := dt_cmp (op_isN.or op_isBl) (fun ρ F st σ H x y v w Q r h1 h2 p => is_of r h1 h2 p) ha hb (nomark _)
theorem dt_isnot (ha : PE X a (tE G W fa)) (hb : PE X b (tE G W fb)) : PT X (.Compare a [.IsNot] [b] pos) (tTs G W (tCmp' (gIs true) fa fb)) := dt_cmp (op_notN.or op_notBl) (fun ρ F st σ H x y v w Q r h1 h2 p => is_of r h1 h2 p) ha hb (nomark _)
theorem dt_in (hK : X.K = G.K.K) (ha : PE X a (tE G W fa)) (hb : PE X b (tE G W fb)) (hm : behindInMarks .In b = false := by rfl) : PT X (.Compare a [.In] [b] pos) (tTs G W (tCmp' (gIn false) fa fb)) :=
  dt_cmp (op_in_sign.or op_in_seq) (by rw [hK]; exact fun ρ F st σ H x y v w Q r h1 h2 p => in_of r h1 h2 p) ha hb hm
theorem dt_notin (hK : X.K = G.K.K) (ha : PE X a (tE G W fa)) (hb : PE X b (tE G W fb)) (hm : behindInMarks .NotIn b = false := by rfl) : PT X (.Compare a [.NotIn] [b] pos) (tTs G W (tCmp' (gIn true) fa fb)) :=
  dt_cmp (op_notIn_sign.or op_notIn_seq) (by rw [hK]; exact fun ρ F st σ H x y v w Q r h1 h2 p => in_of r h1 h2 p) ha hb hm
end
end VL

/-! VLM: reckoning with the plain functions: comprehensions, loops -/
namespace VL
open PySem L2
theorem belows_append {n : Nat} : ∀ {xs ys : List D}, belows n (xs ++ ys) = (belows n xs && belows n ys)
  | [], ys => by simp [belows]
  | x :: xs, ys => by simp [belows, belows_append (xs := xs) (ys := ys), Bool.and_assoc]
theorem belows_all {n : Nat} : ∀ {xs : List D}, belows n xs = xs.all (below n)
  | [] => rfl
  | x :: xs => by simp [belows, belows_all (xs := xs)]
theorem belows_of {n : Nat} {xs : List D} (h : ∀ x ∈ xs, below n x = true) : belows n xs = true := by
  rw [belows_all, List.all_eq_true]
  exact h
theorem lastCell_snoc {cs : List Cell} {ds : List D} : lastCell (cs ++ [.lst ds]) = some (cs, ds) := by
  unfold lastCell
  rw [List.reverse_append]
  simp
/-- one answer an item: none, or what is put in -/
inductive Picks (R : D → Option D → Prop) : List D → List D → Prop
  | nil : Picks R [] []
  | skip {d : D} {ds ys : List D} : R d none → Picks R ds ys → Picks R (d :: ds) ys
  | take {d y : D} {ds ys : List D} : R d (some y) → Picks R ds ys → Picks R (d :: ds) (y :: ys)
/-- what one turn of a comprehension does -/
def LcTurn (I : List Cell → Prop) (R : D → Option D → Prop) (g : Gt) (t : Tx) (f : Ex) (env : List (Option D)) (d : D) : Prop :=
  ∀ (cs : List Cell) (acc : List D), I cs → ∃ env1, g d ⟨env, cs ++ [.lst acc]⟩ = some ⟨env1, cs ++ [.lst acc]⟩ ∧
    ∃ b cs2, t ⟨env1, cs ++ [.lst acc]⟩ = .ok b (cs2 ++ [.lst acc]) ∧ I cs2 ∧ (b = false → R d none) ∧
      (b = true → ∃ y cs3, f ⟨env1, cs2 ++ [.lst acc]⟩ = .ok y (cs3 ++ [.lst acc]) ∧ I cs3 ∧ R d (some y))
theorem lcL_of {I : List Cell → Prop} {R : D → Option D → Prop} {g : Gt} {t : Tx} {f : Ex} {env : List (Option D)} {n : Nat} (hI : ∀ cs, I cs → cs.length = n) : ∀ (ds : List D) (cs : List Cell) (acc : List D), I cs → acc.length + ds.length < 16777216 → (∀ d ∈ ds, LcTurn I R g t f env d) →
    ∃ ys cs', lcL g t f keepAll env n ds (cs ++ [.lst acc]) = some (cs' ++ [.lst (acc ++ ys)]) ∧ I cs' ∧ Picks R ds ys
  | [], cs, acc, hi, _, _ => ⟨[], cs, by simp [lcL, keepAll], hi, .nil⟩
  | d :: ds, cs, acc, hi, hl, ht => by
    obtain ⟨env1, e1, b, cs2, e2, i2, h0, h1⟩ := ht d List.mem_cons_self cs acc hi
    have hl' : acc.length + ds.length + 1 < 16777216 := by simpa [Nat.add_assoc] using hl
    have ht' : ∀ d ∈ ds, LcTurn I R g t f env d := fun d hd => ht d (List.mem_cons_of_mem _ hd)
    cases b with
    | false =>
      obtain ⟨ys, cs', e5, i5, p5⟩ := lcL_of hI ds cs2 acc i2 (by omega) ht'
      refine ⟨ys, cs', ?_, i5, .skip (h0 rfl) p5⟩
      unfold lcL
      simp only [keepAll, if_true, e1, e2]
      exact e5
    | true =>
      obtain ⟨y, cs3, e3, i3, r3⟩ := h1 rfl
      have hlen : (acc ++ [y]).length = acc.length + 1 := by simp
      obtain ⟨ys, cs', e5, i5, p5⟩ := lcL_of hI ds cs3 (acc ++ [y]) i3 (by rw [hlen]; omega) ht'
      refine ⟨y :: ys, cs', ?_, i5, .take r3 p5⟩
      unfold lcL
      have hn := hI cs3 i3
      have g1 : (cs3 ++ [Cell.lst acc])[n]? = some (.lst acc) := by
        rw [List.getElem?_append_right (by omega), hn, Nat.sub_self]; rfl
      have g2 : (cs3 ++ [Cell.lst acc]).set n (.lst (acc ++ [y])) = cs3 ++ [.lst (acc ++ [y])] := by
        rw [List.set_append_right n _ (by omega), hn, Nat.sub_self]; rfl
      simp only [keepAll, if_true, e1, e2, e3, g1, g2]
      rw [if_pos (by omega), e5]
      simp
/-- a comprehension, frozen -/
theorem eLc_eval {I : List Cell → Prop} {R : D → Option D → Prop} {src : Ix} {g : Gt} {t : Tx} {f : Ex} {vs : List Nat} {st : S} {ds : List D} {c1 : List Cell} (hs : src st = .ok (ds, keepAll) c1) (hi : I c1) (hI : ∀ cs, I cs → cs.length = c1.length) (hl : ds.length < 16777216)
    (hb : ∀ cs, I cs → cs.all (belowC c1.length) = true) (hR : ∀ d y, R d (some y) → below c1.length y = true) (ht : ∀ d ∈ ds, LcTurn I R g t f (wipeD st.env vs) d) :
    ∃ ys cs', eLc src g t f vs st = .ok (.lst ys) cs' ∧ I cs' ∧ Picks R ds ys := by
  obtain ⟨ys, cs', e, i', p⟩ := lcL_of (n := c1.length) hI ds c1 [] hi (by simpa using hl) ht
  refine ⟨ys, cs', ?_, i', p⟩
  unfold eLc
  rw [hs]
  have bl : belows c1.length ys = true := by
    refine belows_of ?_
    have : ∀ {ds ys : List D}, Picks R ds ys → ∀ y ∈ ys, below c1.length y = true := by
      intro ds ys p
      induction p with
      | nil => intro y hy; cases hy
      | skip _ _ ih => exact ih
      | take r _ ih =>
        intro y hy
        rcases List.mem_cons.mp hy with rfl | hy
        · exact hR _ _ r
        · exact ih y hy
    exact this p
  show (match lcL g t f keepAll (wipeD st.env vs) c1.length ds (c1 ++ [.lst []]) with
    | some c2 => _
    | none => _) = _
  rw [e]
  simp only [List.nil_append, lastCell_snoc]
  rw [if_pos ⟨hI cs' i', bl, hb cs' i'⟩]
/-- .. that changes no cell: filter and map -/
theorem eLc_pure {src : Ix} {g : Gt} {t : Tx} {f : Ex} {vs : List Nat} {st : S} {ds : List D} {c1 : List Cell} {q : D → Bool} {h : D → D} (hs : src st = .ok (ds, keepAll) c1) (hl : ds.length < 16777216) (hb : c1.all (belowC c1.length) = true)
    (hh : ∀ d ∈ ds, q d = true → below c1.length (h d) = true)
    (ht : ∀ d ∈ ds, ∀ acc, ∃ env1, g d ⟨wipeD st.env vs, c1 ++ [.lst acc]⟩ = some ⟨env1, c1 ++ [.lst acc]⟩ ∧ t ⟨env1, c1 ++ [.lst acc]⟩ = .ok (q d) (c1 ++ [.lst acc]) ∧ (q d = true → f ⟨env1, c1 ++ [.lst acc]⟩ = .ok (h d) (c1 ++ [.lst acc]))) :
    eLc src g t f vs st = .ok (.lst ((ds.filter q).map h)) c1 := by
  have main : ∀ (es : List D) (acc : List D), (∀ d ∈ es, d ∈ ds) → acc.length + es.length < 16777216 → lcL g t f keepAll (wipeD st.env vs) c1.length es (c1 ++ [.lst acc]) = some (c1 ++ [.lst (acc ++ (es.filter q).map h)]) := by
    intro es
    induction es with
    | nil => intro acc _ _; simp [lcL, keepAll]
    | cons d es ih =>
      intro acc hm hz
      have hz' : acc.length + es.length + 1 < 16777216 := by simpa [Nat.add_assoc] using hz
      obtain ⟨env1, e1, e2, e3⟩ := ht d (hm d List.mem_cons_self) acc
      unfold lcL
      cases c : q d with
      | false =>
        rw [c] at e2
        simp only [keepAll, if_true, e1, e2]
        rw [ih acc (fun x hx => hm x (List.mem_cons_of_mem _ hx)) (by omega), List.filter_cons_of_neg (by simp [c])]
      | true =>
        rw [c] at e2
        have g1 : (c1 ++ [Cell.lst acc])[c1.length]? = some (.lst acc) := by
          rw [List.getElem?_append_right (Nat.le_refl _), Nat.sub_self]; rfl
        have g2 : (c1 ++ [Cell.lst acc]).set c1.length (.lst (acc ++ [h d])) = c1 ++ [.lst (acc ++ [h d])] := by
          rw [List.set_append_right _ _ (Nat.le_refl _), Nat.sub_self]; rfl
        simp only [keepAll, if_true, e1, e2, e3 c, g1, g2]
        rw [if_pos (by omega), ih (acc ++ [h d]) (fun x hx => hm x (List.mem_cons_of_mem _ hx)) (by simp; omega), List.filter_cons_of_pos (by simp [c])]
        simp
  unfold eLc
  rw [hs]
  show (match lcL g t f keepAll (wipeD st.env vs) c1.length ds (c1 ++ [.lst []]) with
    | some c2 => _
    | none => _) = _
  rw [main ds [] (fun _ h => h) (by simpa using hl)]
  simp only [List.nil_append, lastCell_snoc]
  refine if_pos ⟨by first | trivial | rfl, belows_of fun x hx => ?_, hb⟩
  obtain ⟨d, hd, rfl⟩ := List.mem_map.mp hx
  obtain ⟨h1, h2⟩ := List.mem_filter.mp hd
  exact hh d h1 h2
/-- a for whose turns all go on -/
theorem forL_of {I : S → Prop} {g : Gt} {body : Sx} (ht : ∀ d st, I st → ∃ st1 st2, g d st = some st1 ∧ body st1 = .nx st2 ∧ I st2) : ∀ (ds : List D) (st : S), I st → ∃ st', forL g body keepAll ds st = .nx st' ∧ I st'
  | [], st, h => ⟨st, by simp [forL, keepAll], h⟩
  | d :: ds, st, h => by
    obtain ⟨st1, st2, e1, e2, h2⟩ := ht d st h
    obtain ⟨st3, e3, h3⟩ := forL_of ht ds st2 h2
    refine ⟨st3, ?_, h3⟩
    unfold forL
    simp only [keepAll, if_true, e1, e2]
    exact e3
theorem sSeq_of {f g : Sx} {st st1 : S} (h : f st = .nx st1) : sSeq f g st = g st1 := by
  unfold sSeq
  rw [h]
/-- no more than n different numbers below n -/
theorem pigeon : ∀ (n : Nat) (l : List Nat), l.Nodup → (∀ x ∈ l, x < n) → l.length ≤ n
  | 0, [], _, _ => Nat.le_refl _
  | 0, x :: l, _, h => absurd (h x List.mem_cons_self) (Nat.not_lt_zero _)
  | n + 1, l, nd, h => by
    by_cases c : n ∈ l
    · have h1 := pigeon n (l.erase n) (nd.erase n) (fun x hx => by
        have := (List.Nodup.mem_erase_iff nd).mp hx
        have := h x this.2
        omega)
      rw [List.length_erase_of_mem c] at h1
      omega
    · have h1 := pigeon n l nd (fun x hx => by
        have := h x hx
        have : x ≠ n := fun z => c (z ▸ hx)
        omega)
      omega
end VL

/-! VLX0: an own exception over ValueError whose __init__ says super().__init__(text) and keeps its argument -/
namespace VL
open PySem L2 PySem.W PySem.Calls PyProof.Rows

section
variable {prog : Program} {w : World} {A : Around} {E : Value → Shared → Prop} {h : Heap} {g : Array GenState} {d : Drawn} {t : Nat} {os : OsState}
theorem call_mw {K : Frag} {C u e t0 : Addr} {rest : List Value} {Q : Value → Shared → Prop} (X : K.In h) (T : OexC K C) (he : h.get? e = some (excObj C t0 none .none)) (hu : h.get? u = some (kxs_mw "ValueError.__init__" e)) (hz : rest.length ≤ sizeLine)
    (hq : ∀ h' t1, (∀ b o, b ≠ e → h.get? b = some o → h'.get? b = some o) → h'.get? e = some (excObj C t1 none .none) → Q .none ⟨h', g, d, t, os⟩) :
    wpAny (model prog w) A (call (.ref u) rest) Q E ⟨h, g, d, t, os⟩ := by
  obtain ⟨nm, q, N, bs, bm, sn, sub, ab, col, dd, k0, k1, k2, k3, k5, hC, hbm⟩ := T.cls
  have FB := PySem.F.excBase_ValueError
  refine wpAny_call (codeAny_of_tree ?_)
  show wpAny _ A.in1 (callAny (.ref u) ⟨rest, []⟩) _ _ _
  simp only [callAny]
  refine wpAny_bind (wpAny_load hu ?_)
  simp only [kxs_mw, show (Value.type "method-wrapper" == Value.type "method" || Value.type "method-wrapper" == Value.type "builtin_function_or_method" || Value.type "method-wrapper" == Value.type "method-wrapper") = true by decide, if_true]
  refine KFB.if_so (by decide) ?_
  refine wpAny_bind (check_bound_init FB.toExcCallFacts (X _ _ hC) he rfl ?_)
  refine wpAny_bind (wpAny_pure (wpAny_pure ?_))
  refine ⟨plainId_quiet FB.init.plain _, codeAny_builtin FB.initEntry ?_⟩
  exact exc_init_tree (cls := .ref C) (t0 := t0) (dv := none) (c2 := .none) (c3 := .none) (b4 := .bool false) he hz fun h' k e' _ => hq h' _ k e'
end
/-- what __init__(self, p) promises -/
def spSup (C : Addr) (fld : Str) : Sp := fun vs H Q _ => ∃ a v, vs = [.ref a, v] ∧ H a = some (exo a C none) ∧ ∀ d, H d = none → d ≠ a → Q .non (upd (upd H d (exd d [(fld, v)])) a (exo a C (some d)))
/-- the facts of such an __init__ -/
structure SupI (P : Program) (K : Frag) (mg : Str → Option Value) (C f : Addr) (fd : FuncData) (fld : Str) : Prop where
  T : OexC K C
  no : findIn K (.ref C) fld = some none
  sup : ks_superIn K C C "__init__" = some (some (.builtin "ValueError.__init__"))
  mro : mroIn K C (.ref C) = some true
  ve : subIn K (.ref C) (.type "ValueError") = some true
  any : nsIn K cStatics "thirdparty.any" = some none
  ms : mg "super" = none
  top : (P.main.scope.names.lookup ("super" : Str)).isSome = false
  fn : ∃ (oc cl ccl : Value) (od cld cdd : Option Addr) (osl csl ccs : Array (Option Value)) (vs0 : Array Value) (file : Str) (tf : Tok) (cc cda : Addr), K.lookup f = some ⟨oc, od, .func fd, osl⟩ ∧ fd.closure = [(("__class__" : Str), cc)] ∧ fd.code = .ref cda ∧ codeIn K (.ref cda) fd.qualname = true ∧
    K.lookup cda = some ⟨ccl, cdd, .fields vs0, ccs⟩ ∧ vs0[2]? = some (.str file tf) ∧ ((P.main.file : Str) == file) = true ∧ K.lookup cc = some ⟨cl, cld, .cell (some (.ref C)), csl⟩
def MethEv (o : Expr) (name : Str) (apos : Pos) (args : List Expr) (pos : Pos) : Prop := ∀ env, ∃ pl, eval (.Call (.Attribute o name apos) args [] pos) env = (do
      let ov ← attributeBase o name env (eval o env)
      standAt apos.atName
      let (f, first) ← holding [ov] (getMethod ov name pl)
      callWith pos f first (backTo pos (starEach args env)) [])
theorem fn_super {CX : CXT} {P : Program} {w : World} {K : Frag} {mg : Str → Option Value} {base : Heap} {k : Nat} {f C : Addr} {name qual : Str} {params : Arguments} {scope : Scope} {cls : List (Str × Addr)} {dV kV doc pm cdv ct : Value} {an : Option Addr} {txt fld par : Str} {j : Nat} {p0 p1 p2 p3 p4 p5 p6 p7 p8 p9 : Pos} {ar : Arg}
    (S : SupI P K mg C f (fnX name qual params [.Expr (.Call (.Attribute (.Call (.Name "super" p0) [] [] p1) "__init__" p2) [.Constant (.str txt) j p3] [] p4) p5, .Assign [.Attribute (.Name "self" p6) fld p7] (.Name par p8) p9] scope cls dV kV doc pm an cdv ct) fld)
    (hev : MethEv (.Call (.Name "super" p0) [] [] p1) "__init__" p2 [.Constant (.str txt) j p3] p4) (hp : (params.posonlyargs ++ params.args).head? = some ar) (har : ar.arg = "self") (hks : scope.names.lookup ("super" : Str) = some .globalImplicit) (hkc : scope.names.lookup ("__class__" : Str) = some .free) (hka : scope.names.lookup ("self" : Str) = some .local) (hkp : scope.names.lookup par = some .local)
    (hk : scope.kind = .function) (hcells : ∀ x ∈ scope.names, x.2 ≠ .cell) (hco : scope.isCoroutine = false) (hgen : scope.isGenerator = false) (hpar : par ≠ "self") (hdb : (par == ("__debug__" : Str)) = false) :
    FnOk P w K mg base CX (k + 1) f (fnX name qual params [.Expr (.Call (.Attribute (.Call (.Name "super" p0) [] [] p1) "__init__" p2) [.Constant (.str txt) j p3] [] p4) p5, .Assign [.Attribute (.Name "self" p6) fld p7] (.Name par p8) p9] scope cls dV kV doc pm an cdv ct) ["self", par] (spSup C fld) := by
  refine ⟨fun vs H Q E ⟨a, v, e, _⟩ => by rw [e]; rfl, fun A outer s H args us vs Q E hr e0 hb r hsp => ?_⟩
  obtain ⟨oc, cl, ccl, od, cld, cdd, osl, csl, ccs, vs0, file, tf, cc, cda, lk, hcl, hcv, hcd, hcode, hvs, hfile, hcell⟩ := S.fn
  obtain ⟨nm, q, N, bs, bm, sn, sub, ab, col, dd, k0, k1, k2, k3, k5, hC, hbm⟩ := S.T.cls
  have hcls : clsIn K C = some { name := nm, bases := bs, mro := .ref C :: bm, ns := N, qualname := q, hasDict := true, slotNames := sn, subclasses := sub, abstract := ab, collection := col, hasDel := false } := by unfold clsIn; rw [hC] <;> rfl
  obtain ⟨a, v, rfl, ea, hq⟩ := hsp
  cases r with
  | @cons _ u0 _ ur ra rr =>
  cases rr with
  | @cons _ u _ ur2 ru rn =>
  cases rn with
  | nil =>
  obtain rfl : u0 = Value.ref a := ra
  dsimp only at hcl hcv
  subst hcl hcv
  have KX : K.In s.heap := e0.mod.kin.keeps fun b o e => (e0.bs b o e).1
  have lim : s.heap.NoLimit := e0.mod.nolimit.keeps fun b o e => (e0.bs b o e).1
  have hbin : BindsTo s _ args [("self", Value.ref a), (par, u)] := hb
  refine ks_codeAny_call_defAt (binds := [("self", Value.ref a), (par, u)]) hr.depth (KX _ _ lk) rfl lim (codeRec_of KX hcd) rfl hbin hcells (fun x hx => ?_) (fun h1 hns kp => ?_) hco hgen hk
  · simp only [List.mem_cons, List.not_mem_nil, or_false] at hx
    rcases hx with rfl | rfl
    · exact hka
    · exact hkp
  have m1 : List.lookup ("self" : Str) ([(("self" : Str), Value.ref a), (par, u)].reverse) = some (Value.ref a) := by
    have z : (("self" : Str) == par) = false := by simpa using Ne.symm hpar
    show List.lookup ("self" : Str) [(par, u), ("self", Value.ref a)] = _
    rw [List.lookup_cons, z]
    rfl
  have m2 : ([(("self" : Str), Value.ref a), (par, u)].reverse).lookup par = some u := by
    show List.lookup par [(par, u), ("self", Value.ref a)] = _
    rw [List.lookup_cons, beq_self_eq_true]
  obtain ⟨t0, hx⟩ := exo_at e0.hok ea
  have X1 : K.In h1 := KX.keeps kp
  have x1 : h1.get? a = some (excObj C t0 none .none) := kp _ _ hx
  have I1 : InstAt h1 a (excObj C t0 none .none) C none := ⟨x1, rfl, rfl, trivial⟩
  obtain ⟨mb, hb1, hb2⟩ := e0.mod.blt
  have kb : ∀ b o, base.get? b = some o → h1.get? b = some o := fun b o e => kp b o (e0.bs b o e).1
  have hi : ∀ env : Env, env.scope = scope → interactive env = false := fun env e => by
    unfold interactive
    rw [e, hk]
    rfl
  refine ks_wpAt_execs_cons (ks_wpAt_Expr_any ?_ (hi _ rfl))
  obtain ⟨pl, he⟩ := hev (callEnv (fnX name qual params [.Expr (.Call (.Attribute (.Call (.Name "super" p0) [] [] p1) "__init__" p2) [.Constant (.str txt) j p3] [] p4) p5, .Assign [.Attribute (.Name "self" p6) fld p7] (.Name par p8) p9] scope [(("__class__" : Str), cc)] dV kV doc pm an (.ref cda) ct) s.heap.objs.size f)
  refine ks_wpAt_MethodCall (pl := pl) ?_ he
  refine ks_wpAt_super_base (f := f) (cc := cda) hks hkc (by decide) rfl (X1 _ _ lk) rfl hp rfl (X1 _ _ hcode) rfl hvs hfile S.top ?_
  refine ks_loadName_global hk hks (loadGlobal_builtin (e0.mod.glob.keeps kb) S.ms (hb1.keeps kb) ((hb2 _ (by decide)).trans PyProof.Rows.Boot.«super») ⟨rfl, ?_⟩)
  refine wpAny_loadName_free hk hkc rfl ⟨_, X1 _ _ hcell, rfl⟩ ?_
  refine wpAny_loadName_local (v := .ref a) hk (by rw [har]; exact hka) hns ?_ ?_
  · rw [har]
    exact m1
  refine ks_wpAny_isType_cls (X1 _ _ hC) rfl ⟨rfl, ?_⟩
  refine ks_wpAny_call_super (X1 _ _ hC) rfl x1 rfl (fun c e => by cases e) (looks_mroIn X1 S.mro) (fun h2 so k12 => ?_)
  have X2 : K.In h2 := X1.keeps k12
  have x2 : h2.get? a = some (excObj C t0 none .none) := k12 _ _ x1
  have I2 : InstAt h2 a (excObj C t0 none .none) C none := ⟨x2, rfl, rfl, trivial⟩
  have hsup := S.sup
  unfold ks_superIn at hsup
  rw [hcls] at hsup
  refine kxs_getMethod kxs_ValueError so (looks_opaque X2 S.any) (l₀ := .ref C :: bm) (fun A Q E s k q => wpAny_bind ((looks_clsIn X2 hcls) A _ E s k (wpAny_pure q))) rfl X2 hsup (I2.type.andThen (looks_subIn X2 S.ve)) (ks_ne X2 I2 hcls) (by decide) ?_
  refine kxs_callWith (i := "ValueError.__init__") (x := a) rfl (evalArgs_plain (Calls.spliced_cons (Calls.Constant_str (k := j) (pos := p3) (Calls.spliced_nil ⟨?_, ?_⟩))))
  · exact Heap.get?_push_at rfl rfl
  have k23 : ∀ b o, h2.get? b = some o → (h2.push (kxs_mw "ValueError.__init__" a)).get? b = some o := fun b o e => Heap.get?_push_of_some _ e
  refine call_mw (K := K) (C := C) (e := a) (t0 := t0) (X2.keeps k23) S.T (k23 _ _ x2) (Heap.get?_push_at rfl rfl) (by rw [sizeLine_eq]; simp) (fun h4 t1 k34 x4 => ?_)
  have kAll : ∀ b o, b ≠ a → h1.get? b = some o → h4.get? b = some o := fun b o hb e => k34 b o hb (k23 _ _ (k12 _ _ e))
  have X4 : K.In h4 := fun b o e => by
    have hb : b ≠ a := fun z => by
      have y := (e0.bs b o (e0.mod.kin _ _ e)).2
      rw [z, ea] at y
      cases y
    exact kAll b o hb (X1 _ _ e)
  have La : s.heap.objs.size ≠ a := Nat.ne_of_gt (Heap.lt_size hx)
  have hns4 : h4.Ns s.heap.objs.size (fun x => [(("self" : Str), Value.ref a), (par, u)].reverse.lookup x) := hns.at fun o e => kAll _ o La e
  refine ks_wpAt_execs_cons (ks_wpAt_Assign_Attr (wpAt_of_wpAny (wpAny_Name (wpAny_loadName_local hk hkp hns4 m2 (wpAny_Name (wpAny_loadName_local hk hka hns4 m1 ?_) (by decide))) hdb)))
  refine set_plain X4 (ox := excObj C t1 none .none) (od := none) ⟨x4, rfl, rfl, trivial⟩ S.T.sa ?_
  refine HandSPX.exc_osa X4 x4 hcls (show HandSPX.refsVE (.ref C :: bm) = true from hbm) rfl S.no (fun h5 tk5 dx k45 dn dne x5 n5 => ?_)
  have kFull : ∀ b o, b ≠ a → s.heap.get? b = some o → h5.get? b = some o := fun b o hb e => k45 b o hb (kAll b o hb (kp b o e))
  have Lt : s.heap.objs.size < h4.objs.size := by
    obtain ⟨oL, es, ep, hL, _⟩ := hns4
    exact Heap.lt_size hL
  have hnd : H dx = none := e0.hok.fresh (Nat.le_of_lt (Nat.lt_of_lt_of_le Lt dn))
  have nd : ∀ {b : Addr} {o : Obj}, s.heap.get? b = some o → b ≠ dx := fun {b o} z => Nat.ne_of_lt (Nat.lt_of_lt_of_le (Nat.lt_trans (Heap.lt_size z) Lt) dn)
  have na : ∀ {b : Addr}, H b = none → b ≠ a := fun {b} n z => by
    rw [z, ea] at n
    cases n
  refine wpAt_of_wpAny (wpAny_execs_nil ?_)
  refine ⟨.non, upd (upd H dx (exd dx [(fld, v)])) a (exo a C (some dx)), rfl, e0.bare, ?_, ?_, rfl, hq dx hnd dne⟩
  · exact {
      keep := fun b o q n _ _ => kFull b o (na n) q
      slot := fun b o q n _ _ => ⟨o.slots, kFull b o (na n) q⟩
      free := fun b o q n _ => by rw [upd_ne (na n), upd_ne (nd q)]; exact n
      there := fun b o q _ => by
        by_cases hb : b = a
        · exact ⟨_, by rw [hb]; exact x5⟩
        · exact ⟨o, kFull b o hb q⟩
      tups := fun b xs q => by rw [upd_ne (at_ne ea q exo_tup), upd_ne (ne_of_none q hnd)]; exact q
      frzs := fun b o v q => by rw [upd_ne (at_ne ea q exo_frz), upd_ne (ne_of_none q hnd)]; exact q
      tbls := fun b ps q => ⟨#[], by rw [upd_ne (at_ne ea q exo_tbl), upd_ne (ne_of_none q hnd), q]; simp⟩ }
  · intro b o q
    by_cases hb : b = a
    · subst hb
      rw [upd_same] at q
      cases q
      exact exo_ok x5
    · rw [upd_ne hb] at q
      by_cases hd : b = dx
      · subst hd
        rw [upd_same] at q
        cases q
        exact exd_ok n5 (relO_put (fs := []) ru fun g => True.intro)
      · rw [upd_ne hd] at q
        exact (e0.hok b o q).stay (fun c v hc z => kFull c v (by
            rcases hc with hc | hc
            · rw [hc]
              exact hb
            · exact at_ne ea hc exo_own) z)
          (fun c hc => by rw [upd_ne (at_ne ea hc exo_own), upd_ne (ne_of_none hc hnd)]; exact hc) (fun c xs hc => by rw [upd_ne (at_ne ea hc exo_tup), upd_ne (ne_of_none hc hnd)]; exact hc)
end VL

/-! VLX1: raise of own exceptions -/
namespace VL
open PySem L2
/-- an own exception class with __init__(self, p) over super() -/
structure Xc (P : Program) (w : World) (K : Kt) (mg : Str → Option Value) (base : Heap) (x : Str) (cn : Nat) (fld : Str) : Prop where
  ex : ∃ (f : Addr) (fd : FuncData) (ps : List Str), mg x = some (.ref (K.κ cn)) ∧ OexC K.K (K.κ cn) ∧ PySem.W.findIn K.K (.ref (K.κ cn)) "__init__" = some (some (.ref f)) ∧ PySem.W.typeIn K.K (.ref f) = some (.type "function") ∧ Binds K.K fd ps [] ∧ FnOk P w K.K mg base (L2.CX P w) 1 f fd ps (spSup (K.κ cn) fld)
def sRaise (cn : Nat) (fld : Str) (fe : Ex) : Sx := fun st => thenS (fe st) st.env fun d st' => .ex ⟨cn, [fld], [d]⟩ st'
theorem tX_mono {α β : Type} {R : Kt → List Addr → Hp → α → β → Prop} {G : Gx} {W : WX} {f : S → Out α} {σ : St} {H : Hp} {Q Q' : β → Hp → Prop} (h : tX R G W f σ H Q) (m : ∀ v H, Q v H → Q' v H) : tX R G W f σ H Q' := by
  obtain ⟨ρ, F, st, r, p⟩ := h
  refine ⟨ρ, F, st, r, ?_⟩
  cases e : f st with
  | ok a cs =>
    rw [e] at p
    exact fun ρ' F' H' v x r rv => m _ _ (p ρ' F' H' v x r rv)
  | ex a cs =>
    rw [e] at p
    exact p
  | no =>
    rw [e] at p
    exact p
section
variable {X : Cx} {G : Gx} {W : WX} {e : Expr} {fe : Ex} {x fld : Str} {cn : Nat} {p pos pos' : Pos}
theorem pmk_raise (d : Xc X.prog X.w G.K X.mg X.base x cn fld) (hK : X.K = G.K.K) (tk : Takes X W) (hr : Room 2 X.A) (he : PE X e (tE G W fe)) (hg : Gl X x := by rfl) (hdb : (x == ("__debug__" : Str)) = false := by decide) (hs : starEach [e] X.env = (false, eval e X.env) :: starEach [] X.env := by rfl) :
    PMk X (.Call (.Name x p) [e] [] pos) (fun σ H Q => tE G W fe σ H fun v H1 => ∀ dx, H1 dx = none → Q (.ref (G.K.κ cn)) (some dx) (upd H1 dx (.xd [(fld, v)]))) := by
  obtain ⟨f, fd, ps, h1, h2, h3, h4, h5, h6⟩ := d.ex
  rw [← hK] at h2 h3 h4 h5 h6
  have m := pmk_oex (p := p) (pos := pos) (dvs := []) (ds := []) h2 h3 h4 h6 hr h5 .nil (passes_call tk (fun _ _ _ _ z => z.elim)) hg h1 (pa_cons he pa_nil hs) hdb hs (by rfl)
  intro pins s σ H Q I h
  refine m pins s σ H Q I ?_
  refine tX_mono h ?_
  intro v H1 q
  refine ⟨by simp, fun a ha => ⟨a, v, rfl, upd_same, fun dx hd ne => ⟨rfl, dx, [(fld, v)], upd_same, ?_, ?_, ?_⟩⟩⟩
  · rw [upd_ne ne, upd_same]
  · rw [upd_ne ne] at hd
    exact hd
  · rw [upd_ne ne] at hd
    have e : upd (del (upd (upd (upd H1 a (exo a (G.K.κ cn) none)) dx (exd dx [(fld, v)])) a (exo a (G.K.κ cn) (some dx))) a) dx (.xd [(fld, v)]) = upd H1 dx (.xd [(fld, v)]) := by
      funext b
      by_cases hb : b = dx
      · rw [hb, upd_same, upd_same]
      · rw [upd_ne hb, upd_ne hb]
        by_cases ha' : b = a
        · rw [ha', del_same, ha]
        · rw [del_ne ha', upd_ne ha', upd_ne hb, upd_ne ha']
    rw [e]
    exact q dx hd
theorem ds_raise (d : Xc X.prog X.w G.K X.mg X.base x cn fld) (hK : X.K = G.K.K) (hc : X.calm = true) (tk : Takes X W) (hr : Room 2 X.A) (he : PE X e (tE G W fe)) (hg : Gl X x := by rfl) (hdb : (x == ("__debug__" : Str)) = false := by decide) (hs : starEach [e] X.env = (false, eval e X.env) :: starEach [] X.env := by rfl) :
    PS X (.Raise (some (.Call (.Name x p) [e] [] pos)) none pos') (tS G W (sRaise cn fld fe)) := by
  refine (ps_raise hc tk (pmk_raise (p := p) (pos := pos) d hK tk hr he hg hdb hs)).impV fun D σ H ⟨ρ, F, st, r, p⟩ => seqS (f := fe) r p fun ρ1 F1 H1 x c1 v x1 r1 rv1 p1 dx hd => ?_
  obtain ⟨x2, r2⟩ := r1.fresh (o := .xd [(fld, v)]) hd
  exact p1 _ _ σ _ _ _ x2 r2 ⟨rfl, dx, [v], rfl, upd_same, rfl, .cons (rv1.ext x2) .nil⟩
end
end VL

/-! VLX2: try .. except C as e: y = f(e) -/
namespace VL
open PySem L2
/-- an expression of an except suite: the slot i holds the exception at a -/
def tEx (i : Nat) (a : Addr) (t : TE) : TE := fun σ H Q => σ[i]? = some (some (.ref a)) ∧ t σ H Q
/-- the clause's class: which exceptions it takes -/
def Catch (K : Kt) (c : Value) (ct : Nat → Option Bool) : Prop := ∀ C b, ct C = some b → PySem.W.exmOne K.K (.ref (K.κ C)) c = some b
def sTry1 (ct : Nat → Option Bool) (i j : Nat) (fb : Sx) (fx : Exn → Ex) : Sx := fun st => match fb st with
  | .ex e st1 => (match ct e.C with
    | some true => if i < st1.env.length then (match fx e ⟨st1.env.set i none, st1.cs⟩ with
      | .ok d cs => .nx ⟨((st1.env.set i none).set j (some d)).set i none, cs⟩
      | _ => .no) else .no
    | some false => .ex e st1
    | none => .no)
  | o => o
theorem Rel.hide {G : Gx} {ρ : List Addr} {F : Hp} {st : S} {σ : St} {H : Hp} (r : Rel G ρ F st σ H) (i : Nat) (o : Option V) : Rel G ρ F ⟨st.env.set i none, st.cs⟩ (σ.set i o) H := by
  refine ⟨by simpa using r.len, fun j d e => ?_, r.cl, r.cell, r.nd, r.fz, r.sep, r.fr, r.own, r.new, r.old, r.a0⟩
  have e : (st.env.set i none)[j]? = some (some d) := e
  by_cases h : i = j
  · subst h
    rw [List.getElem?_set_self'] at e
    cases q : st.env[i]? with
    | none => rw [q] at e; cases e
    | some o => rw [q] at e; cases e
  · rw [List.getElem?_set_ne h] at e
    rw [List.getElem?_set_ne h]
    exact r.env j d e
section
variable {X : Cx} {G : Gx} {W : WX} {x n y : Str} {c : Value} {i j : Nat} {body : List Stmt} {e : Expr} {np pos pos' pa py' : Pos} {fb : Sx} {fx : Exn → Ex} {ct : Nat → Option Bool}
/-- what the suite's expression gives, for each exception that is taken -/
def SuiteE (X : Cx) (G : Gx) (i : Nat) (e : Expr) (ct : Nat → Option Bool) (fx : Exn → Ex) : Prop :=
  ∀ (a : Addr) (oe : Obj) (cls : Value) (d : Option Addr) (pn : List (Addr × Obj)), Zc cls d oe → (∃ vs, oe.data = .fields vs) →
    PE (X.suite a ((a, oe) :: pn)) e (fun σ H Q => ∃ ex : Exn, ct ex.C = some true ∧ σ[i]? = some (some (.ref a)) ∧ ∃ ρ F st, Rel G ρ F st σ H ∧ XAt G.K ρ F ex cls d ∧ Post RV G W0 ρ F st.env σ Q (fx ex st))
theorem ds_try1 (hK : X.K = G.K.K) (hs : X.stack = X.env :: X.outer) (hf : X.env.frame = some X.env.locals) (hN : X.N.Nodup) (hi : X.N[i]? = some n) (hj : X.N[j]? = some y) (hln : X.env.kindOf n = some .local) (hc : Names X x c) (hct : Catch G.K c ct) (tk : Takes X W)
    (hb : ∀ (W : WX) (pn : List (Addr × Obj)) (xe : Value → Shared → Prop), Takes (X.tr pn xe) W → PassesOwn (model X.prog X.w) X.A X.env xe → PSs (X.tr pn xe) body (tS G W fb))
    (he : SuiteE X G i e ct fx) (hx : Loc X.env.scope y := by first | exact Or.inl rfl | exact Or.inr rfl) (hsw : swapsWith e (some (.Name y py')) pa.line X.env = pure false := by rfl) (hfn : X.fn y = true ∨ X.env.scope.names.lookup y = some .local := by first | exact .inl rfl | exact .inr rfl) :
    PS X (.Try body [.ExceptHandler (some (.Name x np)) (some n) [.Assign [.Name y py'] e pa] pos'] [] [] pos) (tS G W (sTry1 ct i j fb fx)) := by
  have P := ps_try_as (np := np) (pos := pos) (pos' := pos') hs hf hN hi hln hc tk hb (fun a oe cls d pn hz hd => pss_one (ps_set (i := j) (pos := pa) (pos' := py') hN hj hx (he a oe cls d pn hz hd) hsw hfn))
  refine P.impV fun D σ H ⟨ρ, F, st, r, p⟩ => ?_
  refine ⟨ρ, F, st, r, ?_⟩
  unfold sTry1 at p
  cases q : fb st with
  | ex ex st1 =>
    rw [q] at p
    intro ρ1 F1 σ1 H1 cls d x1 r1 xa
    dsimp only at p
    obtain ⟨rfl, hxa⟩ := xa
    cases b : ct ex.C with
    | none => rw [b] at p; exact p.elim
    | some k =>
      rw [b] at p
      refine ⟨k, by rw [hK]; exact hct _ _ b, fun hk a ha => ?_, fun hk => ?_⟩
      · subst hk
        dsimp only at p
        by_cases hli : i < st1.env.length
        rotate_left
        · rw [if_neg hli] at p
          exact p.elim
        rw [if_pos hli] at p
        have r2 := r1.hide i (some (.ref a))
        refine ⟨ex, b, ?_, ρ1, F1, _, r2, ⟨rfl, hxa⟩, ?_⟩
        · have hl : i < σ1.length := by
            rw [← r1.len]
            exact hli
          simp [hl]
        · cases v : fx ex ⟨st1.env.set i none, st1.cs⟩ with
          | ok dv cs =>
            rw [v] at p
            intro ρ2 F2 H2 vv x2 r3 rv
            exact p ρ2 F2 _ H2 (x1.trans x2) ((r3.slot rv).hide i none)
          | ex _ _ => rw [v] at p; exact p.elim
          | no => rw [v] at p; exact p.elim
      · subst hk
        dsimp only at p
        exact p ρ1 F1 σ1 H1 _ d x1 r1 ⟨rfl, hxa⟩
  | nx _ => rw [q] at p; exact p
  | rt _ _ => rw [q] at p; exact p
  | bk _ => rw [q] at p; exact p
  | ct _ => rw [q] at p; exact p
  | no => rw [q] at p; exact p
end
end VL

/-! VLX3: expressions of an except suite -/
namespace VL
open PySem L2
/-- what is known of the suite's exception -/
structure XHere (G : Gx) (cn i : Nat) (a : Addr) (cls : Value) (d : Option Addr) (σ : St) (H : Hp) : Prop where
  slot : σ[i]? = some (some (.ref a))
  cls : cls = .ref (G.K.κ cn)
  dict : ∃ dd fs, d = some dd ∧ H dd = some (.xd fs)
section
variable {X : Cx} {G : Gx} {cn i : Nat} {e e1 e2 c : Expr} {n f x : Str} {p pos p1 p2 : Pos} {ct : Nat → Option Bool} {fx f1 f2 : Exn → Ex} {b b1 b2 : Bool}
theorem xhere_of {ρ : List Addr} {F : Hp} {st : S} {σ : St} {H : Hp} {ex : Exn} {a : Addr} {cls : Value} {d : Option Addr} (r : Rel G ρ F st σ H) (xa : XAt G.K ρ F ex cls d) (hs : σ[i]? = some (some (.ref a))) : XHere G ex.C i a cls d σ H := by
  obtain ⟨h1, dx, vs, h2, h3, _⟩ := xa
  exact ⟨hs, h1, dx, _, h2, r.fz _ _ h3⟩
theorem look_zip {K : Kt} {ρ : List Addr} {F : Hp} {f : Str} : ∀ {ks : List Str} {ds : List D} {vs : List V} {d : D}, lookD f ks ds = some d → RVs K ρ F ds vs → ∃ v, (ks.zip vs).lookup f = some v ∧ RV K ρ F d v
  | [], _, _, _, h, _ => by cases h
  | _ :: _, [], _, _, h, _ => by cases h
  | k :: ks, x :: ds, _, d, h, .cons (v := v) (vs := vs) rv r => by
    have h : (if f = k then some x else lookD f ks ds) = some d := h
    by_cases q : f = k
    · rw [if_pos q] at h
      cases h
      exact ⟨v, by rw [q]; simp [List.lookup], rv⟩
    · rw [if_neg q] at h
      obtain ⟨v', e1, e2⟩ := look_zip h r
      have z : (f == k) = false := by simpa using q
      exact ⟨v', by simp [List.lookup, z, e1], e2⟩
/-- e.f -/
theorem se_fld (hK : X.K = G.K.K) (T : XfC G.K.K (G.K.κ cn)) (hno : PySem.W.findIn G.K.K (.ref (G.K.κ cn)) f = some none) (only : ∀ C, ct C = some true → C = cn) (hv : ∀ a pn, PE (X.suite a pn) (.Name n p) (tVar i)) (hb : attributeBase (.Name n p) f X.env (eval (.Name n p) X.env) = eval (.Name n p) X.env := by rfl) :
    SuiteE X G i (.Attribute (.Name n p) f pos) ct (fun ex st => match lookD f ex.ks ex.ds with
      | some d => .ok d st.cs
      | none => .no) := by
  intro a oe cls d pn hz hd
  refine (pe_xf (pos := pos) (hK ▸ T) (hK ▸ hno) hz hd (hv a _) hb).impV ?_
  rintro σ H Q ⟨ex, hc, hs, ρ, F, st, r, xa, po⟩
  have ec := only _ hc
  refine ⟨.ref a, hs, rfl, ?_, ?_⟩
  · rw [xa.1, ec]
  obtain ⟨_, dx, vs, h2, h3, h4, h5⟩ := xa
  dsimp only at po
  cases q : lookD f ex.ks ex.ds with
  | none => rw [q] at po; exact po.elim
  | some dv =>
    rw [q] at po
    obtain ⟨v, l1, l2⟩ := look_zip q h5
    exact ⟨dx, _, v, h2, r.fz _ _ h3, l1, po ρ F H v Ext.refl r l2⟩
/-- a written text -/
theorem se_str {s : Str} {j : Nat} : SuiteE X G i (.Constant (.str s) j pos) ct (fun _ st => .ok (.str s) st.cs) := by
  intro a oe cls d pn hz hd
  refine (pe_str (x := s)).impV ?_
  rintro σ H Q ⟨ex, hc, hs, ρ, F, st, r, xa, po⟩
  exact po ρ F H _ Ext.refl r (.str _)
/-- a test whose answer hangs on the class alone -/
def SuiteB (X : Cx) (G : Gx) (cn i : Nat) (e : Expr) (b : Bool) : Prop :=
  ∀ (a : Addr) (oe : Obj) (cls : Value) (d : Option Addr) (pn : List (Addr × Obj)), Zc cls d oe → (∃ vs, oe.data = .fields vs) →
    PT (X.suite a ((a, oe) :: pn)) e (fun σ H Q => XHere G cn i a cls d σ H ∧ Q b H)
theorem se_if (hc : SuiteB X G cn i c b) (only : ∀ C, ct C = some true → C = cn) (h1 : SuiteE X G i e1 ct f1) (h2 : SuiteE X G i e2 ct f2) : SuiteE X G i (.IfExp c e1 e2 pos) ct (if b then f1 else f2) := by
  intro a oe cls d pn hz hd
  refine (pe_ifExp (hc a oe cls d pn hz hd) (h1 a oe cls d pn hz hd) (h2 a oe cls d pn hz hd)).impV ?_
  rintro σ H Q ⟨ex, hct, hs, ρ, F, st, r, xa, po⟩
  have xh := xhere_of (i := i) r xa hs
  rw [only _ hct] at xh
  refine ⟨xh, ?_⟩
  cases b with
  | true => exact ⟨ex, hct, hs, ρ, F, st, r, xa, po⟩
  | false => exact ⟨ex, hct, hs, ρ, F, st, r, xa, po⟩
theorem sb_not (h : SuiteB X G cn i c b) : SuiteB X G cn i (.UnaryOp .Not c pos) (!b) := fun a oe cls d pn hz hd => (pt_not (h a oe cls d pn hz hd)).impV fun σ H Q h => h
theorem sb_and (h1 : SuiteB X G cn i e1 b1) (h2 : SuiteB X G cn i e2 b2) : SuiteB X G cn i (.BoolOp .And [e1, e2] pos) (b1 && b2) := by
  intro a oe cls d pn hz hd
  refine (pw_and (h1 a oe cls d pn hz hd) (pw_and1 (h2 a oe cls d pn hz hd))).pt.impV ?_
  rintro σ H Q ⟨xh, q⟩
  refine ⟨xh, ?_⟩
  cases b1 with
  | true => exact ⟨xh, q⟩
  | false => exact q
/-- isinstance(e, C) -/
def rIsE2 (K : PySem.W.Frag) (D a : Addr) (cls : Value) (d : Option Addr) : List V → Hp → VK → Prop := fun xs H Q => ∃ (c : V) (cv : Value) (b : Bool), xs = [.ref a, c] ∧ (∀ u, RelV c u → u = cv) ∧ PySem.W.kitOne K (.ref D) cv = some b ∧ cls = .ref D ∧ (∃ dd fs, d = some dd ∧ H dd = some (.xd fs)) ∧ Q (.bl b) H
theorem call_isE2 {a D : Addr} {oe : Obj} {cls : Value} {d : Option Addr} {pn : List (Addr × Obj)} (C : ExcC X.K D) (hz : Zc cls d oe) (hf : ∃ vs, oe.data = .fields vs) : CallR (X.suite a ((a, oe) :: pn)) (.builtin "isinstance") (rIsE2 X.K D a cls d) := by
  intro pins s σ H xs us Q I r h
  obtain ⟨c, cv, b, rfl, hcv, e, rfl, ⟨dd, fs, rfl, ed⟩, q⟩ := h
  cases r with
  | cons rx rr =>
    cases rr with
    | cons rt rr =>
      cases rr
      cases rx
      have ec := hcv _ rt
      subst ec
      have hget := (I.pin (a, oe) (List.mem_append.mpr (.inl List.mem_cons_self))).1
      obtain ⟨vs, hv⟩ := hf
      have hx : ObjOk X.prog X.w H s.heap dd (.xd fs) := I.hok dd _ ed
      obtain ⟨mA, hns, _⟩ := hx
      obtain ⟨od, ho, _⟩ := lookIn_ns hns
      have J : PySem.W.InstAt s.heap a oe D (some od) := ⟨hget, hz.1, by unfold PySem.W.notCls; rw [hv] <;> rfl, by rw [hz.2]; exact ho⟩
      obtain ⟨cdD, hcD, _⟩ := PySem.W.any_some C.hd
      exact PySem.W.kia_one (PySem.W.kitx_exc (od := some od) (by rw [hcD]; rfl) C.hg C.hk C.hs C.ha C.hn C.ht C.hm) I.kIn J e (fun z => nomatch z) fun tk => ⟨.bl b, H, I.kept (t' := tk) fun _ _ z => z, rfl, q⟩
theorem sb_isi {D2 : Addr} (hK : X.K = G.K.K) (T : ExcC G.K.K (G.K.κ cn)) (hg : Gl X "isinstance") (hm : X.mg "isinstance" = none) (hgx : Gl X x) (hmx : X.mg x = some (.ref D2)) (hk : PySem.W.kitOne G.K.K (.ref (G.K.κ cn)) (.ref D2) = some b) (hv : ∀ a pn, PE (X.suite a pn) (.Name n p) (tVar i))
    (hd : (x == ("__debug__" : Str)) = false := by decide) (hs : starEach [.Name n p, .Name x p2] X.env = (false, eval (.Name n p) X.env) :: starEach [.Name x p2] X.env := by rfl) (hpl : (backTo pos (starEach [.Name x p2] X.env)).any (·.1) = false := by rfl) (hs2 : starEach [.Name x p2] X.env = (false, eval (.Name x p2) X.env) :: starEach [] X.env := by rfl)
    (he : ∀ whole, isTrue (.Call (.Name "isinstance" p1) [.Name n p, .Name x p2] [] pos) X.env whole = (do let v ← whole; standAt (Expr.Call (.Name "isinstance" p1) [.Name n p, .Name x p2] [] pos).pos; holding [v] (truthy v)) := by intro _; rfl) :
    SuiteB X G cn i (.Call (.Name "isinstance" p1) [.Name n p, .Name x p2] [] pos) b := by
  intro a oe cls d pn hz hf
  have hT : PE (X.suite a ((a, oe) :: pn)) (.Name x p2) (tC (.ref D2)) := pe_glob hgx hmx rfl hd
  have P := pe_callB (p := p1) (pos := pos) (call_isE2 (a := a) (pn := pn) (hK ▸ T) hz hf) hg hm PyProof.Rows.Boot.«isinstance» (pa_cons (hv a _) (pa_cons hT pa_nil hs2) hs) (he := hs) (hpl := hpl)
  refine (pt_truth P he).impV ?_
  rintro σ H Q ⟨xh, q⟩
  refine ⟨.ref a, xh.slot, ?_⟩
  refine ⟨.ref D2, .ref D2, b, rfl, fun u hu => ?_, by rw [hK]; exact hk, xh.cls, xh.dict, ?_⟩
  · exact hu
  · exact ⟨b, rfl, q⟩
end
end VL

/-! VLX4: own methods by special names: __str__, __eq__ -/
namespace VL
open PySem L2
section
variable {X : Cx} {C f : Addr} {fd : FuncData} {ps : List Str} {sp : Sp} {k : Nat} {W : WX}
/-- str(o), o's class saying __str__ -/
def rStrO (C : Addr) (sp : Sp) (W : WX) (σ : St) : List V → Hp → VK → Prop := fun xs H Q => ∃ a dx fs, xs = [.ref a] ∧ H a = some (.ins C dx fs) ∧ sp xs H (fun v H' => (∃ y, v = .str y) ∧ Q v H') (fun cls d H' => W cls d σ H')
theorem run_strO (F : FnOk X.prog X.w X.K X.mg X.base (L2.CX X.prog X.w) k f fd ps sp) (hs : PySem.W.findIn X.K (.ref C) "__str__" = some (some (.ref f))) (hf : PySem.W.isFn X.K (.ref f) = true) (hb : Binds X.K fd ps []) (tk : Takes X W) (hr : Room (k + 2) X.A)
    {pins : List (Addr × Obj)} {s : Shared} {σ : St} {H : Hp} {xs : List V} {us : List Value} {Q : VK} (I : Inv X pins σ H s) (r : Vals xs us) (h : rStrO C sp W σ xs H Q) : wpAny (model X.prog X.w) X.A (call (.type "str") us) (EP X pins σ Q) X.xe s := by
  obtain ⟨a, dx, fs, rfl, ha, hsp⟩ := h
  cases r with
  | cons rx rr =>
  cases rr
  cases rx
  obtain ⟨mA, J, _⟩ := ins_get I.hok ha
  obtain ⟨od, J, _⟩ := J.look
  have hr1 := hr.in1
  have hr2 := hr1.in1
  have hl := F.len _ _ _ _ hsp
  have r2 : Vals [V.ref a] [Value.ref a] := .cons rfl .nil
  refine PySem.W.kso_call (by have := hr2.un; omega) I.kIn J hs hf ?_
  refine wpAny_call (codeAny_mono (F.run _ X.stack s H ⟨[.ref a], []⟩ [.ref a] [.ref a] _ _ hr2 I.env0.in1.in1 (by simpa using hb s [.ref a] I.kIn (by simpa using hl)) r2 hsp) fun q s' hq => ?_)
  cases q with
  | error e => exact tk e s' (XE.of_call I (fun _ _ _ h => h) hq)
  | ok fl =>
    cases fl with
    | ret w =>
      obtain ⟨z, H', I', rz, ⟨y, rfl⟩, ex⟩ := I.after hq
      obtain ⟨t, rfl⟩ := rz
      exact ⟨.str y, H', I', ⟨t, rfl⟩, ex⟩
    | next => exact False.elim hq
    | brk => exact False.elim hq
    | cont => exact False.elim hq
end
section
variable {prog : Program} {w : World} {A : Around} {E : Value → Shared → Prop} {h : Heap} {g : Array GenState} {d : Drawn} {t : Nat} {os : OsState} {K : PySem.W.Frag} {C x f : Addr} {ox : Obj} {od : Option Obj} {y ty : Value}
/-- object.__ne__ asks an own __eq__ -/
theorem objNe_own (X : K.In h) (I : PySem.W.InstAt h x ox C od) (he : PySem.W.findIn K (.ref C) "__eq__" = some (some (.ref f))) (hf : PySem.W.isFn K (.ref f) = true) (hu : A.units < cLine) {Q : Fin → Shared → Prop}
    (hc : wpAny (model prog w) A (call (.ref f) [.ref x, y]) (fun v s' => ∃ b, v = .bool b ∧ Q (.done (.ret (.bool (!b)))) s') E ⟨h, g, d, t, os⟩) :
    wpAny (model prog w) A (Builtin.«object.__ne__» ⟨[.ref x, y], []⟩) Q E ⟨h, g, d, t, os⟩ := by
  unfold Builtin.«object.__ne__»
  repeat (first
    | with_reducible refine wpAny_cRoomFor hu ?_
    | (refine wpAny_bind (m := callSpecialIfBound? (.ref x) (Str.ofString "__eq__") [y])
        (PySem.W.ifBound_K X I he hf (wpAny_mono hc (fun r s' hr => by
          obtain ⟨b, rfl, hq⟩ := hr
          repeat (first | exact hq | exact wpAny_pure hq | exact wpAny_truthy_bool hq | (refine wpAny_bind (m := truthy (.bool _)) (wpAny_truthy_bool ?_)) | wp_step)) fun _ _ e => e)))
    | wp_step)
theorem ne_own (X : K.In h) (I : PySem.W.InstAt h x ox C od) (hb : PySem.W.Looks (model prog w) h (typeOf y) ty) (hn : PySem.W.notFirst K C ty = true) (hne : PySem.W.findIn K (.ref C) "__ne__" = some (some (.builtin "object.__ne__"))) (he : PySem.W.findIn K (.ref C) "__eq__" = some (some (.ref f))) (hf : PySem.W.isFn K (.ref f) = true)
    (ho : PySem.W.mroIn K C (.type "object") = some true) (hu : A.units + 1 < cLine) {Q : Value → Shared → Prop}
    (hc : wpAny (model prog w) A.in1 (call (.ref f) [.ref x, y]) (fun v s' => ∃ b, v = .bool b ∧ Q (.bool (!b)) s') E ⟨h, g, d, t, os⟩) :
    wpAny (model prog w) A (richCompare .NotEq (.ref x) y) Q E ⟨h, g, d, t, os⟩ := by
  have FB := F.cmp_object
  have one : wpAny (model prog w) A (tryCompare (.ref x) "__ne__" y) (fun r s' => ∃ v, r = some v ∧ Q v s') E ⟨h, g, d, t, os⟩ := by
    simp only [tryCompare]
    refine wpAny_bind ?_
    have fin0 : wpAny (model prog w) A (call (.builtin "object.__ne__") [.ref x, y]) (fun v s' => ∃ b, v = .bool b ∧ Q (.bool b) s') E ⟨h, g, d, t, os⟩ := by
      refine wpAny_call (codeAny_call_builtin FB.ne.plain F.cmpEntry_ne (PySem.W.check_slot F.cmpKind_ne F.cmpSplit_ne (I.type.andThen (PySem.W.looks_mroIn X ho)) (F.cmpArgs_ne _ _) ?_))
      refine objNe_own (A := A.in1) X I he hf hu (wpAny_mono hc (fun v s' hv => ?_) fun _ _ e => e)
      obtain ⟨b, rfl, hq⟩ := hv
      exact ⟨b, rfl, !b, rfl, hq⟩
    simp only [callSpecialIfBound?, bindSpecialIfBound?]
    refine wpAny_holding (wpAny_bind (wpAny_bind (wpAny_bind (I.type.here ((PySem.W.looks_findIn X hne).here ?_)))))
    refine wpAny_bind (wpAny_askSetting (wpAny_ite ?_))
    simp only [FB.ne.bind]
    split
    · exact wpAny_bind (wpAny_pure (wpAny_pure (wpAny_bind (wpAny_mono fin0 (fun v s' ⟨b, e, q⟩ => by subst e; exact wpAny_pure (wpAny_pure ⟨_, rfl, q⟩)) fun _ _ h' => h'))))
    · exact wpAny_tryCatch (wpAny_bind (wpAny_pure (wpAny_pure (wpAny_bind (wpAny_mono fin0 (fun v s' ⟨b, e, q⟩ => by subst e; exact wpAny_pure (wpAny_pure ⟨_, rfl, q⟩)) fun _ _ h' => h')))))
  unfold richCompare
  simp only [oneThing_ref]
  refine wpAny_holding (wpAny_bind (wpAny_cRoomFor (Nat.lt_of_succ_lt hu) ?_))
  rw [cmpInfo_NotEq]
  dsimp only
  refine wpAny_bind (I.type.here (wpAny_bind (hb.here ?_)))
  split
  · rename_i q
    have e : PySem.W.subIn K ty (.ref C) = some false := by
      rcases Bool.or_eq_true_iff.mp hn with e | e
      · rw [beq_iff_eq.mp e] at q; simp at q
      · exact beq_iff_eq.mp e
    refine wpAny_bind ((PySem.W.looks_subIn X e).here ?_)
    simp only [Bool.false_eq_true, if_false]
    refine wpAny_bind (wpAny_mono one (fun r s' z => ?_) fun _ _ e => e)
    obtain ⟨v, rfl, hq⟩ := z
    exact wpAny_pure hq
  · refine wpAny_bind (wpAny_pure ?_)
    simp only [Bool.false_eq_true, if_false]
    refine wpAny_bind (wpAny_mono one (fun r s' z => ?_) fun _ _ e => e)
    obtain ⟨v, rfl, hq⟩ := z
    exact wpAny_pure hq
end
end VL

/-! VLX5: own objects: ==, !=, str -/
namespace VL
open PySem L2
/-- a def of a class, by its name there -/
structure DefM (P : Program) (w : World) (K : Kt) (mg : Str → Option Value) (base : Heap) (cn : Nat) (name : Str) (k : Nat) (ps : List Str) (fn : Fn) : Prop where
  ex : ∃ (f : Addr) (fd : FuncData), PySem.W.findIn K.K (.ref (K.κ cn)) name = some (some (.ref f)) ∧ PySem.W.isFn K.K (.ref f) = true ∧ Binds K.K fd ps [] ∧ FnOk P w K.K mg base (L2.CX P w) k f fd ps (spF K ps.length fn)
section
variable {X : Cx} {C f : Addr} {fd : FuncData} {ps : List Str} {sp : Sp} {k : Nat} {W : WX}
/-- what stands beside an own object in == -/
def BesideV (C : Addr) (H : Hp) (y : V) : Prop := (∃ z, y = .str z) ∨ ∃ b dx fs, y = .ref b ∧ H b = some (.ins C dx fs)
def rCmpO (neg : Bool) (C : Addr) (sp : Sp) (W : WX) : R2 := fun x y H Q => ∃ a dx fs σ0, x = .ref a ∧ H a = some (.ins C dx fs) ∧ BesideV C H y ∧ sp [x, y] H (fun v H' => ∃ b, v = .bl b ∧ Q (.bl (if neg then !b else b)) H') (WE W σ0)
theorem beside_type {P : Program} {w : World} {K : PySem.W.Frag} {H : Hp} {h : Heap} {y : V} {u : Value} (hok : HOk P w H h) (hs : PySem.W.subIn K (.type "str") (.ref C) = some false) (ry : RelV y u) (b : BesideV C H y) : ∃ ty, PySem.W.Looks (model P w) h (typeOf u) ty ∧ PySem.W.notFirst K C ty = true := by
  rcases b with ⟨z, rfl⟩ | ⟨b, dx, fs, rfl, e⟩
  · obtain ⟨t, rfl⟩ := ry
    exact ⟨.type "str", .now, by unfold PySem.W.notFirst; rw [hs]; rfl⟩
  · obtain rfl : u = Value.ref b := ry
    obtain ⟨mA, J, _⟩ := ins_get hok e
    obtain ⟨od, J, _⟩ := J.look
    exact ⟨.ref C, J.type, by simp [PySem.W.notFirst]⟩
theorem run_eqO (F : FnOk X.prog X.w X.K X.mg X.base (L2.CX X.prog X.w) k f fd ps sp) (he : PySem.W.findIn X.K (.ref C) "__eq__" = some (some (.ref f))) (hf : PySem.W.isFn X.K (.ref f) = true) (hb : Binds X.K fd ps []) (hst : PySem.W.subIn X.K (.type "str") (.ref C) = some false) (hW : Flat W) (tk : Takes X W) (hr : Room k X.A) :
    OpR X (compareOp .Eq) (rCmpO false C sp W) := by
  intro pins s σ H x y v u Q I rx ry h
  obtain ⟨a, dx, fs, σ0, rfl, ha, hbe, hsp⟩ := h
  obtain rfl : v = Value.ref a := rx
  obtain ⟨mA, J, _⟩ := ins_get I.hok ha
  obtain ⟨od, J, _⟩ := J.look
  obtain ⟨ty, lt, nf⟩ := beside_type I.hok hst ry hbe
  obtain ⟨m, hF⟩ := I.fr
  have hl := F.len _ _ _ _ hsp
  have r2 : Vals [V.ref a, y] [Value.ref a, u] := .cons rfl (.cons ry .nil)
  refine PySem.W.cmp_ofEq (PySem.W.cmp_K (op := .Eq) (tb := ty) (by have := hr.un; omega) hF I.ok.mod.kin J lt nf he hf ?_)
  refine wpAny_call (codeAny_mono (F.run _ X.stack s H ⟨[.ref a, u], []⟩ [.ref a, u] [.ref a, y] _ _ hr I.env0 (by simpa using hb s [.ref a, u] I.kIn (by simpa using hl)) r2 hsp) fun q s' hq => ?_)
  cases q with
  | error e => exact tk e s' (XE.of_call I (fun _ _ _ h => hW _ _ _ _ _ h) hq)
  | ok fl =>
    cases fl with
    | ret w =>
      obtain ⟨z, H', I', rz, b, rfl, ex⟩ := I.after hq
      obtain rfl : w = Value.bool b := rz
      exact ⟨.bl b, H', I', rfl, ex⟩
    | next => exact False.elim hq
    | brk => exact False.elim hq
    | cont => exact False.elim hq
theorem run_neO (F : FnOk X.prog X.w X.K X.mg X.base (L2.CX X.prog X.w) k f fd ps sp) (he : PySem.W.findIn X.K (.ref C) "__eq__" = some (some (.ref f))) (hne : PySem.W.findIn X.K (.ref C) "__ne__" = some (some (.builtin "object.__ne__"))) (ho : PySem.W.mroIn X.K C (.type "object") = some true) (hf : PySem.W.isFn X.K (.ref f) = true) (hb : Binds X.K fd ps []) (hst : PySem.W.subIn X.K (.type "str") (.ref C) = some false) (hW : Flat W) (tk : Takes X W) (hr : Room (k + 1) X.A) :
    OpR X (compareOp .NotEq) (rCmpO true C sp W) := by
  intro pins s σ H x y v u Q I rx ry h
  obtain ⟨a, dx, fs, σ0, rfl, ha, hbe, hsp⟩ := h
  obtain rfl : v = Value.ref a := rx
  obtain ⟨mA, J, _⟩ := ins_get I.hok ha
  obtain ⟨od, J, _⟩ := J.look
  obtain ⟨ty, lt, nf⟩ := beside_type I.hok hst ry hbe
  have hl := F.len _ _ _ _ hsp
  have r2 : Vals [V.ref a, y] [Value.ref a, u] := .cons rfl (.cons ry .nil)
  refine PySem.W.cmp_ofNotEq (ne_own I.kIn J lt nf hne he hf ho (by have := hr.un; omega) ?_)
  refine wpAny_call (codeAny_mono (F.run _ X.stack s H ⟨[.ref a, u], []⟩ [.ref a, u] [.ref a, y] _ _ hr.in1 I.env0.in1 (by simpa using hb s [.ref a, u] I.kIn (by simpa using hl)) r2 hsp) fun q s' hq => ?_)
  cases q with
  | error e => exact tk e s' (XE.of_call I (fun _ _ _ h => hW _ _ _ _ _ h) hq)
  | ok fl =>
    cases fl with
    | ret w =>
      obtain ⟨z, H', I', rz, b, rfl, ex⟩ := I.after hq
      obtain rfl : w = Value.bool b := rz
      exact ⟨b, rfl, .bl (!b), H', I', rfl, ex⟩
    | next => exact False.elim hq
    | brk => exact False.elim hq
    | cont => exact False.elim hq
end
def beside (cn : Nat) : D → Bool
  | .str _ => true
  | .obj C _ _ => C == cn
  | _ => false
def boolO (neg : Bool) (d : D) (c : List Cell) : Out D := match d with
  | .bl b => .ok (.bl (if neg then !b else b)) c
  | _ => .no
def gCmpO (neg : Bool) (cn : Nat) (fn : Fn) : F2 := fun cs x y => match x with
  | .obj C ks ds => if C = cn ∧ beside cn y = true then (callV 0 fn [.obj C ks ds, y] cs).bind (boolO neg) else .no
  | _ => .no
section
variable {X : Cx} {G : Gx} {W : WX} {a b : Expr} {fa fb : Ex} {pos : Pos} {cn k : Nat} {fn : Fn} {ps : List Str}
theorem post_bool {ρ : List Addr} {F : Hp} {env : List (Option D)} {σ : St} {Q : VK} {neg : Bool} {o : Out D} (p : Post RV G W ρ F env σ Q (o.bind (boolO neg))) : Post RV G W ρ F env σ (fun v H' => ∃ b, v = .bl b ∧ Q (.bl (if neg then !b else b)) H') o := by
  cases o with
  | ok d cs =>
    cases d with
    | bl b =>
      intro ρ' F' H' v x r rv
      cases rv
      exact ⟨b, rfl, p ρ' F' H' _ x r (.bl _)⟩
    | _ => exact p.elim
  | ex e cs => exact p
  | no => exact p
theorem v2_cmpO {neg : Bool} : V2 G W (rCmpO neg (G.K.κ cn) (spF G.K 2 fn) W) (gCmpO neg cn fn) := by
  intro ρ F st σ H x y v w Q r h1 h2 p
  cases h1 with
  | obj h hl hr =>
    unfold gCmpO at p
    dsimp only at p
    rename_i a dx C ks vs ds
    by_cases c : C = cn ∧ beside cn y = true
    · rw [if_pos c] at p
      obtain ⟨rfl, c⟩ := c
      refine ⟨a, dx, _, σ, rfl, r.fz _ _ h, ?_, callV_of (m := 2) (n := 0) (fn := fn) r (.cons (.obj h hl hr) (.cons h2 .nil)) rfl (post_bool p)⟩
      cases h2 with
      | str z => exact .inl ⟨z, rfl⟩
      | obj h' hl' hr' =>
        have e := beq_iff_eq.mp c
        subst e
        exact .inr ⟨_, _, _, rfl, r.fz _ _ h'⟩
      | _ => cases c
    · rw [if_neg c] at p
      exact p.elim
  | _ => exact p.elim
/-- what the written part says of the class, for == and != -/
structure EqC (K : Kt) (cn : Nat) : Prop where
  ne : PySem.W.findIn K.K (.ref (K.κ cn)) "__ne__" = some (some (.builtin "object.__ne__"))
  ob : PySem.W.mroIn K.K (K.κ cn) (.type "object") = some true
  st : PySem.W.subIn K.K (.type "str") (.ref (K.κ cn)) = some false
theorem de_eqO (d : DefM X.prog X.w G.K X.mg X.base cn "__eq__" k ps fn) (hp : ps.length = 2) (T : EqC G.K cn) (hK : X.K = G.K.K) (hW : Flat W) (tk : Takes X W) (hr : Room k X.A) (ha : PE X a (tE G W fa)) (hb : PE X b (tE G W fb)) : PE X (.Compare a [.Eq] [b] pos) (tE G W (eOp (gCmpO false cn fn) fa fb)) := by
  obtain ⟨f, fd, h1, h2, h3, h4⟩ := d.ex
  rw [hp, ← hK] at h4
  rw [← hK] at h1 h2 h3
  exact de_cmp (run_eqO h4 h1 h2 h3 (hK ▸ T.st) hW tk hr) v2_cmpO ha hb (nomark _)
theorem dt_eqO (d : DefM X.prog X.w G.K X.mg X.base cn "__eq__" k ps fn) (hp : ps.length = 2) (T : EqC G.K cn) (hK : X.K = G.K.K) (hW : Flat W) (tk : Takes X W) (hr : Room k X.A) (ha : PE X a (tE G W fa)) (hb : PE X b (tE G W fb)) : PT X (.Compare a [.Eq] [b] pos) (tTs G W (tCmp' (gCmpO false cn fn) fa fb)) := by
  obtain ⟨f, fd, h1, h2, h3, h4⟩ := d.ex
  rw [hp, ← hK] at h4
  rw [← hK] at h1 h2 h3
  exact dt_cmp (run_eqO h4 h1 h2 h3 (hK ▸ T.st) hW tk hr) v2_cmpO ha hb (nomark _)
theorem dt_neO (d : DefM X.prog X.w G.K X.mg X.base cn "__eq__" k ps fn) (hp : ps.length = 2) (T : EqC G.K cn) (hK : X.K = G.K.K) (hW : Flat W) (tk : Takes X W) (hr : Room (k + 1) X.A) (ha : PE X a (tE G W fa)) (hb : PE X b (tE G W fb)) : PT X (.Compare a [.NotEq] [b] pos) (tTs G W (tCmp' (gCmpO true cn fn) fa fb)) := by
  obtain ⟨f, fd, h1, h2, h3, h4⟩ := d.ex
  rw [hp, ← hK] at h4
  rw [← hK] at h1 h2 h3
  exact dt_cmp (run_neO h4 h1 (hK ▸ T.ne) (hK ▸ T.ob) h2 h3 (hK ▸ T.st) hW tk hr) v2_cmpO ha hb (nomark _)
/-! ### str(o) -/
def strO (d : D) (c : List Cell) : Out D := match d with
  | .str y => .ok (.str y) c
  | _ => .no
def hStrO (cn : Nat) (fn : Fn) : FB := fun cs xs => match xs with
  | [.obj C ks ds] => if C = cn then (callV 0 fn [.obj C ks ds] cs).bind strO else .no
  | _ => .no
theorem call_strO (d : DefM X.prog X.w G.K X.mg X.base cn "__str__" k ps fn) (hp : ps.length = 1) (hK : X.K = G.K.K) (hW : Flat W) (tk : Takes X W) (hr : Room (k + 2) X.A) : CallR X (.type "str") (fun xs H Q => ∃ σ0, rStrO (G.K.κ cn) (spF G.K 1 fn) W σ0 xs H Q) := by
  obtain ⟨f, fd, h1, h2, h3, h4⟩ := d.ex
  rw [hp, ← hK] at h4
  rw [← hK] at h1 h2 h3
  intro pins s σ H xs us Q I r ⟨σ0, q⟩
  refine run_strO h4 h1 h2 h3 tk hr I r ?_
  obtain ⟨a, dx, fs, rfl, ha, hsp⟩ := q
  refine ⟨a, dx, fs, rfl, ha, ?_⟩
  obtain ⟨ρ0, F0, ds, cs, r0, rv, hl, po⟩ := hsp
  refine ⟨ρ0, F0, ds, cs, r0, rv, hl, ?_⟩
  cases e : fn ds cs with
  | ok d cs' => rw [e] at po; exact po
  | ex d cs' => rw [e] at po; exact fun ρ F H cls dx x r xa => hW _ _ _ _ _ (po ρ F H cls dx x r xa)
  | no => rw [e] at po; exact po
theorem vn_strO : VN G W (fun xs H Q => ∃ σ0, rStrO (G.K.κ cn) (spF G.K 1 fn) W σ0 xs H Q) (hStrO cn fn) := by
  intro ρ F st σ H ds vs Q r rv p
  unfold hStrO at p
  split at p
  · rename_i C ks ds
    cases rv with
    | cons h1 h2 =>
      cases h2
      cases h1 with
      | obj h hl hr =>
        by_cases c : C = cn
        · subst c
          rw [if_pos rfl] at p
          refine ⟨σ, _, _, _, rfl, r.fz _ _ h, callV_of (m := 1) (n := 0) (fn := fn) r (.cons (.obj h hl hr) .nil) rfl ?_⟩
          cases o : callV 0 fn [.obj C ks ds] st.cs with
          | ok d cs =>
            rw [o] at p
            cases d with
            | str y =>
              intro ρ' F' H' v x r rv
              cases rv
              exact ⟨⟨y, rfl⟩, p ρ' F' H' _ x r (.str _)⟩
            | _ => exact p.elim
          | ex e cs => rw [o] at p; exact p
          | no => rw [o] at p; exact p
        · rw [if_neg c] at p
          exact p.elim
  · exact p.elim
end
end VL

/-! VLX6: texts, starred displays, all -/
namespace VL
open PySem L2 PyProof.Rows
section
variable {X : Cx} {G : Gx} {W : WX} {e a : Expr} {es : List Expr} {fa fb : Ex} {g : Ax} {pos p apos : Pos}
def aStar (fa : Ex) (g : Ax) : Ax := fun st => (fa st).bind fun x c1 => match seqOf c1 x with
  | some xs => (g ⟨st.env, c1⟩).bind fun ys c2 => .ok (xs ++ ys) c2
  | none => .no
theorem da_star (hK : X.K = G.K.K) (h : PE X e (tE G W fa)) (hr : PA X es (tAs G W g)) (hs : starEach (.Starred e p :: es) X.env = (true, eval e X.env) :: starEach es X.env := by rfl) : PA X (.Starred e p :: es) (tAs G W (aStar fa g)) := by
  refine (StX.pa_star h hr hs).impV fun σ H Q ⟨ρ, F, st, r, po⟩ => seqX r po fun ρ1 F1 H1 x c1 v x1 r1 rv1 p1 => ?_
  cases q : seqOf c1 x with
  | none => rw [q] at p1; exact p1.elim
  | some xs =>
    rw [q] at p1
    obtain ⟨a, vs, rfl, hsq, rvs⟩ := seq_read (st := ⟨st.env, c1⟩) r1 rv1 q
    rw [hK]
    refine ⟨a, vs, rfl, hsq.symm, ?_⟩
    exact seqX (st := ⟨st.env, c1⟩) r1 p1 fun ρ2 F2 H2 ys c2 ws x2 r2 rv2 p2 => p2.here (st := ⟨st.env, c2⟩) r2 ((rvs.ext x2).append rv2)
def strsOf : List D → Option (List Str)
  | [] => some []
  | .str x :: r => (strsOf r).map (x :: ·)
  | _ => none
theorem strs_read {K : Kt} {ρ : List Addr} {F : Hp} : ∀ {ds : List D} {vs : List V} {ys : List Str}, RVs K ρ F ds vs → strsOf ds = some ys → vs = ys.map V.str
  | [], _, _, .nil, h => by cases h; rfl
  | d :: ds, _, ys, .cons hd hr, h => by
    cases d with
    | str x =>
      have h : (strsOf ds).map (x :: ·) = some ys := h
      cases q : strsOf ds with
      | none => rw [q] at h; cases h
      | some zs =>
        rw [q] at h
        cases h
        cases hd
        rw [strs_read hr q]
        rfl
    | _ => cases h
/-- a text's method with one argument -/
def eMS (g : Str → List Cell → D → Out D) (fa fb : Ex) : Ex := fun st => (fa st).bind fun x c1 => match x with
  | .str z => (fb ⟨st.env, c1⟩).bind fun y c2 => g z c2 y
  | _ => .no
theorem tM1_of {r : V → List V → Hp → VK → Prop} {g : Str → List Cell → D → Out D} (h : ∀ (ρ : List Addr) (F : Hp) (st : S) (σ : L2.St) (H : Hp) (z : Str) (y : D) (w : V) (Q : VK), Rel G ρ F st σ H → RV G.K ρ F y w → Post RV G W ρ F st.env σ Q (g z st.cs y) → r (.str z) [w] H Q) : ∀ σ H Q, tE G W (eMS g fa fb) σ H Q → tM1 r (tE G W fa) (tE G W fb) σ H Q := by
  intro σ H Q ⟨ρ, F, st, r', po⟩
  refine seqX r' po fun ρ1 F1 H1 x c1 v x1 r1 rv1 p1 => ?_
  cases rv1 with
  | str z => exact ⟨⟨z, rfl⟩, seqX (st := ⟨st.env, c1⟩) r1 p1 fun ρ2 F2 H2 y c2 w x2 r2 rv2 p2 => h ρ2 F2 ⟨st.env, c2⟩ σ H2 z y w Q r2 rv2 p2⟩
  | _ => exact p1.elim
def joinOk (a : Str) (ys : List Str) : Bool := decide ((ys.map (·.length)).sum + ys.length * a.length ≤ 16777216)
def gJoin (z : Str) (cs : List Cell) (y : D) : Out D := match seqOf cs y with
  | some ds => (match strsOf ds with
    | some ys => if joinOk z ys then .ok (.str (Txt.join z ys)) cs else .no
    | none => .no)
  | none => .no
theorem de_join (hK : X.K = G.K.K) (ho : PE X a (tE G W fa)) (he : PE X e (tE G W fb)) (hs : starEach [e] X.env = [(false, eval e X.env)] := by rfl) (hbase : attributeBase a "join" X.env (eval a X.env) = eval a X.env := by rfl) (hline : (apos.endLine == pos.line) = true := by rfl) :
    PE X (.Call (.Attribute a "join" apos) [e] [] pos) (tE G W (eMS gJoin fa fb)) := by
  refine (pe_join ho he hs hbase hline).impV (tM1_of fun ρ F st σ H z y w Q r rv p => ?_)
  unfold gJoin at p
  cases q : seqOf st.cs y with
  | none => rw [q] at p; exact p.elim
  | some ds =>
    rw [q] at p
    obtain ⟨b, vs, rfl, hsq, rvs⟩ := seq_read r rv q
    cases q2 : strsOf ds with
    | none => simp only [q2] at p; exact p.elim
    | some ys =>
      simp only [q2] at p
      have ev := strs_read rvs q2
      subst ev
      by_cases c : joinOk z ys = true
      · rw [if_pos c] at p
        exact ⟨z, b, ys, rfl, rfl, by rw [hK]; exact hsq, of_decide_eq_true c, p.here r (.str _)⟩
      · rw [if_neg c] at p
        exact p.elim
def gSplit (z : Str) (cs : List Cell) (y : D) : Out D := match y with
  | .str b => if (b.length == 0) = false ∧ z.length + 2 ≤ 16777216 then .ok (.lst ((Txt.split z b).map .str)) cs else .no
  | _ => .no
theorem rvs_strs {K : Kt} {ρ : List Addr} {F : Hp} : ∀ {ys : List Str}, RVs K ρ F (ys.map D.str) (ys.map V.str)
  | [] => .nil
  | y :: ys => .cons (.str y) rvs_strs
theorem de_split (ho : PE X a (tE G W fa)) (he : PE X e (tE G W fb)) (hs : starEach [e] X.env = [(false, eval e X.env)] := by rfl) (hbase : attributeBase a "split" X.env (eval a X.env) = eval a X.env := by rfl) (hline : (apos.endLine == pos.line) = true := by rfl) :
    PE X (.Call (.Attribute a "split" apos) [e] [] pos) (tE G W (eMS gSplit fa fb)) := by
  refine (pe_split ho he hs hbase hline).impV (tM1_of fun ρ F st σ H z y w Q r rv p => ?_)
  unfold gSplit at p
  cases rv with
  | str b =>
    dsimp only at p
    by_cases c : (b.length == 0) = false ∧ z.length + 2 ≤ 16777216
    · rw [if_pos c] at p
      refine ⟨z, b, rfl, rfl, c.1, line_of c.2, fun q hq => ?_⟩
      obtain ⟨x3, r3⟩ := r.fresh (o := .lst ((Txt.split z b).map V.str)) hq
      exact p _ _ _ _ x3 r3 (.lst upd_same rvs_strs)
    · rw [if_neg c] at p
      exact p.elim
  | _ => exact p.elim
/-! ### int(text), str(int), str(text), all -/
def hIntS : FB := fun cs xs => match xs with
  | [.str z] => (match PySem.intText? z with
    | some n => if z.length ≤ 640 then .ok (.int n) cs else .no
    | none => .no)
  | _ => .no
theorem de_intS (hg : Gl X "int") (hm : X.mg "int" = none) (ha : PA X (e :: es) (tAs G W g)) (he : starEach (e :: es) X.env = (false, eval e X.env) :: starEach es X.env := by rfl) (hpl : (backTo pos (starEach es X.env)).any (·.1) = false := by rfl) : PE X (.Call (.Name "int" p) (e :: es) [] pos) (tE G W (eB hIntS g)) := by
  refine de_callTy call_int_str ?_ hg hm boot_int ha (he := he) (hpl := hpl)
  intro ρ F st σ H ds vs Q r rv p
  unfold hIntS at p
  split at p
  · rename_i z
    cases rv with
    | cons h1 h2 =>
      cases h2
      cases h1
      cases q : PySem.intText? z with
      | none => rw [q] at p; exact p.elim
      | some n =>
        rw [q] at p
        dsimp only at p
        by_cases c : z.length ≤ 640
        · rw [if_pos c] at p
          exact ⟨z, n, rfl, q, c, p.here r (.int _)⟩
        · rw [if_neg c] at p
          exact p.elim
  · exact p.elim
def hStrI : FB := fun cs xs => match xs with
  | [.int i] => if i.natAbs.log2 < 1920 then .ok (.str (toString i)) cs else .no
  | _ => .no
theorem de_strI (hg : Gl X "str") (hm : X.mg "str" = none) (ha : PA X (e :: es) (tAs G W g)) (he : starEach (e :: es) X.env = (false, eval e X.env) :: starEach es X.env := by rfl) (hpl : (backTo pos (starEach es X.env)).any (·.1) = false := by rfl) : PE X (.Call (.Name "str" p) (e :: es) [] pos) (tE G W (eB hStrI g)) := by
  refine de_callTy call_str_int ?_ hg hm boot_str ha (he := he) (hpl := hpl)
  intro ρ F st σ H ds vs Q r rv p
  unfold hStrI at p
  split at p
  · rename_i i
    cases rv with
    | cons h1 h2 =>
      cases h2
      cases h1
      by_cases c : i.natAbs.log2 < 1920
      · rw [if_pos c] at p
        exact ⟨i, rfl, c, p.here r (.str _)⟩
      · rw [if_neg c] at p
        exact p.elim
  · exact p.elim
def hStrS : FB := fun cs xs => match xs with
  | [.str z] => .ok (.str z) cs
  | _ => .no
theorem de_strS (hg : Gl X "str") (hm : X.mg "str" = none) (ha : PA X (e :: es) (tAs G W g)) (he : starEach (e :: es) X.env = (false, eval e X.env) :: starEach es X.env := by rfl) (hpl : (backTo pos (starEach es X.env)).any (·.1) = false := by rfl) : PE X (.Call (.Name "str" p) (e :: es) [] pos) (tE G W (eB hStrS g)) := by
  refine de_callTy SkE.call_str_str ?_ hg hm boot_str ha (he := he) (hpl := hpl)
  intro ρ F st σ H ds vs Q r rv p
  unfold hStrS at p
  split at p
  · rename_i z
    cases rv with
    | cons h1 h2 =>
      cases h2
      cases h1
      exact ⟨z, rfl, p.here r (.str _)⟩
  · exact p.elim
theorem de_strObj {cn k : Nat} {ps : List Str} {fn : Fn} (d : DefM X.prog X.w G.K X.mg X.base cn "__str__" k ps fn) (hp : ps.length = 1) (hK : X.K = G.K.K) (hW : Flat W) (tk : Takes X W) (hr : Room (k + 2) X.A) (hg : Gl X "str") (hm : X.mg "str" = none) (ha : PA X (e :: es) (tAs G W g)) (he : starEach (e :: es) X.env = (false, eval e X.env) :: starEach es X.env := by rfl) (hpl : (backTo pos (starEach es X.env)).any (·.1) = false := by rfl) : PE X (.Call (.Name "str" p) (e :: es) [] pos) (tE G W (eB (hStrO cn fn) g)) :=
  de_callTy (call_strO d hp hK hW tk hr) vn_strO hg hm boot_str ha (he := he) (hpl := hpl)
def boolsOf : List D → Option (List Bool)
  | [] => some []
  | .bl x :: r => (boolsOf r).map (x :: ·)
  | _ => none
theorem bools_read {K : Kt} {ρ : List Addr} {F : Hp} : ∀ {ds : List D} {vs : List V} {ys : List Bool}, RVs K ρ F ds vs → boolsOf ds = some ys → vs = ys.map V.bl
  | [], _, _, .nil, h => by cases h; rfl
  | d :: ds, _, ys, .cons hd hr, h => by
    cases d with
    | bl x =>
      have h : (boolsOf ds).map (x :: ·) = some ys := h
      cases q : boolsOf ds with
      | none => rw [q] at h; cases h
      | some zs =>
        rw [q] at h
        cases h
        cases hd
        rw [bools_read hr q]
        rfl
    | _ => cases h
def hAll : FB := fun cs xs => match xs with
  | [d] => (match lstOf cs d with
    | some ds => (match boolsOf ds with
      | some bs => .ok (.bl (bs.all id)) cs
      | none => .no)
    | none => .no)
  | _ => .no
theorem de_all (hK : X.K = G.K.K) (hc : X.calm = true) (hg : Gl X "all") (hm : X.mg "all" = none) (ha : PA X (e :: es) (tAs G W g)) (he : starEach (e :: es) X.env = (false, eval e X.env) :: starEach es X.env := by rfl) (hpl : (backTo pos (starEach es X.env)).any (·.1) = false := by rfl) : PE X (.Call (.Name "all" p) (e :: es) [] pos) (tE G W (eB hAll g)) := by
  refine de_callB (cr_all hc) ?_ hg hm boot_all ha (he := he) (hpl := hpl)
  intro ρ F st σ H ds vs Q r rv p
  unfold hAll at p
  split at p
  · rename_i d
    cases rv with
    | cons h1 h2 =>
      cases h2
      cases q : lstOf st.cs d with
      | none => rw [q] at p; exact p.elim
      | some ds =>
        rw [q] at p
        obtain ⟨b, vs, rfl, hsq, rvs⟩ := lst_read r h1 q
        cases q2 : boolsOf ds with
        | none => simp only [q2] at p; exact p.elim
        | some bs =>
          simp only [q2] at p
          have ev := bools_read rvs q2
          subst ev
          exact ⟨b, bs, rfl, by rw [hK]; exact hsq, p.here r (.bl _)⟩
  · exact p.elim
end
end VL

/-! VLX7: isinstance by a table of answers; chains -/
namespace VL
open PySem L2 PyProof.Rows
inductive Ty where
  | t (n : String)
  | c (C : Nat)
def Ty.val (K : Kt) : Ty → Value
  | .t n => .type n
  | .c C => .ref (K.κ C)
def tyG (cs : List Cell) : D → Option Ty
  | .obj C _ _ => some (.c C)
  | d => (tyD cs d).map .t
/-- what isinstance asks of an own class -/
structure InsC (K : PySem.W.Frag) (C : Addr) : Prop where
  cl : Cls K C
  ha : PySem.W.findIn K (.ref C) "__class__" = some (some (.builtin "object.__class__"))
  hn : PySem.W.specialIn K (.builtin "object.__class__") "__get__" = some (some (.builtin "getset_descriptor.__get__"))
  htk : PySem.W.takesIn K (.builtin "object.__class__") = some true
  hm : PySem.W.mroIn K C (.type "object") = some true
/-- the answers of isinstance(x, u) by x's type -/
def AnsOk (K : Kt) (u : Value) (ans : Ty → Option Bool) : Prop := ∀ t b, ans t = some b → PySem.W.kitOne K.K (t.val K) u = some b ∧ ∀ C, t = .c C → InsC K.K (K.κ C)
def gIsiG (ans : Ty → Option Bool) : F1 := fun cs x => match tyG cs x with
  | some t => (match ans t with
    | some k => .ok (.bl k) cs
    | none => .no)
  | none => .no
section
variable {X : Cx} {G : Gx} {W : WX} {e a b c : Expr} {es : List Expr} {fa fb fc : Ex} {g : Ax} {pos p p1 p2 : Pos} {ans : Ty → Option Bool} {x : Str}
theorem tyX_G {ρ : List Addr} {F : Hp} {st : S} {σ : L2.St} {H : Hp} {x : D} {v : V} {t : Ty} (r : Rel G ρ F st σ H) (h : RV G.K ρ F x v) (e : tyG st.cs x = some t) (hi : ∀ C, t = .c C → InsC G.K.K (G.K.κ C)) : TyX G.K.K H v (t.val G.K) := by
  have other : ∀ {y : D}, RV G.K ρ F y v → (tyD st.cs y).map Ty.t = some t → TyX G.K.K H v (t.val G.K) := by
    intro y hy e
    cases q : tyD st.cs y with
    | none => rw [q] at e; cases e
    | some n =>
      rw [q] at e
      cases e
      exact tyX_of r hy q
  cases h with
  | obj h1 h2 h3 =>
    cases e
    have i := hi _ rfl
    exact .base (.ins (r.fz _ _ h1) i.cl i.ha i.hn i.htk i.hm)
  | cls C => exact other (.cls C) e
  | non => exact other .non e
  | bl b => exact other (.bl b) e
  | int i => exact other (.int i) e
  | str z => exact other (.str z) e
  | tup h1 h2 => exact other (.tup h1 h2) e
  | lst h1 h2 => exact other (.lst h1 h2) e
  | frl h1 h2 => exact other (.frl h1 h2) e
  | loc h1 => exact other (.loc h1) e
theorem isiG_of {u : Value} {cv : V} (hK : X.K = G.K.K) (k : ClsV cv u) (ha : AnsOk G.K u ans) : ∀ σ H Q, tE G W (eUn (gIsiG ans) fa) σ H Q → tE G W fa σ H fun v H1 => rIsi X.K [v, cv] H1 Q := by
  rintro σ H Q ⟨ρ, F, st, r, po⟩
  refine seqX r po fun ρ1 F1 H1 x c1 v x1 r1 rv1 p1 => ?_
  unfold gIsiG at p1
  cases q : tyG c1 x with
  | none => rw [q] at p1; exact p1.elim
  | some t =>
    rw [q] at p1
    simp only at p1
    cases q2 : ans t with
    | none => rw [q2] at p1; exact p1.elim
    | some kk =>
      rw [q2] at p1
      rw [hK]
      obtain ⟨h1, h2⟩ := ha t kk q2
      exact ⟨v, cv, t.val G.K, u, kk, rfl, k, tyX_G (st := ⟨st.env, c1⟩) r1 rv1 q h2, h1, p1.here (st := ⟨st.env, c1⟩) r1 (.bl _)⟩
theorem de_isiB {T : String} (hK : X.K = G.K.K) (hans : AnsOk G.K (.type T) ans) (hg : Gl X "isinstance") (hm : X.mg "isinstance" = none) (hgT : Gl X x) (hmT : X.mg x = none) (hbT : bootBuiltins x = some (.type T)) (ha : PE X a (tE G W fa)) (hn : x ≠ "__name__" := by decide) (hd : (x == ("__debug__" : Str)) = false := by decide)
    (hs : starEach [a, .Name x p2] X.env = (false, eval a X.env) :: starEach [.Name x p2] X.env := by rfl) (hpl : (backTo pos (starEach [.Name x p2] X.env)).any (·.1) = false := by rfl) (hs2 : starEach [.Name x p2] X.env = (false, eval (.Name x p2) X.env) :: starEach [] X.env := by rfl) :
    PE X (.Call (.Name "isinstance" p1) [a, .Name x p2] [] pos) (tE G W (eUn (gIsiG ans) fa)) := by
  have hT : PE X (.Name x p2) (tC (.ty T)) := pe_bltn hgT hmT hbT rfl hn hd
  exact (pe_callB call_isi hg hm boot_isinstance (pa_cons ha (pa_cons hT pa_nil hs2) hs) (he := hs) (hpl := hpl)).impV (isiG_of hK (.ty T) hans)
theorem de_isiO {C2 : Addr} (hK : X.K = G.K.K) (hans : AnsOk G.K (.ref C2) ans) (hg : Gl X "isinstance") (hm : X.mg "isinstance" = none) (hgT : Gl X x) (hmT : X.mg x = some (.ref C2)) (ha : PE X a (tE G W fa)) (hd : (x == ("__debug__" : Str)) = false := by decide)
    (hs : starEach [a, .Name x p2] X.env = (false, eval a X.env) :: starEach [.Name x p2] X.env := by rfl) (hpl : (backTo pos (starEach [.Name x p2] X.env)).any (·.1) = false := by rfl) (hs2 : starEach [.Name x p2] X.env = (false, eval (.Name x p2) X.env) :: starEach [] X.env := by rfl) :
    PE X (.Call (.Name "isinstance" p1) [a, .Name x p2] [] pos) (tE G W (eUn (gIsiG ans) fa)) := by
  have hT : PE X (.Name x p2) (tC (.ref C2)) := pe_glob hgT hmT rfl hd
  exact (pe_callB call_isi hg hm boot_isinstance (pa_cons ha (pa_cons hT pa_nil hs2) hs) (he := hs) (hpl := hpl)).impV (isiG_of hK (.own C2) hans)
/-! ### a < b < c -/
def tChn (g1 g2 : F2) (fa fb fc : Ex) : Tx := fun st => (fa st).bind fun x c1 => (fb ⟨st.env, c1⟩).bind fun y c2 => (g1 c2 x y).bind fun d c3 => match d with
  | .bl true => (fc ⟨st.env, c3⟩).bind fun z c4 => (g2 c4 y z).bind fun d' c5 => (match d' with
    | .bl k => .ok k c5
    | _ => .no)
  | .bl false => .ok false c3
  | _ => .no
theorem dt_chain {op op' : CmpOp} {r r' : R2} {g1 g2 : F2} (ho : OpR X (compareOp op) r) (ho' : OpR X (compareOp op') r') (hv : V2 G W r g1) (hv' : V2 G W r' g2) (ha : PE X a (tE G W fa)) (hb : PE X b (tE G W fb)) (hc : PE X c (tE G W fc)) (hm : lastMarks [op, op'] [b, c] = false := by with_unfolding_all rfl) :
    PT X (.Compare a [op, op'] [b, c] pos) (tTs G W (tChn g1 g2 fa fb fc)) := by
  refine (pt_chain ho ho' ha hb hc hm).impV ?_
  rintro σ H Q ⟨ρ, F, st, r0, po⟩
  refine seqX r0 po fun ρ1 F1 H1 x c1 v x1 r1 rv1 p1 => seqX (st := ⟨st.env, c1⟩) r1 p1 fun ρ2 F2 H2 y c2 w x2 r2 rv2 p2 => ?_
  refine hv ρ2 F2 ⟨st.env, c2⟩ σ H2 x y v w _ r2 (rv1.ext x2) rv2 ?_
  show Post RV G W ρ2 F2 st.env σ _ (g1 c2 x y)
  cases q : g1 c2 x y with
  | no => rw [q] at p2; exact p2.elim
  | ex e cs => rw [q] at p2; exact p2
  | ok d c3 =>
    rw [q] at p2
    intro ρ3 F3 H3 z x3 r3 rv3
    cases d with
    | bl k =>
      cases rv3
      refine ⟨k, rfl, ?_⟩
      cases k with
      | false => exact ⟨false, rfl, p2 ρ3 F3 H3 false x3 r3 rfl⟩
      | true =>
        have p3 := Post.ext x3 p2
        refine seqX (st := ⟨st.env, c3⟩) r3 p3 fun ρ4 F4 H4 z c4 u x4 r4 rv4 p4 => ?_
        refine hv' ρ4 F4 ⟨st.env, c4⟩ σ H4 y z w u _ r4 ((rv2.ext x3).ext x4) rv4 ?_
        show Post RV G W ρ4 F4 st.env σ _ (g2 c4 y z)
        cases q4 : g2 c4 y z with
        | no => rw [q4] at p4; exact p4.elim
        | ex e cs => rw [q4] at p4; exact p4
        | ok d5 c5 =>
          rw [q4] at p4
          intro ρ5 F5 H5 z5 x5 r5 rv5
          cases d5 with
          | bl k5 =>
            cases rv5
            exact ⟨k5, rfl, p4 ρ5 F5 H5 k5 x5 r5 rfl⟩
          | _ => exact p4.elim
    | _ => exact p2.elim
end
end VL

/-! VLX8: x in a sequence of data of any depth -/
namespace VL
open PySem L2 PyProof.Rows
section
variable {X : Cx} {G : Gx} {W : WX} {a b : Expr} {fa fb : Ex} {pos : Pos}
def rInT (neg : Bool) (K : PySem.W.Frag) : R2 := fun x y H Q => ∃ d ds, Dp K H x d ∧ Dp K H y (.tuple ds) ∧ SeqAt.shaped d = true ∧ SeqAt.shaped (.tuple ds) = true ∧ Q (.bl (if neg then !(ds.any fun z => PyData.eqv z d) else ds.any fun z => PyData.eqv z d)) H
theorem op_inT (hu : X.A.units + 65 < cLine) : OpR X (compareOp .In) (rInT false X.K) := by
  intro pins s σ H x y v u Q I rx ry h
  obtain ⟨d, ds, hd, he, sd, se, q⟩ := h
  obtain ⟨as, r1⟩ := Dp.reads I d x v hd rx
  obtain ⟨bs, r2⟩ := Dp.reads I (.tuple ds) y u he ry
  exact SeqAt.in_tuple_reads r2 r1 (SeqAt.canLay_of_shaped se) (SeqAt.canLay_of_shaped sd) (room_in_shaped sd hu) ⟨.bl _, H, I, rfl, q⟩
theorem op_notInT (hu : X.A.units + 65 < cLine) : OpR X (compareOp .NotIn) (rInT true X.K) := by
  intro pins s σ H x y v u Q I rx ry h
  obtain ⟨d, ds, hd, he, sd, se, q⟩ := h
  obtain ⟨as, r1⟩ := Dp.reads I d x v hd rx
  obtain ⟨bs, r2⟩ := Dp.reads I (.tuple ds) y u he ry
  exact SeqAt.notIn_tuple_reads r2 r1 (SeqAt.canLay_of_shaped se) (SeqAt.canLay_of_shaped sd) (room_in_shaped sd hu) ⟨.bl _, H, I, rfl, q⟩
def gInT (neg : Bool) : F2 := fun cs x y => match y with
  | .tup ds => if VL.plain (norm cs x) && SeqAt.shaped (py (norm cs x)) && plains ds && SeqAt.shaped (.tuple (pys ds)) then .ok (.bl (if neg then !((pys ds).any fun z => PyData.eqv z (py (norm cs x))) else (pys ds).any fun z => PyData.eqv z (py (norm cs x)))) cs else .no
  | _ => .no
theorem v2_inT {neg : Bool} : V2 G W (rInT neg G.K.K) (gInT neg) := by
  intro ρ F st σ H x y v w Q r h1 h2 p
  unfold gInT at p
  cases y with
  | tup ds =>
    dsimp only at p
    by_cases c : (VL.plain (norm st.cs x) && SeqAt.shaped (py (norm st.cs x)) && plains ds && SeqAt.shaped (.tuple (pys ds))) = true
    · rw [if_pos c] at p
      simp only [Bool.and_eq_true] at c
      refine ⟨_, _, dp_norm r h1 c.1.1.1, dp_norm (x := .tup ds) r h2 (by show VL.plain (.tup ds) = true; unfold VL.plain; exact c.1.2), c.1.1.2, c.2, p.here r (.bl _)⟩
    · rw [if_neg c] at p
      exact p.elim
  | _ => exact p.elim
theorem dt_notinT (hK : X.K = G.K.K) (hu : X.A.units + 65 < cLine) (ha : PE X a (tE G W fa)) (hb : PE X b (tE G W fb)) (hm : behindInMarks .NotIn b = false) : PT X (.Compare a [.NotIn] [b] pos) (tTs G W (tCmp' (gInT true) fa fb)) := dt_cmp (op_notInT hu) (by rw [hK]; exact v2_inT) ha hb hm
theorem dt_inT (hK : X.K = G.K.K) (hu : X.A.units + 65 < cLine) (ha : PE X a (tE G W fa)) (hb : PE X b (tE G W fb)) (hm : behindInMarks .In b = false) : PT X (.Compare a [.In] [b] pos) (tTs G W (tCmp' (gInT false) fa fb)) := dt_cmp (op_inT hu) (by rw [hK]; exact v2_inT) ha hb hm
end
end VL

/-! VLX9: classmethods; a class that a local name holds is called -/
namespace VL
open PySem L2 PyProof.Rows
section
variable {X : Cx} {G : Gx} {W : WX} {o e : Expr} {es : List Expr} {g : Ax} {pos p apos : Pos} {x : Str} {cn k i n : Nat} {fn : Fn} {f : Addr} {fd : FuncData} {ps : List Str}
theorem pe_makeL {CX : CXT} {C : Addr} {sp : Sp} {E : XK} {t : TA} (M : Mk X.K C f) (F : FnOk X.prog X.w X.K X.mg X.base CX k f fd ps sp) (hr : Room (k + 1) X.A) (hN : X.N[i]? = some x) (hv : Vis X.env.scope x) (hb : Binds X.K fd ps []) (hx : Passes CX X E) (ha : PA X (e :: es) t)
    (hdb : (x == ("__debug__" : Str)) = false := by decide) (hcd : (x == ("__classdict__" : Str)) = false := by decide) (he : starEach (e :: es) X.env = (false, eval e X.env) :: starEach es X.env := by rfl) (hpl : (backTo pos (starEach es X.env)).any (·.1) = false := by rfl) :
    PE X (.Call (.Name x p) (e :: es) [] pos) (fun σ H Q => σ[i]? = some (some (.ref C)) ∧ tMake C sp [] E t σ H Q) := by
  refine ⟨fun pins s σ H Q I h => ?_⟩
  refine wpAny_Call_Name_kw (thn ((pe_var (pos := p) hN hv hdb hcd).run pins s σ H (fun v H1 => v = .ref C ∧ H1 = H) I ⟨.ref C, h.1, rfl, rfl⟩) fun u s1 ⟨v, H1, I1, r1, q1⟩ => ?_)
  obtain ⟨e1, e2⟩ := q1
  subst e1 e2
  obtain rfl : u = Value.ref C := r1
  refine PySem.W.callWith_K (h₀ := X.base) I1.ok.mod.kin M.kp (thn (ha.run pos pins s1 σ _ _ I1 h.2) fun us s2 ⟨vs, H2, I2, r, q⟩ => ⟨I2.kIn, ?_⟩) he hpl
  exact run_make M F hr hb .nil hx I2 r q
def eMakeL (i cn : Nat) (fn : Fn) (g : Ax) : Ex := fun st => match st.env[i]? with
  | some (some (.cls c)) => if c = cn then (g st).bind fun ds c1 => makeD cn fn ds c1 else .no
  | _ => .no
theorem de_makeL (hW : Flat W) (tk : Takes X W) (M : Mk X.K (G.K.κ cn) f) (hF : FnOk X.prog X.w X.K X.mg X.base (L2.CX X.prog X.w) k f fd ps (spF G.K ps.length fn)) (hr : Room (k + 1) X.A) (hN : X.N[i]? = some x) (hv : Vis X.env.scope x) (hb : Binds X.K fd ps [])
    (ha : PA X (e :: es) (tAs G W g)) (hlen : ∀ st ds c1, g st = .ok ds c1 → ds.length + 1 = ps.length) (hdb : (x == ("__debug__" : Str)) = false := by decide) (hcd : (x == ("__classdict__" : Str)) = false := by decide) (he : starEach (e :: es) X.env = (false, eval e X.env) :: starEach es X.env := by rfl) (hpl : (backTo pos (starEach es X.env)).any (·.1) = false := by rfl) :
    PE X (.Call (.Name x p) (e :: es) [] pos) (tE G W (eMakeL i cn fn g)) := by
  refine (pe_makeL M hF hr hN hv hb (passF tk hW) ha hdb hcd he hpl).impV ?_
  rintro σ H Q ⟨ρ, F, st, r, po⟩
  unfold eMakeL at po
  cases q0 : st.env[i]? with
  | none => rw [q0] at po; exact po.elim
  | some oo =>
    cases oo with
    | none => rw [q0] at po; exact po.elim
    | some d =>
      cases d with
      | cls c =>
        rw [q0] at po
        dsimp only at po
        by_cases hc : c = cn
        · subst hc
          rw [if_pos rfl] at po
          obtain ⟨v, e1, e2⟩ := r.env i _ q0
          cases e2
          refine ⟨e1, ρ, F, st, r, ?_⟩
          cases q : g st with
          | no => rw [q] at po; exact po.elim
          | ex e' cs => rw [q] at po; exact po
          | ok ds c1 =>
            rw [q] at po
            have po : Post RV G W ρ F st.env σ Q (makeD c fn ds c1) := po
            intro ρ1 F1 H1 vs x1 r1 rv1 x dx nx ndx ne
            rw [List.append_nil]
            exact make_of (st := ⟨st.env, c1⟩) hW r1 rv1 (hlen _ _ _ q) nx ndx ne (Post.ext x1 po)
        · rw [if_neg hc] at po
          exact po.elim
      | _ => rw [q0] at po; exact po.elim
theorem fnR_of {P : Program} {w : World} {K : PySem.W.Frag} {mg : Str → Option Value} {base : Heap} {CX : CXT} {sp : Sp} (F : FnOk P w K mg base CX k f fd ps sp) (hb : Binds K fd ps []) : FnR P w K mg base CX k f sp := fun A outer s H us vs Q E hr e0 r hs =>
  F.run A outer s H ⟨us, []⟩ us vs Q E hr e0 (by
    have hl := F.len _ _ _ _ hs
    rw [Paired.length r] at hl
    simpa using hb s us (e0.mod.kin.keeps fun b o z => (e0.bs b o z).1) (by simpa using hl)) r hs
theorem spF_flat {K : Kt} {m : Nat} {vs : List V} {H : Hp} {Q : VK} {σ σ' : L2.St} (hW : Flat W) (h : spF K m fn vs H Q (WE W σ)) : spF K m fn vs H Q (fun c d H => W c d σ' H) := by
  obtain ⟨ρ0, F0, ds, cs, r0, rv, hl, po⟩ := h
  refine ⟨ρ0, F0, ds, cs, r0, rv, hl, ?_⟩
  cases e : fn ds cs with
  | ok d cs' => rw [e] at po; exact po
  | ex d cs' => rw [e] at po; exact fun ρ F H cls dx x r xa => hW _ _ _ _ _ (po ρ F H cls dx x r xa)
  | no => rw [e] at po; exact po
/-- C.m(..), m a classmethod -/
def eCMeth (n cn : Nat) (fn : Fn) (g : Ax) : Ex := fun st => (g st).bind fun ds c1 => callV n fn (.cls cn :: ds) c1
theorem de_cmeth {m : Str} {mc : Value} {pc : Addr} {pl : Sem Bool} (n : Nat) (hK : X.K = G.K.K) (hW : Flat W) (tk : Takes X W) (rc : ClX.CRead X.K (G.K.κ cn) mc) (c : ClX.CMet X.K (G.K.κ cn) mc m pc f) (hF : FnOk X.prog X.w X.K X.mg X.base (L2.CX X.prog X.w) k f fd ps (spF G.K ps.length fn)) (hb : Binds X.K fd ps []) (hr : Room k X.A)
    (hg : Gl X x) (hm : X.mg x = some (.ref (G.K.κ cn))) (ha : PA X (e :: es) (tAs G W g)) (hlen : ∀ st ds c1, g st = .ok ds c1 → ds.length + 1 = ps.length) (hdb : (x == ("__debug__" : Str)) = false := by decide) (hst : starEach (e :: es) X.env = (false, eval e X.env) :: starEach es X.env := by rfl) (hpl : (backTo pos (starEach es X.env)).any (·.1) = false := by rfl)
    (ht : eval (.Call (.Attribute (.Name x p) m apos) (e :: es) [] pos) X.env = (do
      let ov ← eval (.Name x p) X.env
      standAt apos.atName
      let (f, first) ← holding [ov] (getMethod ov m pl)
      callWith pos f first (backTo pos (starEach (e :: es) X.env)) (backToKw pos (keywordEach [] X.env))) := by rfl) :
    PE X (.Call (.Attribute (.Name x p) m apos) (e :: es) [] pos) (tE G W (eCMeth n cn fn g)) := by
  have hC : PE X (.Name x p) (tC (.ref (G.K.κ cn))) := pe_glob hg hm rfl hdb
  refine (ClX.pe_cmeth (pl := pl) hC rc c (fnR_of hF hb) hr (passF tk hW) ha hst hpl ht).impV ?_
  rintro σ H Q ⟨ρ, F, st, r, po⟩
  unfold eCMeth at po
  refine ⟨rfl, ρ, F, st, r, ?_⟩
  cases q : g st with
  | no => rw [q] at po; exact po.elim
  | ex e' cs => rw [q] at po; exact po
  | ok ds c1 =>
    rw [q] at po
    have po : Post RV G W ρ F st.env σ Q (callV n fn (.cls cn :: ds) c1) := po
    exact fun ρ1 F1 H1 vs x1 r1 rv1 => spF_flat hW (callV_of (st := ⟨st.env, c1⟩) (m := ps.length) r1 (.cons (.cls cn) rv1) (by simpa using hlen _ _ _ q) (Post.ext x1 po))
end
end VL

/-! VLXA: methods of a class; new objects by keywords, by defaults -/
namespace VL
open PySem L2 PyProof.Rows
/-- the def `name` of the class cn is there -/
structure TxtM (K : Kt) (cn : Nat) (name qual : Str) (st : Stmt) (ps : List Str) : Prop where
  ex : ∃ (f : Addr) (fd : FuncData), PySem.W.findIn K.K (.ref (K.κ cn)) name = some (some (.ref f)) ∧ PySem.W.isFn K.K (.ref f) = true ∧ FunA K.K name qual st .none f fd ∧ Binds K.K fd ps []
section
variable {P : Program} {w : World} {K : Kt} {mg : Str → Option Value} {base : Heap} {x qual name : Str} {st : Stmt} {f : Addr} {fd : FuncData} {ps N : List Str} {k cn : Nat} {fn fn' : Fn} {body : Sx}
theorem mkDefM (t : TxtM K cn name qual st ps) (S : FnScope N ps (defScope st))
    (hbody : ∀ (f : Addr) (G : Gx), G.K = K → ∀ (cdv : Value) (A : Around) (outer : List Env) (s : Shared) (H : Hp) (E : XK), Room k (A.deeper (envOfC qual (defScope st) s.heap.objs.size f cdv)) →
      PSs (cxOf (L2.CX P w) P w K.K mg base N qual (defScope st) f cdv A outer s H E) (defBody st) (tS G (fun cls d _ H' => E cls d H') body)) :
    DefM P w K mg base cn name (k + 1) ps (runF N.length body) := by
  obtain ⟨f, fd, h1, h2, h3, h4⟩ := t.ex
  exact ⟨f, fd, h1, h2, h4, okA h3 S fun G e cdv A outer s H E hr => hbody f G e cdv A outer s H E hr⟩
theorem DefM.trim (d : DefM P w K mg base cn name k ps fn) : DefM P w K mg base cn name k ps (trimF fn) := by
  obtain ⟨f, fd, h1, h2, h3, h4⟩ := d.ex
  exact ⟨f, fd, h1, h2, h3, fnTrim h4⟩
/-- a classmethod -/
structure TxtCM (K : Kt) (mg : Str → Option Value) (x : Str) (cn : Nat) (name qual : Str) (st : Stmt) (ps : List Str) : Prop where
  ex : ∃ (f pc : Addr) (fd : FuncData) (mc : Value), mg x = some (.ref (K.κ cn)) ∧ ClX.CRead K.K (K.κ cn) mc ∧ ClX.CMet K.K (K.κ cn) mc name pc f ∧ FunA K.K name qual st .none f fd ∧ Binds K.K fd ps []
structure DefCM (P : Program) (w : World) (K : Kt) (mg : Str → Option Value) (base : Heap) (x : Str) (cn : Nat) (name : Str) (k : Nat) (ps : List Str) (fn : Fn) : Prop where
  ex : ∃ (f pc : Addr) (fd : FuncData) (mc : Value), mg x = some (.ref (K.κ cn)) ∧ ClX.CRead K.K (K.κ cn) mc ∧ ClX.CMet K.K (K.κ cn) mc name pc f ∧ Binds K.K fd ps [] ∧ FnOk P w K.K mg base (L2.CX P w) k f fd ps (spF K ps.length fn)
theorem mkDefCM (t : TxtCM K mg x cn name qual st ps) (S : FnScope N ps (defScope st))
    (hbody : ∀ (f : Addr) (G : Gx), G.K = K → ∀ (cdv : Value) (A : Around) (outer : List Env) (s : Shared) (H : Hp) (E : XK), Room k (A.deeper (envOfC qual (defScope st) s.heap.objs.size f cdv)) →
      PSs (cxOf (L2.CX P w) P w K.K mg base N qual (defScope st) f cdv A outer s H E) (defBody st) (tS G (fun cls d _ H' => E cls d H') body)) :
    DefCM P w K mg base x cn name (k + 1) ps (runF N.length body) := by
  obtain ⟨f, pc, fd, mc, h1, h2, h3, h4, h5⟩ := t.ex
  exact ⟨f, pc, fd, mc, h1, h2, h3, h5, okA h4 S fun G e cdv A outer s H E hr => hbody f G e cdv A outer s H E hr⟩
theorem DefCM.trim (d : DefCM P w K mg base x cn name k ps fn) : DefCM P w K mg base x cn name k ps (trimF fn) := by
  obtain ⟨f, pc, fd, mc, h1, h2, h3, h4, h5⟩ := d.ex
  exact ⟨f, pc, fd, mc, h1, h2, h3, h4, fnTrim h5⟩
end
section
variable {X : Cx} {G : Gx} {W : WX} {e : Expr} {es : List Expr} {g : Ax} {pos p apos : Pos} {x m : Str} {cn k i : Nat} {fn : Fn} {ps : List Str}
theorem de_cmethD {pl : Sem Bool} (n : Nat) (d : DefCM X.prog X.w G.K X.mg X.base x cn m k ps fn) (hK : X.K = G.K.K) (hW : Flat W) (tk : Takes X W) (hr : Room k X.A)
    (ha : PA X (e :: es) (tAs G W g)) (hlen : ∀ st ds c1, g st = .ok ds c1 → ds.length + 1 = ps.length) (hg : Gl X x := by rfl) (hdb : (x == ("__debug__" : Str)) = false := by decide) (hst : starEach (e :: es) X.env = (false, eval e X.env) :: starEach es X.env := by rfl) (hpl : (backTo pos (starEach es X.env)).any (·.1) = false := by rfl)
    (ht : eval (.Call (.Attribute (.Name x p) m apos) (e :: es) [] pos) X.env = (do
      let ov ← eval (.Name x p) X.env
      standAt apos.atName
      let (f, first) ← holding [ov] (getMethod ov m pl)
      callWith pos f first (backTo pos (starEach (e :: es) X.env)) (backToKw pos (keywordEach [] X.env))) := by rfl) :
    PE X (.Call (.Attribute (.Name x p) m apos) (e :: es) [] pos) (tE G W (eCMeth n cn fn g)) := by
  obtain ⟨f, pc, fd, mc, h1, h2, h3, h4, h5⟩ := d.ex
  rw [← hK] at h2 h3 h4 h5
  exact de_cmeth (pl := pl) n hK hW tk h2 h3 h5 h4 hr hg h1 ha hlen hdb hst hpl ht
theorem de_makeLD (d : DefC X.prog X.w G.K X.mg X.base x cn k ps fn) {y : Str} (hK : X.K = G.K.K) (hW : Flat W) (tk : Takes X W) (hr : Room (k + 1) X.A) (hN : X.N[i]? = some y) (hv : Vis X.env.scope y) (ha : PA X (e :: es) (tAs G W g)) (hlen : ∀ st ds c1, g st = .ok ds c1 → ds.length + 1 = ps.length)
    (hdb : (y == ("__debug__" : Str)) = false := by decide) (hcd : (y == ("__classdict__" : Str)) = false := by decide) (he : starEach (e :: es) X.env = (false, eval e X.env) :: starEach es X.env := by rfl) (hpl : (backTo pos (starEach es X.env)).any (·.1) = false := by rfl) :
    PE X (.Call (.Name y p) (e :: es) [] pos) (tE G W (eMakeL i cn fn g)) := by
  obtain ⟨f, fd, h1, h2, h3, h4⟩ := d.ex
  rw [← hK] at h2 h3 h4
  exact de_makeL hW tk h2 h4 hr hN hv h3 ha hlen hdb hcd he hpl
end
end VL

/-! VLXB: new objects by keywords alone, and with all defaults -/
namespace VL
open PySem L2 PyProof.Rows
section
variable {X : Cx} {G : Gx} {W : WX} {g : Ax} {pos p : Pos} {x : Str} {cn k : Nat} {fn : Fn} {f : Addr} {fd : FuncData} {ps ks : List Str} {kws : List Keyword}
/-- C(k = v, ..): the values by the parameters' places -/
def eMakeK (cn : Nat) (fn : Fn) (ix : List Nat) (g : Ax) : Ex := fun st => (g st).bind fun ds c1 => makeD cn fn (permD ix ds) c1
theorem de_makeK (ix : List Nat) (hW : Flat W) (tk : Takes X W) (M : Mk X.K (G.K.κ cn) f) (hF : FnOk X.prog X.w X.K X.mg X.base (L2.CX X.prog X.w) k f fd ps (spF G.K ps.length fn)) (hr : Room (k + 1) X.A) (hg : Gl X x) (hm : X.mg x = some (.ref (G.K.κ cn)))
    (hb : KBn X.K fd ps 1 ks (fun us ws => us ++ ix.map fun i => ws.getD i .none) (fun vs zs => vs ++ permV ix zs)) (hkw : PK X kws (tAs G W g)) (hlen : ∀ st ds c1, g st = .ok ds c1 → ds.length = ks.length) (hix : ∀ i ∈ ix, i < ks.length) (hixl : ix.length + 1 = ps.length)
    (hall : (backToKw pos (keywordEach kws X.env)).all (·.1.isSome) = true := by rfl) (hks : (backToKw pos (keywordEach kws X.env)).filterMap (·.1) = ks := by rfl) (hdb : (x == ("__debug__" : Str)) = false := by decide)
    (hpl : ((backTo pos (starEach [] X.env)).any (·.1) || (backToKw pos (keywordEach kws X.env)).any (·.1.isNone)) = false := by rfl) :
    PE X (.Call (.Name x p) [] kws pos) (tE G W (eMakeK cn fn ix g)) := by
  refine (pe_makeK0 M hF hr hg hm hb (passF tk hW) hkw hall hks hdb hpl).impV ?_
  rintro σ H Q ⟨ρ, F, st, r, po⟩
  unfold eMakeK at po
  refine ⟨ρ, F, st, r, ?_⟩
  cases q : g st with
  | no => rw [q] at po; exact po.elim
  | ex e' cs => rw [q] at po; exact po
  | ok ds c1 =>
    rw [q] at po
    have po : Post RV G W ρ F st.env σ Q (makeD cn fn (permD ix ds) c1) := po
    intro ρ1 F1 H1 vs x1 r1 rv1
    have hl := hlen _ _ _ q
    have hp := perm_rel rv1 ix fun i hi => by rw [hl]; exact hix i hi
    refine ⟨rfl, by rw [← rv1.length]; exact hl, ?_⟩
    intro y dx nx ndx ne
    exact make_of (st := ⟨st.env, c1⟩) hW r1 hp (by unfold permD; rw [List.length_map]; exact hixl) nx ndx ne (Post.ext x1 po)
/-- C(), every parameter by its default -/
def eMake0 (cn : Nat) (fn : Fn) (ds : List D) : Ex := fun st => makeD cn fn ds st.cs
theorem de_make0 {its : List Value} {dvs : List V} {ds : List D} (hW : Flat W) (tk : Takes X W) (M : Mk X.K (G.K.κ cn) f) (hF : FnOk X.prog X.w X.K X.mg X.base (L2.CX X.prog X.w) k f fd ps (spF G.K ps.length fn)) (hr : Room (k + 1) X.A) (hg : Gl X x) (hm : X.mg x = some (.ref (G.K.κ cn))) (hb : Binds X.K fd ps its) (hd : Vals dvs its)
    (hv : ∀ ρ F, RVs G.K ρ F ds dvs) (hl : ds.length + 1 = ps.length) (hdb : (x == ("__debug__" : Str)) = false := by decide) : PE X (.Call (.Name x p) [] [] pos) (tE G W (eMake0 cn fn ds)) := by
  refine (pe_make0 M hF hr hg hm hb hd (passF tk hW) hdb).impV ?_
  rintro σ H Q ⟨ρ, F, st, r, po⟩
  intro y dx nx ndx ne
  exact make_of hW r (hv ρ F) hl nx ndx ne po
end
end VL

/-! VLXC: an own exception class out of the written part's facts -/
namespace VL
open PySem L2 PyProof.Rows PySem.W
/-- the class at C: own classes, then ValueError's -/
def oexB (K : Frag) (C : Addr) : Bool := match K.lookup C with
  | some ⟨.type "type", _, .cls cd, sl⟩ => (match cd.mro, sl.toList with
    | .ref C1 :: bm, [_, _, _, _, some (.builtin b), _] => C1 == C && b == "ValueError.__new__" && (!cd.hasDel && (cd.hasDict && HandSPX.refsVE bm))
    | _, _ => false)
  | _ => false
theorem oex_of {K : Frag} {C : Addr} (h : oexB K C = true) (sa : findIn K (.ref C) "__setattr__" = some (some (.builtin "object.__setattr__"))) (exC : subIn K (.ref C) (.type "BaseException") = some true) (tyC : typeIn K (.ref C) = some (.type "type")) (kC : keepIn K (.ref C) = true) : OexC K C := by
  refine ⟨?_, sa, exC, tyC, kC⟩
  unfold oexB at h
  split at h
  · rename_i dd cd sl ho
    split at h
    · rename_i C1 bm k0 k1 k2 k3 b k5 e1 e2
      simp only [Bool.and_eq_true, beq_iff_eq, Bool.not_eq_true'] at h
      obtain ⟨⟨rfl, rfl⟩, hdel, hdi, ht⟩ := h
      obtain ⟨nm, bs, mro, ns, qn, hd, sn, sub, ab, col, del⟩ := cd
      dsimp only at e1 hdel hdi
      subst e1 hdel hdi
      have es : sl = #[k0, k1, k2, k3, some (.builtin "ValueError.__new__"), k5] := by
        obtain ⟨l⟩ := sl
        exact congrArg Array.mk e2
      subst es
      exact ⟨nm, qn, ns, bs, bm, sn, sub, ab, col, dd, k0, k1, k2, k3, k5, ho, ht⟩
    · cases h
  · cases h
section
variable {P : Program} {w : World} {K : Kt} {mg : Str → Option Value} {base : Heap} {x : Str} {cn : Nat} {f cc cda : Addr} {st : Stmt} {qual txt fld par : Str} {dV kV doc pm ct oc cl ccl : Value} {an od cld cdd : Option Addr} {osl csl ccs : Array (Option Value)} {vs0 : Array Value} {file : Str} {tf : Tok} {j : Nat} {p0 p1 p2 p3 p4 p5 p6 p7 p8 p9 : Pos} {ar : Arg}
theorem xc_of (lk : K.K.lookup f = some ⟨oc, od, .func (ksFn "__init__" qual (defArgs st) (defBody st) (defScope st) dV kV doc pm an (.ref cda) ct cc), osl⟩) (hcd : codeIn K.K (.ref cda) qual = true) (hcode : K.K.lookup cda = some ⟨ccl, cdd, .fields vs0, ccs⟩) (hvs : vs0[2]? = some (.str file tf)) (hfile : ((P.main.file : Str) == file) = true) (hcell : K.K.lookup cc = some ⟨cl, cld, .cell (some (.ref (K.κ cn))), csl⟩)
    (T : OexC K.K (K.κ cn)) (no : findIn K.K (.ref (K.κ cn)) fld = some none) (sup : ks_superIn K.K (K.κ cn) (K.κ cn) "__init__" = some (some (.builtin "ValueError.__init__"))) (mro : mroIn K.K (K.κ cn) (.ref (K.κ cn)) = some true) (ve : subIn K.K (.ref (K.κ cn)) (.type "ValueError") = some true) (any : nsIn K.K cStatics "thirdparty.any" = some none) (ms : mg "super" = none) (top : (P.main.scope.names.lookup ("super" : Str)).isSome = false)
    (hm : mg x = some (.ref (K.κ cn))) (hi : findIn K.K (.ref (K.κ cn)) "__init__" = some (some (.ref f))) (ht : typeIn K.K (.ref f) = some (.type "function"))
    (hbody : defBody st = [.Expr (.Call (.Attribute (.Call (.Name "super" p0) [] [] p1) "__init__" p2) [.Constant (.str txt) j p3] [] p4) p5, .Assign [.Attribute (.Name "self" p6) fld p7] (.Name par p8) p9])
    (hev : MethEv (.Call (.Name "super" p0) [] [] p1) "__init__" p2 [.Constant (.str txt) j p3] p4) (hp : ((defArgs st).posonlyargs ++ (defArgs st).args).head? = some ar) (har : ar.arg = "self") (hks : (defScope st).names.lookup ("super" : Str) = some .globalImplicit) (hkc : (defScope st).names.lookup ("__class__" : Str) = some .free) (hka : (defScope st).names.lookup ("self" : Str) = some .local) (hkp : (defScope st).names.lookup par = some .local)
    (hk : (defScope st).kind = .function) (hcells : ∀ x ∈ (defScope st).names, x.2 ≠ .cell) (hco : (defScope st).isCoroutine = false) (hgen : (defScope st).isGenerator = false) (hpar : par ≠ "self") (hdb : (par == ("__debug__" : Str)) = false)
    (hbind : ∀ us : List Value, us.length = 2 → bindArgs (ksFn "__init__" qual (defArgs st) (defBody st) (defScope st) dV kV doc pm an (.ref cda) ct cc) ⟨us, []⟩ = pure ([("self" : Str), par].zip us)) : Xc P w K mg base x cn fld := by
  refine ⟨f, _, ["self", par], hm, T, hi, ht, .all hbind, ?_⟩
  have S : SupI P K.K mg (K.κ cn) f (ksFn "__init__" qual (defArgs st) (defBody st) (defScope st) dV kV doc pm an (.ref cda) ct cc) fld := ⟨T, no, sup, mro, ve, any, ms, top, oc, cl, ccl, od, cld, cdd, osl, csl, ccs, vs0, file, tf, cc, cda, lk, rfl, rfl, hcd, hcode, hvs, hfile, hcell⟩
  rw [hbody] at S ⊢
  exact fn_super S hev hp har hks hkc hka hkp hk hcells hco hgen hpar hdb
end
end VL

/-! VLXD: new objects and classmethods where the wish hangs on the slots (a try's body) -/
namespace VL
open PySem L2 PyProof.Rows
section
variable {X : Cx} {G : Gx} {W : WX} {e : Expr} {es : List Expr} {g : Ax} {pos p apos : Pos} {x : Str} {cn k : Nat} {fn : Fn} {f C : Addr} {fd : FuncData} {ps : List Str} {sp : Sp} {CX : CXT}
theorem run_makeS {E : XK} {pins : List (Addr × Obj)} {σ : L2.St} {H : Hp} {s : Shared} {Q : VK} {us : List Value} {vs : List V} (M : Mk X.K C f) (F : FnOk X.prog X.w X.K X.mg X.base CX k f fd ps sp) (hr : Room (k + 1) X.A) (hb : Binds X.K fd ps []) (hx : PassesAt CX X σ E) (I : Inv X pins σ H s) (r : Vals vs us)
    (h : ∀ x dx, H x = none → H dx = none → dx ≠ x → sp (.ref x :: vs) (upd (upd H dx (.own x)) x (.ins C dx [])) (fun v H2 => v = .non ∧ Q (.ref x) H2) E) : wpAny (model X.prog X.w) X.A (call (.ref C) us) (EP X pins σ Q) X.xe s := by
  have q0 := h _ _ (I.hok.fresh (Nat.le_succ s.heap.objs.size)) (I.hok.fresh (Nat.le_refl s.heap.objs.size)) (Nat.ne_of_lt (Nat.lt_succ_self _))
  have J := Inv.made (C := C) I
  have rs : Vals (V.ref (s.heap.objs.size + 1) :: vs) (Value.ref (s.heap.objs.size + 1) :: us) := .cons rfl r
  have ln : (Value.ref (s.heap.objs.size + 1) :: us).length = ps.length := by rw [← F.len _ _ _ _ q0]; exact rs.length.symm
  have bd := hb _ (Value.ref (s.heap.objs.size + 1) :: us) J.kIn (by simpa using ln)
  rw [List.append_nil] at bd
  refine wpAny_call (make_map (f := f) I.kIn M.makes M.init (beq_iff_eq.mp M.fn) (codeAny_mono (F.run _ X.stack _ _ _ _ _ _ E (hr.make C us []) (J.env0.make C us []) bd rs q0) fun res s' hq => ?_))
  match res, hq with
  | .error e, hq => exact hx pins _ _ e s' J hq
  | .ok (.ret u), hq =>
    obtain ⟨v, H', I3, rv, ev, q3⟩ := J.after hq
    subst ev
    exact ⟨rv, V.ref (s.heap.objs.size + 1), H', I3, rfl, q3⟩
theorem de_makeS (tk : Takes X W) (M : Mk X.K (G.K.κ cn) f) (hF : FnOk X.prog X.w X.K X.mg X.base (L2.CX X.prog X.w) k f fd ps (spF G.K ps.length fn)) (hr : Room (k + 1) X.A) (hg : Gl X x) (hm : X.mg x = some (.ref (G.K.κ cn))) (hb : Binds X.K fd ps [])
    (ha : PA X (e :: es) (tAs G W g)) (hlen : ∀ st ds c1, g st = .ok ds c1 → ds.length + 1 = ps.length) (hdb : (x == ("__debug__" : Str)) = false := by decide) (he : starEach (e :: es) X.env = (false, eval e X.env) :: starEach es X.env := by rfl) (hpl : (backTo pos (starEach es X.env)).any (·.1) = false := by rfl) :
    PE X (.Call (.Name x p) (e :: es) [] pos) (tE G W (eMake cn fn g)) := by
  refine ⟨fun pins s σ H Q I ⟨ρ, F, st, r, po⟩ => ?_⟩
  refine wpAny_Call_Name_kw (ld_glob I hg hm ?_ hdb)
  have hta : tAs G W g σ H fun vs H1 => ∀ x dx, H1 x = none → H1 dx = none → dx ≠ x → spF G.K ps.length fn (.ref x :: vs) (upd (upd H1 dx (.own x)) x (.ins (G.K.κ cn) dx [])) (fun v H2 => v = .non ∧ Q (.ref x) H2) (WE W σ) := by
    unfold eMake at po
    refine ⟨ρ, F, st, r, ?_⟩
    cases q : g st with
    | no => rw [q] at po; exact po.elim
    | ex e' cs => rw [q] at po; exact po
    | ok ds c1 =>
      rw [q] at po
      have po : Post RV G W ρ F st.env σ Q (makeD cn fn ds c1) := po
      intro ρ1 F1 H1 vs x1 r1 rv1 x dx nx ndx ne
      have p2 := Post.ext x1 po
      have p3 : Post RV G (fun c d _ H => W c d σ H) ρ1 F1 st.env σ Q (makeD cn fn ds c1) := by
        cases q5 : makeD cn fn ds c1 with
        | ok d cs => rw [q5] at p2; exact p2
        | ex d cs => rw [q5] at p2; exact p2
        | no => rw [q5] at p2; exact p2
      exact make_of (W := fun c d _ H => W c d σ H) (st := ⟨st.env, c1⟩) (fun _ _ _ _ _ h => h) r1 rv1 (hlen _ _ _ q) nx ndx ne p3
  refine PySem.W.callWith_K (h₀ := X.base) I.ok.mod.kin M.kp (thn (ha.run pos pins s σ H _ I hta) fun us s1 ⟨vs, H1, I1, r1, q1⟩ => ⟨I1.kIn, ?_⟩) he hpl
  exact run_makeS M hF hr hb (passAt tk σ) I1 r1 q1
end
end VL

/-! VLXE: a classmethod called where the wish hangs on the slots -/
namespace VL
open PySem L2 PyProof.Rows
section
variable {X : Cx} {G : Gx} {W : WX} {e : Expr} {es : List Expr} {g : Ax} {pos p apos : Pos} {x : Str} {cn k : Nat} {fn : Fn} {f : Addr} {fd : FuncData} {ps : List Str}
theorem de_cmethS {m : Str} {mc : Value} {pc : Addr} {pl : Sem Bool} (n : Nat) (hK : X.K = G.K.K) (tk : Takes X W) (rc : ClX.CRead X.K (G.K.κ cn) mc) (c : ClX.CMet X.K (G.K.κ cn) mc m pc f) (hF : FnOk X.prog X.w X.K X.mg X.base (L2.CX X.prog X.w) k f fd ps (spF G.K ps.length fn)) (hb : Binds X.K fd ps []) (hr : Room k X.A)
    (hg : Gl X x) (hm : X.mg x = some (.ref (G.K.κ cn))) (ha : PA X (e :: es) (tAs G W g)) (hlen : ∀ st ds c1, g st = .ok ds c1 → ds.length + 1 = ps.length) (hdb : (x == ("__debug__" : Str)) = false := by decide) (hst : starEach (e :: es) X.env = (false, eval e X.env) :: starEach es X.env := by rfl) (hpl : (backTo pos (starEach es X.env)).any (·.1) = false := by rfl)
    (ht : eval (.Call (.Attribute (.Name x p) m apos) (e :: es) [] pos) X.env = (do
      let ov ← eval (.Name x p) X.env
      standAt apos.atName
      let (f, first) ← holding [ov] (getMethod ov m pl)
      callWith pos f first (backTo pos (starEach (e :: es) X.env)) (backToKw pos (keywordEach [] X.env))) := by rfl) :
    PE X (.Call (.Attribute (.Name x p) m apos) (e :: es) [] pos) (tE G W (eCMeth n cn fn g)) := by
  refine ⟨fun pins s σ H Q I ⟨ρ, F, st, r, po⟩ => ?_⟩
  have hta : tAs G W g σ H fun vs H1 => spF G.K ps.length fn (.ref (G.K.κ cn) :: vs) H1 Q (WE W σ) := by
    unfold eCMeth at po
    refine ⟨ρ, F, st, r, ?_⟩
    cases q : g st with
    | no => rw [q] at po; exact po.elim
    | ex e' cs => rw [q] at po; exact po
    | ok ds c1 =>
      rw [q] at po
      have po : Post RV G W ρ F st.env σ Q (callV n fn (.cls cn :: ds) c1) := po
      exact fun ρ1 F1 H1 vs x1 r1 rv1 => callV_of (st := ⟨st.env, c1⟩) (m := ps.length) r1 (.cons (.cls cn) rv1) (by simpa using hlen _ _ _ q) (Post.ext x1 po)
  refine PySem.W.methodCall_KW (pl := pl) (ld_glob I hg hm ?_ hdb) ht
  refine ClX.getmethcm_ok I rc c fun s2 I2 => ?_
  refine ClX.callwith_cm I2 (ClX.base_none I (Nat.le_refl _)) c.fi (thn (ha.run pos _ s2 σ H _ I2 hta) fun us s3 ⟨vs, H2, I3, rv, q2⟩ => ⟨⟨ClX.pin_at I3, I3.kIn⟩, ?_⟩) hst hpl
  have rs : Vals (V.ref (G.K.κ cn) :: vs) (Value.ref (G.K.κ cn) :: us) := .cons rfl rv
  have z : wpAny (model X.prog X.w) X.A (call (.ref s.heap.objs.size) us) (EP X ((s.heap.objs.size, PySem.W.methodObj (.ref f) (.ref (G.K.κ cn))) :: pins) σ Q) X.xe s3 := by
    refine wpAny_call (PySem.W.method_call (ClX.pin_at I3) (codeAny_mono (fnR_of hF hb X.A X.stack s3 H2 _ _ Q (WE W σ) hr I3.env0 rs q2) fun res s' hq => ?_))
    match res, hq with
    | .error e, hq => exact passAt tk σ _ _ _ e s' I3 hq
    | .ok (.ret u), hq => exact I3.after hq
  exact thn z fun _ _ y => ClX.unpinE y
end
end VL

/-! VLXF: the rules of a try's body, by the defs' names -/
namespace VL
open PySem L2 PyProof.Rows
section
variable {X : Cx} {G : Gx} {W : WX} {e : Expr} {es : List Expr} {g : Ax} {pos p apos : Pos} {x m : Str} {cn k : Nat} {fn : Fn} {ps : List Str}
theorem de_makeSD (d : DefC X.prog X.w G.K X.mg X.base x cn k ps fn) (hK : X.K = G.K.K) (tk : Takes X W) (hr : Room (k + 1) X.A) (ha : PA X (e :: es) (tAs G W g)) {j : Nat} (hl : ALen j g) (hj : j + 1 = ps.length) (hg : Gl X x := by rfl) (hdb : (x == ("__debug__" : Str)) = false := by decide) (he : starEach (e :: es) X.env = (false, eval e X.env) :: starEach es X.env := by rfl) (hpl : (backTo pos (starEach es X.env)).any (·.1) = false := by rfl) :
    PE X (.Call (.Name x p) (e :: es) [] pos) (tE G W (eMake cn fn g)) := by
  obtain ⟨f, fd, h1, h2, h3, h4⟩ := d.ex
  rw [← hK] at h2 h3 h4
  exact de_makeS tk h2 h4 hr hg h1 h3 ha (fun st ds c1 q => by rw [hl st ds c1 q]; exact hj) hdb he hpl
theorem de_cmethSD {pl : Sem Bool} (n : Nat) (d : DefCM X.prog X.w G.K X.mg X.base x cn m k ps fn) (hK : X.K = G.K.K) (tk : Takes X W) (hr : Room k X.A)
    (ha : PA X (e :: es) (tAs G W g)) {j : Nat} (hl : ALen j g) (hj : j + 1 = ps.length) (hg : Gl X x := by rfl) (hdb : (x == ("__debug__" : Str)) = false := by decide) (hst : starEach (e :: es) X.env = (false, eval e X.env) :: starEach es X.env := by rfl) (hpl : (backTo pos (starEach es X.env)).any (·.1) = false := by rfl)
    (ht : eval (.Call (.Attribute (.Name x p) m apos) (e :: es) [] pos) X.env = (do
      let ov ← eval (.Name x p) X.env
      standAt apos.atName
      let (f, first) ← holding [ov] (getMethod ov m pl)
      callWith pos f first (backTo pos (starEach (e :: es) X.env)) (backToKw pos (keywordEach [] X.env))) := by rfl) :
    PE X (.Call (.Attribute (.Name x p) m apos) (e :: es) [] pos) (tE G W (eCMeth n cn fn g)) := by
  obtain ⟨f, pc, fd, mc, h1, h2, h3, h4, h5⟩ := d.ex
  rw [← hK] at h2 h3 h4 h5
  exact de_cmethS (pl := pl) n hK tk h2 h3 h5 h4 hr hg h1 ha (fun st ds c1 q => by rw [hl st ds c1 q]; exact hj) hdb hst hpl ht
end
end VL

/-! VLXG: tables of isinstance for one own class -/
namespace VL
open PySem L2 PyProof.Rows
def ansB (T : String) (c0 : Nat) : Ty → Option Bool
  | .t n => isSub n T
  | .c C => if C = c0 then some false else none
theorem ansB_ok {K : Kt} {T : String} {c0 : Nat} (h : PySem.W.kitOne K.K (.ref (K.κ c0)) (.type T) = some false) (i : InsC K.K (K.κ c0)) : AnsOk K (.type T) (ansB T c0) := by
  intro t b e
  cases t with
  | t n => exact ⟨kit_ty (isSub_of e), fun C z => by cases z⟩
  | c C =>
    have e : (if C = c0 then some false else none) = some b := e
    by_cases q : C = c0
    · rw [if_pos q] at e
      cases e
      subst q
      exact ⟨h, fun C' z => by cases z; exact i⟩
    · rw [if_neg q] at e
      cases e
def tyNames : List String := ["NoneType", "bool", "int", "str", "tuple", "list"]
def ansO (c0 : Nat) : Ty → Option Bool
  | .t n => if tyNames.contains n then some false else none
  | .c C => if C = c0 then some true else none
theorem ansO_ok {K : Kt} {c0 : Nat} (h : ∀ n ∈ tyNames, PySem.W.kitOne K.K (.type n) (.ref (K.κ c0)) = some false) (i : InsC K.K (K.κ c0)) : AnsOk K (.ref (K.κ c0)) (ansO c0) := by
  intro t b e
  cases t with
  | t n =>
    have e : (if tyNames.contains n = true then some false else none) = some b := e
    by_cases q : tyNames.contains n = true
    · rw [if_pos q] at e
      cases e
      exact ⟨h n (List.contains_iff_mem.mp q), fun C z => by cases z⟩
    · rw [if_neg q] at e
      cases e
  | c C =>
    have e : (if C = c0 then some true else none) = some b := e
    by_cases q : C = c0
    · rw [if_pos q] at e
      cases e
      subst q
      refine ⟨?_, fun C' z => by cases z; exact i⟩
      unfold PySem.W.kitOne
      exact if_pos (beq_self_eq_true _)
    · rw [if_neg q] at e
      cases e
end VL

/-! VLXH: classes whose parameters have defaults, made by keywords or with none -/
namespace VL
open PySem L2 PyProof.Rows
theorem permV_vals {zs : List V} {ws : List Value} (rz : Vals zs ws) : ∀ l : List Nat, Vals (permV l zs) (l.map fun i => ws.getD i .none)
  | [] => .nil
  | i :: l => by
    refine .cons ?_ (permV_vals rz l)
    show RelV (zs.getD i .non) (ws.getD i .none)
    rw [List.getD_eq_getElem?_getD, List.getD_eq_getElem?_getD]
    cases q : zs[i]? with
    | none => rw [rz.none_of q]; rfl
    | some z =>
      obtain ⟨u, e1, e2⟩ := rz.get q
      rw [e1]
      exact e2
theorem units65 {k : Nat} {A : Around} (r : Room k A) : A.units + 65 < cLine := by
  have := r.un
  omega
theorem alen_s {j n : Nat} {g : Ax} (h : j + 1 = n) (hl : ALen j g) : ∀ st ds c1, g st = .ok ds c1 → ds.length + 1 = n := fun st ds c1 q => by rw [hl st ds c1 q, h]
section
variable {P : Program} {w : World} {K : Kt} {mg : Str → Option Value} {base : Heap} {x qual : Str} {st : Stmt} {f : Addr} {fd : FuncData} {ps N : List Str} {k cn : Nat} {fn fn' : Fn} {body : Sx} {Φ : FuncData → Prop}
theorem FunA.kbnD {T : Addr} {o : Obj} {its : List Value} {m : Nat} {ks : List Str} {ix : List Nat} (Fu : FunA K.K x qual st (.ref T) f fd) (lT : K.K.lookup T = some o) (oT : o.data = .seq its.toArray m)
    (h : ∀ (kV doc pm : Value) (an : Option Addr) (cdv ct : Value) (us ws : List Value), us.length = 1 → ws.length = ks.length → ∃ k, bindArgs (PySem.W.fnOf x qual (defArgs st) (defBody st) (defScope st) (.ref T) kV doc pm an cdv ct) ⟨us, ks.zip ws⟩ = seqItems? (.ref T) >>= k ∧ k (some its.toArray) = pure (ps.zip (us ++ ix.map fun i => ws.getD i .none))) :
    KBn K.K fd ps 1 ks (fun us ws => us ++ ix.map fun i => ws.getD i .none) (fun vs zs => vs ++ permV ix zs) := by
  obtain ⟨oc, od, kV, doc, pm, an, cdv, ct, osl, rfl, lk, hcd⟩ := Fu.ex
  refine ⟨fun s us ws KX hu hw => ?_, fun {vs us zs ws} ru rz => ru.append (permV_vals rz ix)⟩
  obtain ⟨k, e1, e2⟩ := h kV doc pm an cdv ct us ws hu hw
  refine BindsTo.of_looks fun M => ?_
  rw [e1]
  exact looks_items KX lT oT (PySem.W.Looks.of_pure e2)
theorem FunA.bindsN {T : Addr} {o : Obj} {its : List Value} {m : Nat} (Fu : FunA K.K x qual st (.ref T) f fd) (lT : K.K.lookup T = some o) (oT : o.data = .seq its.toArray m) (hn : its.length + 1 = ps.length)
    (h : ∀ (kV doc pm : Value) (an : Option Addr) (cdv ct : Value) (u : Value), ∃ k, bindArgs (PySem.W.fnOf x qual (defArgs st) (defBody st) (defScope st) (.ref T) kV doc pm an cdv ct) ⟨[u], []⟩ = seqItems? (.ref T) >>= k ∧ k (some its.toArray) = pure (ps.zip (u :: its))) : Binds K.K fd ps its := by
  obtain ⟨oc, od, kV, doc, pm, an, cdv, ct, osl, rfl, lk, hcd⟩ := Fu.ex
  intro s us KX hl
  rw [List.length_append] at hl
  have hu : us.length = 1 := by omega
  match us, hu with
  | [u], _ =>
    obtain ⟨k, e1, e2⟩ := h kV doc pm an cdv ct u
    refine BindsTo.of_looks fun M => ?_
    rw [e1]
    exact looks_items KX lT oT (PySem.W.Looks.of_pure e2)
/-- a class of the text, with more facts of its __init__ -/
structure TxtCX (K : Kt) (mg : Str → Option Value) (x : Str) (cn : Nat) (st : Stmt) (ps : List Str) (Φ : FuncData → Prop) : Prop where
  ex : ∃ (f : Addr) (fd : FuncData), mg x = some (.ref (K.κ cn)) ∧ Mk K.K (K.κ cn) f ∧ (∃ dV, FunA K.K "__init__" (x ++ ".__init__") st dV f fd) ∧ Binds K.K fd ps [] ∧ Φ fd
structure DefCX (P : Program) (w : World) (K : Kt) (mg : Str → Option Value) (base : Heap) (x : Str) (cn k : Nat) (ps : List Str) (fn : Fn) (Φ : FuncData → Prop) : Prop where
  ex : ∃ (f : Addr) (fd : FuncData), mg x = some (.ref (K.κ cn)) ∧ Mk K.K (K.κ cn) f ∧ Binds K.K fd ps [] ∧ FnOk P w K.K mg base (L2.CX P w) k f fd ps (spF K ps.length fn) ∧ Φ fd
theorem DefCX.toC (d : DefCX P w K mg base x cn k ps fn Φ) : DefC P w K mg base x cn k ps fn := by
  obtain ⟨f, fd, h1, h2, h3, h4, _⟩ := d.ex
  exact ⟨f, fd, h1, h2, h3, h4⟩
theorem mkDefCX (t : TxtCX K mg x cn st ps Φ) (S : FnScope N ps (defScope st))
    (hbody : ∀ (f : Addr) (G : Gx), G.K = K → ∀ (cdv : Value) (A : Around) (outer : List Env) (s : Shared) (H : Hp) (E : XK), Room k (A.deeper (envOfC (x ++ ".__init__") (defScope st) s.heap.objs.size f cdv)) →
      PSs (cxOf (L2.CX P w) P w K.K mg base N (x ++ ".__init__") (defScope st) f cdv A outer s H E) (defBody st) (tS G (fun cls d _ H' => E cls d H') body)) :
    DefCX P w K mg base x cn (k + 1) ps (runF N.length body) Φ := by
  obtain ⟨f, fd, h1, h2, ⟨dV, h3⟩, h4, h5⟩ := t.ex
  exact ⟨f, fd, h1, h2, h4, okA h3 S fun G e cdv A outer s H E hr => hbody f G e cdv A outer s H E hr, h5⟩
/-- keywords ks, by the places ix -/
def PhiK (K : Kt) (ps ks : List Str) (ix : List Nat) (fd : FuncData) : Prop := KBn K.K fd ps 1 ks (fun us ws => us ++ ix.map fun i => ws.getD i .none) (fun vs zs => vs ++ permV ix zs)
/-- the defaults ds -/
def Phi0 (K : Kt) (ps : List Str) (ds : List D) (fd : FuncData) : Prop := ∃ (its : List Value) (dvs : List V), Binds K.K fd ps its ∧ Vals dvs its ∧ ∀ ρ F, RVs K ρ F ds dvs
end
section
variable {X : Cx} {G : Gx} {W : WX} {g : Ax} {pos p : Pos} {x : Str} {cn k : Nat} {fn : Fn} {ps ks : List Str} {kws : List Keyword} {Φ : FuncData → Prop} {ds : List D}
theorem de_makeKD (ix : List Nat) (d : DefCX X.prog X.w G.K X.mg X.base x cn k ps fn Φ) (hΦ : ∀ fd, Φ fd → PhiK G.K ps ks ix fd) (hK : X.K = G.K.K) (hW : Flat W) (tk : Takes X W) (hr : Room (k + 1) X.A) (hkw : PK X kws (tAs G W g)) (hl : ALen ks.length g) (hix : ∀ i ∈ ix, i < ks.length) (hixl : ix.length + 1 = ps.length) (hg : Gl X x := by rfl)
    (hall : (backToKw pos (keywordEach kws X.env)).all (·.1.isSome) = true := by rfl) (hks : (backToKw pos (keywordEach kws X.env)).filterMap (·.1) = ks := by rfl) (hdb : (x == ("__debug__" : Str)) = false := by decide)
    (hpl : ((backTo pos (starEach [] X.env)).any (·.1) || (backToKw pos (keywordEach kws X.env)).any (·.1.isNone)) = false := by rfl) :
    PE X (.Call (.Name x p) [] kws pos) (tE G W (eMakeK cn fn ix g)) := by
  obtain ⟨f, fd, h1, h2, h3, h4, h5⟩ := d.ex
  have kb := hΦ fd h5
  unfold PhiK at kb
  rw [← hK] at h2 h4 kb
  exact de_makeK ix hW tk h2 h4 hr hg h1 kb hkw hl hix hixl hall hks hdb hpl
theorem de_make0D (d : DefCX X.prog X.w G.K X.mg X.base x cn k ps fn Φ) (hΦ : ∀ fd, Φ fd → Phi0 G.K ps ds fd) (hK : X.K = G.K.K) (hW : Flat W) (tk : Takes X W) (hr : Room (k + 1) X.A) (hl : ds.length + 1 = ps.length) (hg : Gl X x := by rfl) (hdb : (x == ("__debug__" : Str)) = false := by decide) :
    PE X (.Call (.Name x p) [] [] pos) (tE G W (eMake0 cn fn ds)) := by
  obtain ⟨f, fd, h1, h2, h3, h4, h5⟩ := d.ex
  obtain ⟨its, dvs, h6, h7, h8⟩ := hΦ fd h5
  rw [← hK] at h2 h4 h6
  exact de_make0 hW tk h2 h4 hr hg h1 h6 h7 h8 hl hdb
end
end VL

/-! VLS: plain reckoning, step by step -/
namespace VL
open PySem L2
section
variable {f fa fb fc : Ex} {g : F2} {st st1 : S} {x y d z : D} {c1 c2 c3 cs : List Cell} {o : Out D} {so r : SOut} {t t2 : Tx} {k : Bool} {sf sg : Sx} {ga : Ax} {xs : List D}
theorem ev_eOp (h1 : fa st = .ok x c1) (h2 : fb ⟨st.env, c1⟩ = .ok y c2) (h3 : g c2 x y = o) : eOp g fa fb st = o := by
  unfold eOp; rw [h1]; show (fb ⟨st.env, c1⟩).bind _ = _; rw [h2]; exact h3
theorem ev_eUn {g : F1} (h1 : fa st = .ok x c1) (h3 : g c1 x = o) : eUn g fa st = o := by
  unfold eUn; rw [h1]; exact h3
theorem ev_tCmp (h : eOp g fa fb st = .ok (.bl k) c1) : tCmp' g fa fb st = .ok k c1 := by
  unfold tCmp'; rw [h]; rfl
theorem ev_tTru (h : fa st = .ok x c1) (h2 : truD c1 x = some k) : tTru fa st = .ok k c1 := by
  unfold tTru; rw [h]
  show (match truD c1 x with
    | some k => Out.ok k c1
    | none => .no) = _
  rw [h2]
theorem ev_eNot (h : fa st = .ok x c1) (h2 : truD c1 x = some k) : eNot fa st = .ok (.bl (!k)) c1 := by
  unfold eNot; rw [h]
  show (match truD c1 x with
    | some k => Out.ok (D.bl (!k)) c1
    | none => .no) = _
  rw [h2]
theorem ev_eAndT (h : fa st = .ok x c1) (h2 : truD c1 x = some true) (h3 : fb ⟨st.env, c1⟩ = o) : eAnd fa fb st = o := by
  unfold eAnd; rw [h]
  show (match truD c1 x with
    | some k => if k then fb ⟨st.env, c1⟩ else Out.ok x c1
    | none => .no) = _
  rw [h2]; exact h3
theorem ev_eAndF (h : fa st = .ok x c1) (h2 : truD c1 x = some false) : eAnd fa fb st = .ok x c1 := by
  unfold eAnd; rw [h]
  show (match truD c1 x with
    | some k => if k then fb ⟨st.env, c1⟩ else Out.ok x c1
    | none => .no) = _
  rw [h2]; rfl
theorem ev_eOrF (h : fa st = .ok x c1) (h2 : truD c1 x = some false) (h3 : fb ⟨st.env, c1⟩ = o) : eOr fa fb st = o := by
  unfold eOr; rw [h]
  show (match truD c1 x with
    | some k => if k then Out.ok x c1 else fb ⟨st.env, c1⟩
    | none => .no) = _
  rw [h2]; exact h3
theorem ev_eOrT (h : fa st = .ok x c1) (h2 : truD c1 x = some true) : eOr fa fb st = .ok x c1 := by
  unfold eOr; rw [h]
  show (match truD c1 x with
    | some k => if k then Out.ok x c1 else fb ⟨st.env, c1⟩
    | none => .no) = _
  rw [h2]; rfl
theorem ev_tNot (h : t st = .ok k c1) : tNot' t st = .ok (!k) c1 := by
  unfold tNot'; rw [h]; rfl
theorem ev_tAndT {o : Out Bool} (h : t st = .ok true c1) (h2 : t2 ⟨st.env, c1⟩ = o) : tAnd' t t2 st = o := by
  unfold tAnd'; rw [h]; exact h2
theorem ev_tAndF (h : t st = .ok false c1) : tAnd' t t2 st = .ok false c1 := by
  unfold tAnd'; rw [h]; rfl
theorem ev_tOrF {o : Out Bool} (h : t st = .ok false c1) (h2 : t2 ⟨st.env, c1⟩ = o) : tOr' t t2 st = o := by
  unfold tOr'; rw [h]; exact h2
theorem ev_tOrT (h : t st = .ok true c1) : tOr' t t2 st = .ok true c1 := by
  unfold tOr'; rw [h]; rfl
theorem ev_eIfT (h : t st = .ok true c1) (h2 : fa ⟨st.env, c1⟩ = o) : eIf t fa fb st = o := by
  unfold eIf; rw [h]; exact h2
theorem ev_eIfF (h : t st = .ok false c1) (h2 : fb ⟨st.env, c1⟩ = o) : eIf t fa fb st = o := by
  unfold eIf; rw [h]; exact h2
theorem ev_sIfT (h : t st = .ok true c1) (h2 : sf ⟨st.env, c1⟩ = so) : sIf t sf sg st = so := by
  unfold sIf; rw [h]; exact h2
theorem ev_sIfF (h : t st = .ok false c1) (h2 : sg ⟨st.env, c1⟩ = so) : sIf t sf sg st = so := by
  unfold sIf; rw [h]; exact h2
theorem ev_aCons (h : fa st = .ok x c1) (h2 : ga ⟨st.env, c1⟩ = .ok xs c2) : aCons fa ga st = .ok (x :: xs) c2 := by
  unfold aCons; rw [h]; show (ga ⟨st.env, c1⟩).bind _ = _; rw [h2]; rfl
theorem ev_eTup (h : ga st = .ok xs c1) (h2 : decide (xs.length ≤ 16777216) = true) : eTup ga st = .ok (.tup xs) c1 := by
  unfold eTup; rw [h]; exact if_pos (of_decide_eq_true h2)
theorem ev_eLst (h : ga st = .ok xs c1) (h2 : decide (xs.length ≤ 16777216) = true) : eLst ga st = .ok (.lst xs) c1 := by
  unfold eLst; rw [h]; exact if_pos (of_decide_eq_true h2)
theorem ev_eLoc (h : ga st = .ok xs c1) (h2 : decide (xs.length ≤ 16777216) = true) (h3 : newCell xs c1 = o) : eLoc ga st = o := by
  unfold eLoc; rw [h]; exact (if_pos (of_decide_eq_true h2)).trans h3
theorem ev_eB {h : FB} (h1 : ga st = .ok xs c1) (h2 : h c1 xs = o) : eB h ga st = o := by
  unfold eB; rw [h1]; exact h2
theorem ev_eCall {n : Nat} {fn : Fn} (h1 : ga st = .ok xs c1) (h2 : callV n fn xs c1 = o) : eCall n fn ga st = o := by
  unfold eCall; rw [h1]; exact h2
theorem ev_eCallAll {fn : Fn} (h1 : ga st = .ok xs c1) (h2 : fn xs c1 = o) : eCallAll fn ga st = o := by
  unfold eCallAll; rw [h1]; exact h2
theorem ev_eCMeth {n cn : Nat} {fn : Fn} (h1 : ga st = .ok xs c1) (h2 : callV n fn (.cls cn :: xs) c1 = o) : eCMeth n cn fn ga st = o := by
  unfold eCMeth; rw [h1]; exact h2
theorem ev_eMake {cn : Nat} {fn : Fn} (h1 : ga st = .ok xs c1) (h2 : makeD cn fn xs c1 = o) : eMake cn fn ga st = o := by
  unfold eMake; rw [h1]; exact h2
theorem ev_eMakeK {cn : Nat} {fn : Fn} {ix : List Nat} {ys : List D} (h1 : ga st = .ok xs c1) (h3 : permD ix xs = ys) (h2 : makeD cn fn ys c1 = o) : eMakeK cn fn ix ga st = o := by
  subst h3
  unfold eMakeK; rw [h1]; exact h2
theorem ev_eMake0 {cn : Nat} {fn : Fn} (h2 : makeD cn fn xs st.cs = o) : eMake0 cn fn xs st = o := h2
theorem ev_eMS {g : Str → List Cell → D → Out D} {w : Str} (h1 : fa st = .ok (.str w) c1) (h2 : fb ⟨st.env, c1⟩ = .ok y c2) (h3 : g w c2 y = o) : eMS g fa fb st = o := by
  unfold eMS; rw [h1]; show (fb ⟨st.env, c1⟩).bind _ = _; rw [h2]; exact h3
theorem ev_sSeq (h : sf st = .nx st1) (h2 : sg st1 = so) : sSeq sf sg st = so := by
  unfold sSeq; rw [h]; exact h2
theorem ev_sSeqR (h : sf st = .rt d st1) : sSeq sf sg st = .rt d st1 := by
  unfold sSeq; rw [h]
theorem ev_sSeqX {e : Exn} (h : sf st = .ex e st1) : sSeq sf sg st = .ex e st1 := by
  unfold sSeq; rw [h]
theorem ev_sAsg {gt : Gt} (h : fa st = .ok d c1) (h2 : asg gt d ⟨st.env, c1⟩ = so) : sAsg fa gt st = so := by
  unfold sAsg; rw [h]; exact h2
theorem ev_sPar {is : List Nat} (h : ga st = .ok xs c1) (h2 : sPar is (fun _ => .ok xs c1) st = so) : sPar is ga st = so := by
  rw [← h2]
  unfold sPar; rw [h]
theorem ev_sRet (h : fa st = .ok d c1) : sRet fa st = .rt d ⟨st.env, c1⟩ := by
  unfold sRet; rw [h]; rfl
theorem ev_sExpr (h : fa st = .ok d c1) : sExpr fa st = .nx ⟨st.env, c1⟩ := by
  unfold sExpr; rw [h]; rfl
theorem ev_iT {w : List D × (List Cell → Bool)} (h : fa st = .ok d c1) (h2 : iT (fun _ => .ok d c1) st = .ok w c2) : iT fa st = .ok w c2 := by
  rw [← h2]; unfold iT; rw [h]
theorem ev_iL {w : List D × (List Cell → Bool)} (h : fa st = .ok d c1) (h2 : iL (fun _ => .ok d c1) st = .ok w c2) : iL fa st = .ok w c2 := by
  rw [← h2]; unfold iL; rw [h]
theorem ev_sFor {src : Ix} {gt : Gt} {w : List D × (List Cell → Bool)} (h : src st = .ok w c1) (h2 : forL gt sf w.2 w.1 ⟨st.env, c1⟩ = so) : sFor src gt sf st = so := by
  unfold sFor; rw [h]; exact h2
theorem ev_forNil {gt : Gt} {kp : List Cell → Bool} (h : kp st.cs = true) : forL gt sf kp [] st = .nx st := by
  unfold forL; rw [if_pos h]
theorem ev_forNx {gt : Gt} {kp : List Cell → Bool} {st2 : S} (h : kp st.cs = true) (h1 : gt d st = some st1) (h2 : sf st1 = .nx st2) (h3 : forL gt sf kp xs st2 = so) : forL gt sf kp (d :: xs) st = so := by
  rw [forL, if_pos h, h1]; show (match sf st1 with | .nx st2 => _ | .ct st2 => _ | .bk st2 => _ | o => o) = _; rw [h2]; exact h3
theorem ev_forCt {gt : Gt} {kp : List Cell → Bool} {st2 : S} (h : kp st.cs = true) (h1 : gt d st = some st1) (h2 : sf st1 = .ct st2) (h3 : forL gt sf kp xs st2 = so) : forL gt sf kp (d :: xs) st = so := by
  rw [forL, if_pos h, h1]; show (match sf st1 with | .nx st2 => _ | .ct st2 => _ | .bk st2 => _ | o => o) = _; rw [h2]; exact h3
theorem ev_forRt {gt : Gt} {kp : List Cell → Bool} {st2 : S} {v : D} (h : kp st.cs = true) (h1 : gt d st = some st1) (h2 : sf st1 = .rt v st2) : forL gt sf kp (d :: xs) st = .rt v st2 := by
  rw [forL, if_pos h, h1]; show (match sf st1 with | .nx st2 => _ | .ct st2 => _ | .bk st2 => _ | o => o) = _; rw [h2]
theorem ev_runRt {n : Nat} {ds : List D} {env : List (Option D)} (h0 : startD n ds = env) (h : sf ⟨env, cs⟩ = .rt d st1) : runF n sf ds cs = .ok d st1.cs := by
  unfold runF; rw [h0, h]
theorem ev_runNx {n : Nat} {ds : List D} {env : List (Option D)} (h0 : startD n ds = env) (h : sf ⟨env, cs⟩ = .nx st1) : runF n sf ds cs = .ok .non st1.cs := by
  unfold runF; rw [h0, h]
theorem ev_runEx {n : Nat} {ds : List D} {env : List (Option D)} {e : Exn} (h0 : startD n ds = env) (h : sf ⟨env, cs⟩ = .ex e st1) : runF n sf ds cs = .ex e st1.cs := by
  unfold runF; rw [h0, h]
theorem ev_trim {fn : Fn} {ds : List D} {r o : Out D} (h : fn ds cs = r) (h2 : trimF (fun _ _ => r) ds cs = o) : trimF fn ds cs = o := by
  rw [← h2]; unfold trimF; rw [h]
theorem ev_call {fn : Fn} {n : Nat} {ds es : List D} {c0 : List Cell} {r o : Out D} (h0 : ds.map (lendD n cs) = es) (h1 : cs.take n = c0) (h : fn es c0 = r) (h2 : callV n (fun _ _ => r) ds cs = o) : callV n fn ds cs = o := by
  rw [← h2]; unfold callV; rw [h0, h1, h]
theorem ev_make {fn : Fn} {cn : Nat} {ds es : List D} {c0 : List Cell} {r o : Out D} (h0 : D.loc cs.length :: ds = es) (h1 : cs ++ [.ins cn [] []] = c0) (h : fn es c0 = r) (h2 : makeD cn (fun _ _ => r) ds cs = o) : makeD cn fn ds cs = o := by
  rw [← h2]; unfold makeD; rw [h0, h1, h]
theorem ev_try {ct : Nat → Option Bool} {i j : Nat} {fx : Exn → Ex} (h : sf st = r) (h2 : sTry1 ct i j (fun _ => r) fx st = so) : sTry1 ct i j sf fx st = so := by
  rw [← h2]; unfold sTry1; rw [h]
theorem ev_eSl {own : Bool} {l h : Ox} {lo hi : Option Int} (h1 : fa st = .ok x c1) (h2 : l ⟨st.env, c1⟩ = .ok lo c2) (h3 : h ⟨st.env, c2⟩ = .ok hi c3) (h4 : gSl own c3 x lo hi = o) : eSl own fa l h st = o := by
  unfold eSl; rw [h1]; show (l ⟨st.env, c1⟩).bind _ = _; rw [h2]; show (h ⟨st.env, c2⟩).bind _ = _; rw [h3]; exact h4
theorem ev_oSome (h1 : fa st = .ok d c1) {o : Out (Option Int)} (h2 : oSome (fun _ => .ok d c1) st = o) : oSome fa st = o := by
  rw [← h2]; unfold oSome; rw [h1]
theorem ev_setFld {cn : Nat} {n : Str} (h1 : fa st = .ok x c1) (h2 : fb ⟨st.env, c1⟩ = .ok y c2) (h3 : setFld cn n y x ⟨st.env, c2⟩ = so) : sSetFld cn n fa fb st = so := by
  unfold sSetFld; rw [h1]; show thenS (fb ⟨st.env, c1⟩) _ _ = _; rw [h2]; exact h3
theorem ev_setIx (h1 : fa st = .ok x c1) (h2 : fb ⟨st.env, c1⟩ = .ok y c2) (h3 : fc ⟨st.env, c2⟩ = .ok z c3) (h4 : setIx y z x ⟨st.env, c3⟩ = so) : sSetIx fa fb fc st = so := by
  simp only [sSetIx, thenS, h1, h2, h3]; exact h4
theorem outD_low {n : Nat} {cs : List Cell} {d : D} (h : below n d = true) (hl : ∀ m, d ≠ .loc m) : outD n cs d = some d := by
  cases d with
  | loc m => exact absurd rfl (hl m)
  | _ =>
    unfold outD
    exact if_pos h
theorem trimF_of {fn : Fn} {ds : List D} {cs cs' : List Cell} {d d' : D} (h : fn ds cs = .ok d cs') (h1 : (cs'.take cs.length).all (belowC cs.length) = true) (h2 : outD cs.length cs' d = some d') : trimF fn ds cs = .ok d' (cs'.take cs.length) := by
  unfold trimF
  rw [h]
  show (if _ then (match outD cs.length cs' d with
    | some d' => Out.ok d' (cs'.take cs.length)
    | none => .no) else .no) = _
  rw [if_pos h1, h2]
theorem atI_nat {α : Type} {xs : List α} {k : Nat} {x : α} (h : xs[k]? = some x) : atI xs (k : Int) = some x := by
  have hk : k < xs.length := by
    rw [List.getElem?_eq_some_iff] at h
    exact h.1
  have e : ixN xs.length (k : Int) = some k := by
    unfold ixN
    simp [hk]
  simp [atI, e, h]
theorem ix_lst {ds : List D} {k : Nat} {cs : List Cell} (h : atI ds (k : Int) = some d) : gIx cs (.lst ds) (.int k) = .ok d cs := by
  simp [gIx, seqOf, lstOf, h]
theorem callV0_of {fn : Fn} {ds : List D} {d : D} {cs : List Cell} (hd : ds.map (lendD 0 cs) = ds) (hb : belows 0 ds = true) (h : fn ds [] = .ok d []) : callV 0 fn ds cs = .ok d cs := by
  unfold callV
  rw [hd, if_pos ⟨Nat.zero_le _, hb, by simp⟩, List.take_zero, h]
  show (if _ then Out.ok d ([] ++ cs.drop 0) else Out.no) = _
  rw [if_pos ⟨rfl, .inl hb⟩]
  simp
theorem map_at {α β : Type} {f g : α → β} {l : List α} (h : l.map f = l.map g) {a : α} (ha : a ∈ l) : f a = g a := List.map_inj_left.mp h a ha
end
end VL

/-! VLY0: len(set(t)), t a tuple of texts -/
namespace VL
open PySem PySem.Spec PyProof.Rows L2
/-- how many texts, each counted once; the list read from its end -/
def dcR : List Str → Nat
  | [] => 0
  | x :: r => if r.any (· == x) then dcR r else dcR r + 1
def dcS (l : List Str) : Nat := dcR l.reverse
theorem dcR_le : ∀ l : List Str, dcR l ≤ l.length
  | [] => Nat.le_refl _
  | x :: r => by
    have := dcR_le r
    unfold dcR
    split <;> simp <;> omega
theorem dcS_snoc (l : List Str) (x : Str) : dcS (l ++ [x]) = if l.any (· == x) then dcS l else dcS l + 1 := by
  unfold dcS
  rw [List.reverse_append]
  show (if l.reverse.any (· == x) then dcR l.reverse else dcR l.reverse + 1) = _
  rw [List.any_reverse]
theorem dcS_le (l : List Str) : dcS l ≤ l.length := by
  have := dcR_le l.reverse
  rw [List.length_reverse] at this
  exact this
section
variable {P : Program} {w : World} {A : Around} {R : Result → Shared → Prop} {I : Addr} {fp wr : List Addr} {G : Array GenState → Array GenState → Prop} {n : Nat} {Pv : Nat → Value → Prop} {St : Nat → Shared → Prop}
abbrev Sx' (P : Program) (w : World) (h : Heap) (S : Addr) (l : List Str) : Prop := h.SetOf (PySem.strKind P w) S (fun k => l.any (· == k)) (dcS l)
theorem SetOf.moved {h h' : Heap} {S : Addr} {f : Str → Bool} {m : Nat} (hS : h.SetOf (PySem.strKind P w) S f m) (k : ∀ o, h.get? S = some o → h'.get? S = some o) : h'.SetOf (PySem.strKind P w) S f m := by
  obtain ⟨o, es, ep, t, ho, r⟩ := hS
  exact ⟨o, es, ep, t, k o ho, r⟩
theorem fill_texts (W : WalksS P w A.in1 I fp wr G n Pv St) (S : Addr) (hSf : S ∉ fp) (xs : List Str) (hsz : xs.length = n) (hb : n + 1 < scanBound) (hval : ∀ i v, Pv i v → ∃ t, v = .str (xs.getD i Str.empty) t) :
    ∀ (j i : Nat) (s : Shared), n - i = j → i ≤ n → St i s → Sx' P w s.heap S (xs.take i) → (∀ s', Moved (S :: wr) G s s' → Sx' P w s'.heap S xs → R (.ok (.ret .none)) s') → codeAny (model P w) A (.builtin "set.update.loop" ⟨[.ref S, .ref I], []⟩) R s := by
  have hSw : S ∉ wr := fun h => hSf (W.sub _ h)
  have up : ∀ b ∈ wr, b ∈ S :: wr := fun b hb => List.mem_cons_of_mem _ hb
  intro j
  induction j with
  | zero =>
    intro i s hj hi hst hS hR
    obtain rfl : i = n := by omega
    refine codeAny_builtin F.entry_set_update_loop ?_
    rw [Around.under_plainId F.plain_set_update_loop _]
    refine wpAny_bind (m := pyNext (.ref I)) (W.done s _ _ hst fun s' hm => wpAny_pure (hR s' (hm.mono up) ?_))
    have e : xs.take i = xs := List.take_of_length_le (by omega)
    rw [e] at hS
    exact SetOf.moved hS fun o e => hm.heap S o hSw e
  | succ j ih =>
    intro i s hj hi hst hS hR
    have hlt : i < n := by omega
    refine codeAny_builtin F.entry_set_update_loop ?_
    rw [Around.under_plainId F.plain_set_update_loop _]
    refine wpAny_bind (m := pyNext (.ref I)) (W.item i s _ _ hlt hst fun v s' hP hst' hm => ?_)
    obtain ⟨t, rfl⟩ := hval i v hP
    have hS1 : Sx' P w s'.heap S (xs.take i) := SetOf.moved hS fun o e => hm.heap S o hSw e
    have hx : xs[i]? = some (xs.getD i Str.empty) := by
      rw [List.getD_eq_getElem?_getD, List.getElem?_eq_getElem (by omega)]
      rfl
    refine wpAny_bind (m := holding [Value.str (xs.getD i Str.empty) t] (setAdd S (.str (xs.getD i Str.empty) t))) (wpAny_holding ?_)
    unfold setAdd
    refine wpAny_holding (wpAny_bind ((PySem.strKind P w).pyHash (k := xs.getD i Str.empty) (strKind_is _ _ _ _) ?_))
    have hc := dcS_le (xs.take i)
    rw [List.length_take] at hc
    refine wpAny_setAddHashed_of (knd := PySem.strKind P w) (s := { s' with toks := s'.toks + 1 }) (strKind_is _ _ _ _) rfl hS1 (by omega) fun h' hsb hS2 => ?_
    have hS3 : Sx' P w h' S (xs.take (i + 1)) := by
      have e : xs.take (i + 1) = xs.take i ++ [xs.getD i Str.empty] := by rw [List.take_add_one, hx]; rfl
      refine SetOf_congr hS2 (fun k => ?_) ?_
      · rw [e, List.any_append]
        show _ = (_ || ((xs.getD i Str.empty == k) || false))
        rw [Bool.or_false]
        congr 1
        by_cases q : k = xs.getD i Str.empty
        · rw [q]; simp
        · rw [decide_eq_false q]
          exact (beq_eq_false_iff_ne.mpr fun z => q z.symm).symm
      · rw [e, dcS_snoc]
    have go : Moved (S :: wr) G s { s' with heap := h', toks := s'.toks + 1 } := (hm.mono up).then_heap (Nat.le_succ _) fun b o hb e => by
      rw [hsb.2 b (fun z => hb (by rw [z]; exact List.mem_cons_self))]
      exact e
    refine wpAny_pure ⟨plainId_quiet F.plain_set_update_loop _, ih (i + 1) _ (by omega) hlt (W.frame _ s' _ _ hst' (Nat.le_succ _) fun b hb o e => ?_) hS3 fun s'' hm2 hS'' => hR s'' (Moved.trans W.gtrans go hm2) hS''⟩
    rw [hsb.2 b (fun z => hSf (by rw [← z]; exact hb))]
    exact e
end
end VL

/-! VLY1: set(t) of a tuple of texts -/
namespace VL
open PySem PySem.Spec PyProof.Rows L2
section
variable {P : Program} {w : World} {A : Around} {E : Value → Shared → Prop} {s : Shared}
abbrev newS (led : Bool) : Obj := { cls := .type "set", dict := none, data := .set #[] 0 (.fresh 0 0 led) }
abbrev SGood (P : Program) (w : World) (s : Shared) (xs : List Str) (h' : Heap) : Prop := Sx' P w h' s.heap.objs.size xs ∧ ∀ b o, b < s.heap.objs.size → s.heap.get? b = some o → h'.get? b = some o
set_option maxHeartbeats 3200000 in
theorem call_setT {l : Addr} {items : Array Value} {xs : List Str} {Q : Value → Shared → Prop} (hh : A.handled = none) (hl : s.heap.IsTuple l items) (hi : StrsAre items.toList xs) (hb : xs.length + 1 < scanBound)
    (h : ∀ (h' : Heap) (tk : Nat), SGood P w s xs h' → Q (.ref s.heap.objs.size) { s with heap := h', toks := tk }) :
    wpAny (model P w) A (call (.type "set") [.ref l]) Q E s := by
  have hsz : xs.length = items.size := by rw [← StrsAre.len_eq hi, Array.length_toList]
  have hval : ∀ (i : Nat) (v : Value), items[i]? = some v → ∃ t, v = .str (xs.getD i Str.empty) t := fun i v hv => SS.strs_at hi i v (by rw [Array.getElem?_toList]; exact hv)
  obtain ⟨c, tl, hmro⟩ := PySem.F.called_set.mro
  have hmade := PySem.F.called_set.made
  have hsub := PySem.F.called_set.sub
  have h1 := PySem.F.called_set.notType
  have h2 := PySem.F.called_set.canCreate
  have hct := PySem.F.typeCall_set_1 (.ref l)
  refine wpAny_call (codeAny_of_tree ?_)
  show wpAny _ _ (callAny (.type "set") _) _ _ _
  refine wpAny_pure ⟨Code.quiet_builtin _ (by decide +kernel), codeAny_builtin PySem.F.entry_type_call ?_⟩
  rw [Around.under_plain (weight_type_call_type "set" [.ref l] []) rfl]
  repeat (any_goals (first | assumption | wp_step))
  refine codeAny_mono (code_set_new_1 (.ref l) (E := E) (Q₁ := fun obj s₁ => ∃ led : Bool, obj = .ref s.heap.objs.size ∧ s₁ = { s with heap := s.heap.push (newS led) }) fun led => ⟨led, rfl, rfl⟩) fun r s₁ hr => ?_
  cases r with
  | error e => exact hr
  | ok fl =>
  cases fl with
  | next => exact hr.elim
  | brk => exact hr.elim
  | cont => exact hr.elim
  | ret obj =>
    obtain ⟨led, rfl, rfl⟩ := hr
    have hS : (s.heap.push (newS led)).get? s.heap.objs.size = some (newS led) := Heap.get?_push_size _ rfl
    have hT : Shared.TypeIs { s with heap := s.heap.push (newS led) } (.ref s.heap.objs.size) "set" := ⟨_, hS, rfl⟩
    have hli := PySem.F.called_set.init.lookup
    have hbi := PySem.F.called_set.init.bind (.ref s.heap.objs.size)
    repeat (any_goals (first | assumption | wp_step))
    refine codeAny_mono (codeAny_call_builtin (R := wants (fun r s₂ => r = .none ∧ ∃ h' tk, s₂ = { s with heap := h', toks := tk } ∧ SGood P w s xs h') E) PySem.F.called_set.init.plain PySem.F.entry_set_init (check_set_init_1 hT ?_)) fun r₂ s₂ hr₂ => ?_
    · obtain ⟨⟨ocls, odict, odata, oslots⟩, hol, hcl, nl, hdl⟩ := hl
      simp only at hcl hdl
      subst hcl hdl
      have hol' : (s.heap.push (newS led)).get? l = some { cls := .type "tuple", dict := odict, data := .seq items nl, slots := oslots } := Heap.get?_push_of_some _ hol
      have hsls := PySem.F.sub_tuple_set
      have hslf := PySem.F.sub_tuple_frozenset
      have hne : (Value.type "tuple" == Value.type "dict") = false := by decide
      have hl1 : (s.heap.push (newS led)).IsTuple l items := ⟨_, hol', rfl, nl, rfl⟩
      unfold Builtin.«set.__init__» noKeywords Builtin.Frozenset.updateFrom
      generalize hPI : pyIter = PI
      wp_walk
      subst hPI
      have hlS : l < s.heap.objs.size := Heap.lt_size hol
      refine wpAny_pyIter_tuple hl1 (wpAny_bind (wpAny_runValue ?_))
      have hneI : l ≠ (s.heap.push (newS led)).objs.size := by
        rw [Heap.size_push]
        exact Nat.ne_of_lt (Nat.lt_succ_of_lt hlS)
      have hSf : s.heap.objs.size ∉ [(s.heap.push (newS led)).objs.size, l] := by
        rw [Heap.size_push]
        intro z
        rcases List.mem_cons.mp z with z | z
        · exact absurd z (Nat.ne_of_lt (Nat.lt_succ_self _))
        · exact absurd (List.mem_singleton.mp z) (Nat.ne_of_gt hlS)
      refine fill_texts ((Walks.tuple (by simp [hh]) _ l hneI items).toS) s.heap.objs.size hSf xs hsz (by omega) hval (items.size - 0) 0 _ (by omega) (Nat.zero_le _) ?hI ?hE ?hR
      case hI => exact ⟨⟨_, Heap.get?_push_size _ rfl, rfl, rfl⟩, (hl1.push _)⟩
      case hE =>
        exact SetOf_congr ((setObjOf_fresh (knd := PySem.strKind P w) led).setOf (Heap.get?_push_of_some _ hS) (by unfold scanBound; omega)) (fun _ => rfl) rfl
      case hR =>
        rintro ⟨h', g', d', tk', os'⟩ hm hS'
        obtain rfl : g' = s.gens := hm.gens
        obtain rfl : d' = s.drawn := hm.drawn
        obtain rfl : os' = s.os := hm.os
        refine wpAny_pure (wpAny_pure ⟨rfl, h', tk', rfl, hS', fun b o hb e => ?_⟩)
        refine hm.heap b o (fun z => ?_) (Heap.get?_push_of_some _ (Heap.get?_push_of_some _ e))
        rcases List.mem_cons.mp z with z | z
        · exact Nat.ne_of_lt hb z
        · have z := List.mem_singleton.mp z
          rw [Heap.size_push] at z
          exact Nat.ne_of_lt (Nat.lt_succ_of_lt hb) z
    · cases r₂ with
      | error e => exact hr₂
      | ok fl =>
        cases fl with
        | next => exact hr₂.elim
        | brk => exact hr₂.elim
        | cont => exact hr₂.elim
        | ret r =>
          obtain ⟨rfl, h', tk, rfl, g⟩ := hr₂
          repeat (any_goals (first | assumption | wp_step))
          exact h _ _ g
end
end VL

/-! VLY2: sorting by texts -/
namespace VL
open PySem PySem.Spec PyProof.Rows L2
/-- x stands ahead of y -/
abbrev ltS (x y : Str) : Bool := ltCps x.cps.toList y.cps.toList
section
variable {α β : Type}
def insK (p : Str × α) : List (Str × α) → List (Str × α)
  | [] => [p]
  | q :: r => if ltS p.1 q.1 then p :: q :: r else q :: insK p r
def isortK : List (Str × α) → List (Str × α)
  | [] => []
  | p :: r => insK p (isortK r)
theorem insK_perm (p : Str × α) : ∀ l : List (Str × α), (insK p l).Perm (p :: l)
  | [] => List.Perm.refl _
  | q :: r => by
    unfold insK
    split
    · exact List.Perm.refl _
    · exact ((insK_perm p r).cons q).trans (List.Perm.swap _ _ _)
theorem isortK_perm : ∀ l : List (Str × α), (isortK l).Perm l
  | [] => List.Perm.refl _
  | p :: r => (insK_perm p _).trans ((isortK_perm r).cons p)
theorem insK_map (f : α → β) (p : Str × α) : ∀ l : List (Str × α), insK (p.1, f p.2) (l.map fun q => (q.1, f q.2)) = (insK p l).map fun q => (q.1, f q.2)
  | [] => rfl
  | q :: r => by
    simp only [List.map_cons, insK]
    split
    · rfl
    · rw [insK_map f p r]
      rfl
theorem isortK_map (f : α → β) : ∀ l : List (Str × α), isortK (l.map fun q => (q.1, f q.2)) = (isortK l).map fun q => (q.1, f q.2)
  | [] => rfl
  | p :: r => by
    show insK (p.1, f p.2) (isortK (r.map fun q => (q.1, f q.2))) = _
    rw [isortK_map f r, insK_map]
    rfl
theorem ltS_trans {x y z : Str} (h1 : ltS x y = true) (h2 : ltS y z = true) : ltS x z = true := by
  simp only [ltS, ltCps_eq, decide_eq_true_eq] at *
  exact List.lt_trans h1 h2
theorem ltS_asym {x y : Str} (h1 : ltS x y = true) : ltS y x = false := by
  simp only [ltS, ltCps_eq, decide_eq_true_eq, decide_eq_false_iff_not] at *
  exact List.not_lt.mpr (List.le_of_lt h1)
theorem ltS_tot {x y : Str} (h1 : ltS x y = false) (h2 : ltS y x = false) : x = y := by
  simp only [ltS, ltCps_eq, decide_eq_false_iff_not] at *
  have e := List.le_antisymm (List.not_lt.mp h2) (List.not_lt.mp h1)
  obtain ⟨⟨a⟩⟩ := x
  obtain ⟨⟨b⟩⟩ := y
  exact congrArg (fun l : List Nat => (⟨⟨l⟩⟩ : Str)) e
theorem insK_sorted {p : Str × α} : ∀ {l : List (Str × α)}, l.Pairwise (fun a b => ltS b.1 a.1 = false) → (insK p l).Pairwise (fun a b => ltS b.1 a.1 = false)
  | [], _ => List.pairwise_singleton _ _
  | q :: r, h => by
    unfold insK
    have hq := List.pairwise_cons.mp h
    split
    · rename_i c
      refine List.pairwise_cons.mpr ⟨fun z hz => ?_, h⟩
      rcases List.mem_cons.mp hz with rfl | hz
      · exact ltS_asym c
      · cases e : ltS z.1 p.1 with
        | false => rfl
        | true =>
          have := hq.1 z hz
          rw [ltS_trans e c] at this
          cases this
    · rename_i c
      refine List.pairwise_cons.mpr ⟨fun z hz => ?_, insK_sorted hq.2⟩
      rcases List.mem_cons.mp ((insK_perm p r).mem_iff.mp hz) with rfl | hz
      · exact Bool.eq_false_iff.mpr c
      · exact hq.1 z hz
theorem isortK_sorted : ∀ l : List (Str × α), (isortK l).Pairwise (fun a b => ltS b.1 a.1 = false)
  | [] => List.Pairwise.nil
  | p :: r => insK_sorted (isortK_sorted r)
/-- one such order alone -/
theorem sortK_uniq : ∀ {l m : List (Str × α)}, l.Perm m → (m.map (·.1)).Nodup → l.Pairwise (fun a b => ltS b.1 a.1 = false) → m.Pairwise (fun a b => ltS b.1 a.1 = false) → l = m
  | [], m, h, _, _, _ => by rw [h.nil_eq]
  | p :: l, [], h, _, _, _ => absurd h.length_eq (by simp)
  | p :: l, q :: m, h, hn, hl, hm => by
    have hl' := List.pairwise_cons.mp hl
    have hm' := List.pairwise_cons.mp hm
    have hn' := List.nodup_cons.mp (show ((q :: m).map (·.1)).Nodup from hn)
    have e : p = q := by
      rcases List.mem_cons.mp (h.mem_iff.mp List.mem_cons_self) with e | hp
      · exact e
      · rcases List.mem_cons.mp (h.mem_iff.mpr List.mem_cons_self) with e | hq
        · exact e.symm
        · have k := ltS_tot (hm'.1 p hp) (hl'.1 q hq)
          exact absurd (List.mem_map.mpr ⟨p, hp, k⟩) hn'.1
    subst e
    rw [sortK_uniq (List.perm_cons _ |>.mp h) hn'.2 hl'.2 hm'.2]
end
/-! ### the built-in's sort -/
def KOut (ks : List Str) (us out : List Value) : Prop := ∃ ps : List (Str × Value), ps.Perm (ks.zip us) ∧ out = ps.map Prod.snd ∧ ps.Pairwise (fun p q => ltS q.1 p.1 = false)
theorem kout_of {keys : Array Value} {vs : List Value} {ks : List Str} (hk : StrsAre keys.toList ks) {xs : Array Keyed} (hp : xs.Perm (keys.zip vs.toArray)) (hs : SortedToK PyProof.Rows.strKind xs xs.size) : KOut ks vs (xs.map (·.2)).toList := by
  have hl : xs.toList.Perm (keys.toList.zip vs) := by
    rw [← ksk_zip]
    exact Array.perm_iff_toList_perm.mp hp
  refine ⟨xs.toList.map fun p => (strOf p.1, p.2), ?_, ?_, ?_⟩
  · have e : (keys.toList.zip vs).map (fun p : Keyed => (strOf p.1, p.2)) = ks.zip vs := by
      rw [← hk.strs, List.zip_map_left]
      exact List.map_congr_left fun ⟨x, y⟩ _ => rfl
    rw [← e]
    exact hl.map _
  · rw [Array.toList_map, List.map_map]
    rfl
  · rw [List.pairwise_iff_getElem]
    intro i j hi hj hij
    have hi' : i < xs.size := by simpa using hi
    have hj' : j < xs.size := by simpa using hj
    have at' : ∀ n (hn : n < xs.size), ∃ x t, xs[n].1 = .str x t := fun n hn => by
      have hm : xs[n] ∈ keys.toList.zip vs := hl.mem_iff.mp (by simp)
      exact hk.all _ (List.of_mem_zip (show (xs[n].1, xs[n].2) ∈ _ from hm)).1
    obtain ⟨x, t, ex⟩ := at' i hi'
    obtain ⟨y, u, ey⟩ := at' j hj'
    have h1 := hs i j (Nat.le_of_lt hij) hj'
    rw [KK_str hi' (x := x) (t := t) (q := xs[i].2) (Prod.ext ex rfl), KK_str hj' (x := y) (t := u) (q := xs[j].2) (Prod.ext ey rfl)] at h1
    change decide (y.cps.toList < x.cps.toList) = false at h1
    simp only [List.getElem_map, Array.getElem_toList]
    rw [show strOf xs[i].1 = x by rw [ex]; rfl, show strOf xs[j].1 = y by rw [ey]; rfl, ltS, ltCps_eq]
    exact h1
section
variable {prog : Program} {w : World} {A : Around} {E : Value → Shared → Prop} {s : Shared} {a kS : Addr} {vs : List Value} {ks : List Str} {keys : Array Value} {e e1 : Nat} {P : PySem.Fin → Shared → Prop}
/-- the heap behind the sort -/
def SEnd (s : Shared) (a kS : Addr) (ks : List Str) (vs : List Value) (P : PySem.Fin → Shared → Prop) : Prop := ∀ (h' : Heap) (out : List Value) (c : Nat), h'.get? a = some (seqObj "list" out.toArray c) → (∀ b o, b ∉ [a, kS] → s.heap.get? b = some o → h'.get? b = some o) → KOut ks vs out → P (.done (.ret .none)) { s with heap := h' }
theorem sort_tail {st : SortSt} (ha : s.heap.get? a = some (seqObj "list" #[] e1)) (hkS : s.heap.get? kS = some (seqObj "list" keys e)) (hne : kS ≠ a) (hk : StrsAre keys.toList ks) (hlen : ks.length = vs.length) (h64 : vs.length < 64)
    (hp : (arrOf st).Perm (keys.zip vs.toArray)) (hs : SortedToK PyProof.Rows.strKind (arrOf st) (arrOf st).size) (hfl : failedOf st = none) (h : SEnd s a kS ks vs P) : wpAny (model prog w) A (ksk_tail a false e1 (.ref kS) st) P E s := by
  have hsz : keys.size = vs.length := by
    have h1 := StrsAre.len_eq hk
    rw [Array.length_toList] at h1
    omega
  have hsz2 : (arrOf st).size = vs.length := by rw [hp.size_eq, Array.size_zip, hsz, List.size_toArray, Nat.min_self]
  have s1 := Heap.SameBut.update s.heap kS (Obj.mapSeq fun _ => (#[] : Array Value))
  have ha1 : (s.heap.update kS (Obj.mapSeq fun _ => (#[] : Array Value))).get? a = some (seqObj "list" #[] e1) := (s1.2 a hne.symm).trans ha
  have s2 := Heap.SameBut.update (s.heap.update kS (Obj.mapSeq fun _ => (#[] : Array Value))) a (Obj.mapSeq fun _ => (arrOf st).map (·.2))
  have hc2 := get?_update_seq ha1 fun _ => (arrOf st).map (·.2)
  unfold ksk_tail
  refine wpAny_bind (listUpdate_at hkS rfl ?_ (by rw [hsz, sizeLine_eq]; omega) (Nat.zero_le _))
  refine wpAny_bind (wpAny_letGo (wpAny_bind (seqEpoch_at ha1 rfl ?_)))
  refine wpAny_bind (listUpdate_at ha1 rfl ?_ (Nat.zero_le _) (by simp only [Bool.false_eq_true, if_false, Array.size_map, hsz2]; rw [sizeLine_eq]; omega))
  rw [hfl]
  simp only [bne_self_eq_false, Bool.false_eq_true, if_false]
  refine wpAny_pure (h _ ((arrOf st).map (·.2)).toList _ (by rw [Array.toArray_toList]; exact hc2) (fun b o hb q => ?_) (kout_of hk hp hs))
  rw [s2.2 b (fun z => hb (by rw [z]; exact List.mem_cons_self)), s1.2 b (fun z => hb (by rw [z]; exact List.mem_cons_of_mem _ List.mem_cons_self))]
  exact q
theorem sort_end (ha : s.heap.get? a = some (seqObj "list" #[] e1)) (hkS : s.heap.get? kS = some (seqObj "list" keys e)) (hne : kS ≠ a) (hk : StrsAre keys.toList ks) (hlen : ks.length = vs.length) (h64 : vs.length < 64) (h : SEnd s a kS ks vs P) :
    wpAny (model prog w) A (ksk_end a false vs.toArray e1 (.ref kS) keys) P E s := by
  have hsz : keys.size = vs.length := by
    have h1 := StrsAre.len_eq hk
    rw [Array.length_toList] at h1
    omega
  have hzs : (keys.zip vs.toArray).size = vs.length := by rw [Array.size_zip, hsz, List.size_toArray, Nat.min_self]
  unfold ksk_end
  simp only [Bool.false_eq_true, if_false]
  by_cases h2 : vs.toArray.size < 2
  · rw [if_pos h2, if_pos h2]
    refine wpAny_bind (wpAny_pure ?_)
    rw [StateT.run_pure]
    refine wpAny_bind (wpAny_pure ?_)
    refine sort_tail (st := SortSt.mk' general' (keys.zip vs.toArray) #[] 7 none) ha hkS hne hk hlen h64 (Array.Perm.refl _) ?_ rfl h
    intro i j hij hj
    have hj2 : j < (keys.zip vs.toArray).size := hj
    rw [hzs] at hj2
    rw [List.size_toArray] at h2
    obtain rfl : i = j := by omega
    exact PyProof.Rows.strKind.irrefl _
  · rw [if_neg h2, if_neg h2]
    rw [List.size_toArray] at h2
    obtain ⟨v₁, v₂, rest, ek⟩ : ∃ v₁ v₂ rest, keys.toList = v₁ :: v₂ :: rest := by
      have hl : keys.toList.length = vs.length := by rw [Array.length_toList]; exact hsz
      match q : keys.toList, hl with
      | [], hl => simp at hl; omega
      | [_], hl => simp at hl; omega
      | v₁ :: v₂ :: rest, _ => exact ⟨_, _, _, rfl⟩
    have ek2 : keyKind' keys = pure oneType' := by
      have : keys = (v₁ :: v₂ :: rest).toArray := by rw [← ek, Array.toArray_toList]
      rw [this]
      exact keyKind_strs (by rw [← ek]; exact hk)
    have h0 : KeysOf PyProof.Rows.strKind (keys.zip vs.toArray) := fun p hp => by
      rw [ksk_zip] at hp
      obtain ⟨x, y⟩ := p
      obtain ⟨z, t, ez⟩ := hk.all _ (List.of_mem_zip hp).1
      exact ⟨z.cps.toList, by rw [ez]⟩
    rw [ek2]
    refine wpAny_bind (wpAny_pure ?_)
    refine wpAny_bind (wpAny_mono (wpS_sortRunsK (a₀ := keys.zip vs.toArray) (st := SortSt.mk' oneType' (keys.zip vs.toArray) #[] 7 none) (Q := fun _ st' => (arrOf st').Perm (keys.zip vs.toArray) ∧ failedOf st' = none ∧ SortedToK PyProof.Rows.strKind (arrOf st') (keys.zip vs.toArray).size)
      strKind_oneLt h0 ⟨Array.Perm.refl _, rfl, rfl, rfl⟩ (by rw [hzs]; omega) (by rw [hzs]; exact h64) fun st' a1 a2 a3 => ⟨a1, a2, a3⟩) ?_ fun _ _ e => e)
    rintro ⟨⟨⟩, st'⟩ s' ⟨rfl, hp, hf, hs⟩
    exact sort_tail ha hkS hne hk hlen h64 hp (by rw [hp.size_eq]; exact hs) hf h
end
end VL

/-! VLY3: sorted(objects, key=str) -/
namespace VL
open PySem PySem.Spec PyProof.Rows L2
theorem strs_snoc {x : Str} {t : Tok} : ∀ {vs : List Value} {xs : List Str}, StrsAre vs xs → StrsAre (vs ++ [.str x t]) (xs ++ [x])
  | _, _, .nil => .cons x t .nil
  | _, _, .cons y u h => .cons y u (strs_snoc h)
section
variable {X : Cx} {G : Gx} {W : WX} {cn k : Nat} {f : Addr} {fd : FuncData} {ps : List Str} {fn : Fn}
/-- the facts of the class's __str__ -/
structure KeyF (X : Cx) (G : Gx) (cn k : Nat) (f : Addr) (fd : FuncData) (ps : List Str) (fn : Fn) : Prop where
  F : FnOk X.prog X.w X.K X.mg X.base (L2.CX X.prog X.w) k f fd ps (spF G.K 1 fn)
  at_ : PySem.W.findIn X.K (.ref (G.K.κ cn)) "__str__" = some (some (.ref f))
  fn : PySem.W.isFn X.K (.ref f) = true
  bd : Binds X.K fd ps []
  rm : Room (k + 4) X.A
theorem key_call (T : KeyF X G cn k f fd ps fn) {pins : List (Addr × Obj)} {s : Shared} {σ : L2.St} {H : Hp} (I : Inv X pins σ H s) {o dx : Addr} {fs : List (Str × V)} (ho : H o = some (.ins (G.K.κ cn) dx fs)) {Q : VK}
    (hsp : spF G.K 1 fn [.ref o] H (fun v H' => (∃ y, v = .str y) ∧ Q v H') (fun _ _ _ => False)) : wpAny (model X.prog X.w) X.A.in1.in1 (call (.type "str") [.ref o]) (EP X pins σ Q) (fun _ _ => False) s := by
  obtain ⟨mA, J, _⟩ := ins_get I.hok ho
  obtain ⟨od, J, _⟩ := J.look
  have hr4 := T.rm.in1.in1.in1.in1
  have hl := T.F.len _ _ _ _ hsp
  have r2 : Vals [V.ref o] [Value.ref o] := .cons rfl .nil
  refine PySem.W.kso_call (A := X.A.in1.in1) (by have := hr4.un; omega) I.kIn J T.at_ T.fn ?_
  refine wpAny_call (codeAny_mono (T.F.run _ X.stack s H ⟨[.ref o], []⟩ [.ref o] [.ref o] _ _ hr4 I.env0.in1.in1.in1.in1 (by simpa using T.bd s [.ref o] I.kIn (by simpa using hl)) r2 hsp) fun q s' hq => ?_)
  cases q with
  | error e =>
    obtain ⟨a, B, H', cls, d, _, _, _, _, _, _, _, hE⟩ := hq
    exact hE
  | ok fl =>
    cases fl with
    | ret w =>
      obtain ⟨z, H', I', rz, ⟨y, rfl⟩, ex⟩ := I.after hq
      obtain ⟨t, rfl⟩ := rz
      exact ⟨.str y, H', I', ⟨t, rfl⟩, ex⟩
    | next => exact False.elim hq
    | brk => exact False.elim hq
    | cont => exact False.elim hq
/-- the texts of objects of the class cn -/
def keysD (cn : Nat) (fn : Fn) (cs : List Cell) : List D → Option (List Str)
  | [] => some []
  | .obj C ks ds :: r => if C = cn then (match callV 0 fn [.obj C ks ds] cs, keysD cn fn cs r with
    | .ok (.str x) _, some xs => some (x :: xs)
    | _, _ => none) else none
  | _ => none
theorem callV0_cs {ds : List D} {cs c' : List Cell} {d : D} (h : callV 0 fn ds cs = .ok d c') : c' = cs := by
  unfold callV at h
  split at h
  · split at h
    · split at h
      · rename_i cs' _ c
        cases h
        have e := List.length_eq_zero_iff.mp c.1
        rw [e]
        simp
      · cases h
    · split at h <;> cases h
    · cases h
  · cases h
theorem keysD_at {cs : List Cell} {ds : List D} : ∀ {ks : List Str}, keysD cn fn cs ds = some ks → ks.length = ds.length ∧ ∀ (j : Nat) (d : D), ds[j]? = some d → ∃ kk dd x, d = .obj cn kk dd ∧ ks[j]? = some x ∧ callV 0 fn [d] cs = .ok (.str x) cs := by
  induction ds with
  | nil =>
    intro ks h
    cases h
    exact ⟨rfl, fun j d e => by simp at e⟩
  | cons d0 r ih =>
    intro ks h
    cases d0 with
    | obj C kk dd =>
      unfold keysD at h
      by_cases c : C = cn
      · rw [if_pos c] at h
        subst c
        split at h
        · rename_i x c' xs q1 q2
          cases h
          obtain ⟨e1, e2⟩ := ih q2
          have e3 := callV0_cs q1
          rw [e3] at q1
          refine ⟨by rw [List.length_cons, List.length_cons, e1], fun j d e => ?_⟩
          cases j with
          | zero =>
            cases e
            exact ⟨kk, dd, x, rfl, rfl, q1⟩
          | succ j => exact e2 j d e
        · cases h
      · rw [if_neg c] at h
        cases h
    | _ => cases h
section
variable {ρ : List Addr} {F : Hp} {st : S} {σ σ0 : L2.St} {H : Hp} {s : Shared} {pins : List (Addr × Obj)} {a kS : Addr} {e1 : Nat} {xs : List V} {us : List Value} {ds : List D} {ks : List Str} {P : PySem.Fin → Shared → Prop} {E : Value → Shared → Prop}
theorem fp_again {b : Addr} {o : Obj} {pl : List (Addr × Obj)} {H1 H2 : Hp} {s2 : Shared} (f : FpOk X pins H1 b) (I : Inv X (pins ++ pl) σ H2 s2) (hb : (b, o) ∈ pl) : FpOk X pins H2 b ∧ s2.heap.get? b = some o := by
  obtain ⟨h1, h2, _⟩ := I.pin (b, o) (List.mem_append_right _ (List.mem_append_right _ hb))
  exact ⟨⟨h2, f.2⟩, h1⟩
theorem sortK_rest (T : KeyF X G cn k f fd ps fn) (I : Inv X pins σ H s) (r : Rel G ρ F st σ0 H) (rv : RVs G.K ρ F ds xs) (vu : Vals xs us) (hkd : keysD cn fn st.cs ds = some ks) (h64 : us.length < 64) (fa : FpOk X pins H a) (fk : FpOk X pins H kS) (hne : kS ≠ a)
    (ha : s.heap.get? a = some (seqObj "list" #[] e1)) (hk : s.heap.get? kS = some (seqObj "list" #[] 0))
    (h : ∀ (ρ' : List Addr) (F' : Hp) (H' : Hp) (s' : Shared) (out : List Value) (c : Nat), Ext ρ F ρ' F' → Rel G ρ' F' st σ0 H' → Inv X pins σ H' s' → FpOk X pins H' a → s'.heap.get? a = some (seqObj "list" out.toArray c) → KOut ks us out → P (.done (.ret .none)) s') :
    wpAny (model X.prog X.w) X.A.in1.in1 (ksk_rest a (.type "str") false us.toArray e1 (.ref kS)) P E s := by
  obtain ⟨hkl, hka⟩ := keysD_at hkd
  have hdx : ds.length = xs.length := rv.length
  have hxu : xs.length = us.length := Paired.length vu
  have hZ : ∀ n, n ≤ 64 → n ≤ sizeLine := fun n hn => by rw [sizeLine_eq]; omega
  unfold ksk_rest
  refine wpAny_bind (wpAny_rule ?_)
  rw [List.forIn_toArray]
  refine wpAny_bind (ksk_fold (fun i s' => ∃ ρ' F' H' kA e, Ext ρ F ρ' F' ∧ Rel G ρ' F' st σ0 H' ∧ Inv X pins σ H' s' ∧ FpOk X pins H' a ∧ FpOk X pins H' kS ∧ s'.heap.get? a = some (seqObj "list" #[] e1) ∧ s'.heap.get? kS = some (seqObj "list" kA e) ∧ StrsAre kA.toList (ks.take i)) us 0 s
    ⟨ρ, F, H, #[], 0, Ext.refl, r, I, fa, fk, ha, hk, .nil⟩ ?step ?done)
  case step =>
    rintro j u s' hu ⟨ρ1, F1, H1, kA, e, x1, r1, I1, fa1, fk1, ha1, hk1, hs1⟩
    simp only [Nat.zero_add] at hs1 ⊢
    have hj : j < us.length := (List.getElem?_eq_some_iff.mp hu).1
    obtain ⟨d, hd⟩ : ∃ d, ds[j]? = some d := ⟨_, List.getElem?_eq_getElem (by omega)⟩
    obtain ⟨kk, dd, x, rfl, hkx, hc⟩ := hka j d hd
    obtain ⟨v, hv, rvv⟩ := (rv.ext x1).get hd
    obtain ⟨u', hu', ruv⟩ := vu.get hv
    rw [hu] at hu'
    cases hu'
    have rvv0 := rvv
    cases rvv with
    | @obj o dx _ _ _ _ h1 h2 h3 =>
      obtain rfl : u = Value.ref o := ruv
      have pl1 : (a, seqObj "list" #[] e1) ∈ pinsAt [a, kS] s'.heap := mem_pinsAt List.mem_cons_self ha1
      have pl2 : (kS, seqObj "list" kA e) ∈ pinsAt [a, kS] s'.heap := mem_pinsAt (List.mem_cons_of_mem _ List.mem_cons_self) hk1
      have I2 : Inv X (pins ++ pinsAt [a, kS] s'.heap) σ H1 s' := I1.pinned (fun b hb => by
        rcases List.mem_cons.mp hb with rfl | hb
        · exact fa1
        · rw [List.mem_singleton.mp hb]; exact fk1) (fun b hb => by
        rcases List.mem_cons.mp hb with rfl | hb
        · exact ⟨_, ha1, fun v z => by cases z⟩
        · rw [List.mem_singleton.mp hb]; exact ⟨_, hk1, fun v z => by cases z⟩)
      have hsp : spF G.K 1 fn [V.ref o] H1 (fun v H' => (∃ y, v = .str y) ∧ (v = .str x ∧ ∃ ρ2 F2, Ext ρ F ρ2 F2 ∧ Rel G ρ2 F2 st σ0 H')) (fun _ _ _ => False) := by
        have := callV_of (G := G) (W := W0) (m := 1) (n := 0) (fn := fn) (Q := fun v H' => (∃ y, v = .str y) ∧ (v = .str x ∧ ∃ ρ2 F2, Ext ρ F ρ2 F2 ∧ Rel G ρ2 F2 st σ0 H')) r1 (.cons rvv0 .nil) rfl (by
          rw [hc]
          intro ρ2 F2 H2 v x2 r2 rv2
          cases rv2
          exact ⟨⟨x, rfl⟩, rfl, ρ2, F2, x1.trans x2, r2⟩)
        exact this
      refine wpAny_bind (wpAny_attempt (wpAny_mono (key_call T I2 (r1.fz _ _ h1) hsp) (fun kv s'' he => ?_) fun _ _ hF => hF.elim))
      obtain ⟨v2, H2, I3, rk, rfl, ρ2, F2, x2, r2⟩ := he
      obtain ⟨t, rfl⟩ := rk
      obtain ⟨fa2, ha2⟩ := fp_again fa1 I3 pl1
      obtain ⟨fk2, hk2⟩ := fp_again fk1 I3 pl2
      have hz : kA.size ≤ 64 := by
        have h1 := StrsAre.len_eq hs1
        rw [Array.length_toList, List.length_take] at h1
        omega
      have sb := Heap.SameBut.update s''.heap kS (Obj.mapSeq (·.push (.str x t)))
      have hc2 := get?_update_seq hk2 (·.push (.str x t))
      have ek : ks.take (j + 1) = ks.take j ++ [x] := by rw [List.take_add_one, hkx]; simp
      have ea : (kA.push (Value.str x t)).toList = kA.toList ++ [Value.str x t] := by simp
      refine wpAny_bind (listUpdate_at hk2 rfl ?_ (hZ _ hz) (Nat.le_trans (Nat.le_of_eq (Array.size_push ..)) (Nat.succ_le_succ (hZ _ hz))))
      refine wpAny_pure ⟨rfl, ρ2, F2, H2, _, _, x2, r2, I3.unpinned.turnedL (t' := s''.toks) (ch := [kS]) (fun b o hb q => ?_) (fun b hb => by rw [List.mem_singleton.mp hb]; exact fk2), fa2, fk2, (sb.2 a hne.symm).trans ha2, hc2, ?_⟩
      · rw [sb.2 b (fun z => hb (by rw [z]; exact List.mem_cons_self))]
        exact q
      · rw [ea, ek]
        exact strs_snoc hs1
  case done =>
    rintro s' ⟨ρ1, F1, H1, kA, e, x1, r1, I1, fa1, fk1, ha1, hk1, hs1⟩
    have e3 : ks.take (0 + us.length) = ks := List.take_of_length_le (by omega)
    rw [e3] at hs1
    refine wpAny_bind (listItems_at hk1 rfl ?_)
    refine sort_end ha1 hk1 hne hs1 (by omega) h64 fun h' out c q1 q2 q3 => ?_
    have I2 : Inv X pins σ H1 { s' with heap := h' } := I1.turnedL (t' := s'.toks) (ch := [a, kS]) (fun b o hb q => q2 b o hb q) (fun b hb => by
      rcases List.mem_cons.mp hb with rfl | hb
      · exact fa1
      · rw [List.mem_singleton.mp hb]; exact fk1)
    exact h ρ1 F1 H1 _ out c x1 r1 I2 fa1 q1 q3
end
end
end VL

/-! VLY4: the rule for sorted(objects, key=str) -/
namespace VL
open PySem PySem.Spec PyProof.Rows L2
def sortD (ks : List Str) (ds : List D) : List D := (isortK (ks.zip ds)).map (·.2)
def risS : List Str → Bool
  | x :: y :: r => ltS x y && risS (y :: r)
  | _ => true
theorem risS_pw : ∀ {l : List Str}, risS l = true → l.Pairwise (fun a b => ltS a b = true)
  | [], _ => List.Pairwise.nil
  | [x], _ => List.pairwise_singleton _ _
  | x :: y :: r, h => by
    have h : (ltS x y && risS (y :: r)) = true := h
    rw [Bool.and_eq_true] at h
    have ih := risS_pw h.2
    refine List.pairwise_cons.mpr ⟨fun z hz => ?_, ih⟩
    rcases List.mem_cons.mp hz with rfl | hz
    · exact h.1
    · exact ltS_trans h.1 ((List.pairwise_cons.mp ih).1 z hz)
theorem risS_nodup {l : List Str} (h : risS l = true) : l.Nodup := (risS_pw h).imp fun {a b} q z => by
  subst z
  have := ltS_asym q
  rw [q] at this
  cases this
theorem nodup_of {α : Type} {ks : List Str} {ds : List α} (hl : ks.length = ds.length) (h : risS ((isortK (ks.zip ds)).map (·.1)) = true) : ks.Nodup := by
  have p := (isortK_perm (ks.zip ds)).map (·.1)
  rw [List.map_fst_zip (Nat.le_of_eq hl)] at p
  exact p.nodup_iff.mp (risS_nodup h)
section
variable {K : Kt} {ρ : List Addr} {F : Hp}
theorem rvs_all {γ : Type} {f : γ → D} {g : γ → V} : ∀ {l : List γ}, (∀ z ∈ l, RV K ρ F (f z) (g z)) → RVs K ρ F (l.map f) (l.map g)
  | [], _ => .nil
  | z :: l, h => .cons (h z List.mem_cons_self) (rvs_all fun y hy => h y (List.mem_cons_of_mem _ hy))
theorem vals_all {γ : Type} {f : γ → V} {g : γ → Value} : ∀ {l : List γ}, (∀ z ∈ l, RelV (f z) (g z)) → Vals (l.map f) (l.map g)
  | [], _ => .nil
  | z :: l, h => .cons (h z List.mem_cons_self) (vals_all fun y hy => h y (List.mem_cons_of_mem _ hy))
theorem zip_all : ∀ {ds : List D} {xs : List V} {us : List Value}, RVs K ρ F ds xs → Vals xs us → ∀ z ∈ ds.zip (xs.zip us), RV K ρ F z.1 z.2.1 ∧ RelV z.2.1 z.2.2
  | [], _, _, _, _ => fun z hz => by simp at hz
  | d :: ds, _, _, .cons h1 h2, .cons k1 k2 => fun z hz => by
    rcases List.mem_cons.mp hz with rfl | hz
    · exact ⟨h1, k1⟩
    · exact zip_all h2 k2 z hz
theorem kout_rel {ks : List Str} {ds : List D} {xs : List V} {us out : List Value} (hl : ks.length = ds.length) (hn : ks.Nodup) (rv : RVs K ρ F ds xs) (vu : Vals xs us) (ho : KOut ks us out) : ∃ ys, RVs K ρ F (sortD ks ds) ys ∧ Vals ys out ∧ ys.length = xs.length := by
  have l1 := rv.length
  have l2 : xs.length = us.length := Paired.length vu
  have l3 : (xs.zip us).length = ds.length := by rw [List.length_zip]; omega
  have l4 : (ds.zip (xs.zip us)).length = ks.length := by rw [List.length_zip]; omega
  obtain ⟨ps, p1, p2, p3⟩ := ho
  have hall : ∀ z ∈ isortK (ks.zip (ds.zip (xs.zip us))), RV K ρ F z.2.1 z.2.2.1 ∧ RelV z.2.2.1 z.2.2.2 := fun z hz => zip_all rv vu z.2 (List.of_mem_zip (show (z.1, z.2) ∈ _ from (isortK_perm _).mem_iff.mp hz)).2
  have e1 : ks.zip ds = (ks.zip (ds.zip (xs.zip us))).map fun q => (q.1, q.2.1) := by
    have e : ds = (ds.zip (xs.zip us)).map (·.1) := (List.map_fst_zip (by omega)).symm
    conv => lhs; rw [e]
    rw [List.zip_map_right]
    rfl
  have e2 : ks.zip us = (ks.zip (ds.zip (xs.zip us))).map fun q => (q.1, q.2.2.2) := by
    have e : us = (ds.zip (xs.zip us)).map (fun z => z.2.2) := by
      have e' : (ds.zip (xs.zip us)).map (fun z => z.2.2) = ((ds.zip (xs.zip us)).map (·.2)).map (·.2) := by rw [List.map_map]; rfl
      rw [e', List.map_snd_zip (by omega), List.map_snd_zip (by omega)]
    conv => lhs; rw [e]
    rw [List.zip_map_right]
    rfl
  have e3 : sortD ks ds = (isortK (ks.zip (ds.zip (xs.zip us)))).map fun q => q.2.1 := by
    unfold sortD
    rw [e1, isortK_map (fun z : D × V × Value => z.1), List.map_map]
    rfl
  have e4 : ps = (isortK (ks.zip (ds.zip (xs.zip us)))).map fun q => (q.1, q.2.2.2) := by
    rw [← isortK_map (fun z : D × V × Value => z.2.2), ← e2]
    refine sortK_uniq (p1.trans (isortK_perm _).symm) ?_ p3 (isortK_sorted _)
    have p := (isortK_perm (ks.zip us)).map (·.1)
    rw [List.map_fst_zip (by omega)] at p
    exact p.nodup_iff.mpr hn
  refine ⟨(isortK (ks.zip (ds.zip (xs.zip us)))).map (fun q => q.2.2.1), ?_, ?_, ?_⟩
  · rw [e3]
    exact rvs_all fun z hz => (hall z hz).1
  · rw [p2, e4, List.map_map]
    exact vals_all fun z hz => (hall z hz).2
  · rw [List.length_map, (isortK_perm _).length_eq, List.length_zip]
    omega
end
section
variable {X : Cx} {G : Gx} {W : WX} {cn k : Nat} {f : Addr} {fd : FuncData} {ps : List Str} {fn : Fn}
def rSortK (K : PySem.W.Frag) (G : Gx) (cn : Nat) (fn : Fn) : List V → List V → Hp → VK → Prop := fun vs zs H Q => ∃ (ρ : List Addr) (F : Hp) (st : S) (σ0 : L2.St) (l : Addr) (xs : List V) (ds : List D) (ks : List Str), vs = [.ref l] ∧ zs = [.ty "str"] ∧ Rel G ρ F st σ0 H ∧ SqL K H l xs ∧ RVs G.K ρ F ds xs ∧ keysD cn fn st.cs ds = some ks ∧ ks.Nodup ∧ ds.length < 64 ∧
  ∀ (ρ' : List Addr) (F' : Hp) (H' : Hp) (ys : List V) (p : Addr), Ext ρ F ρ' F' → Rel G ρ' F' st σ0 H' → RVs G.K ρ' F' (sortD ks ds) ys → H' p = none → Q (.ref p) (upd H' p (.lst ys))
theorem cr_sortK (T : KeyF X G cn k f fd ps fn) : CallRK X (.builtin "sorted") [Str.ofString "key"] (rSortK X.K G cn fn) := by
  intro pins s σ H vs zs us ws Q I r rz h
  obtain ⟨ρ, F, st, σ0, l, xs, ds, ks, rfl, rfl, hR, hs, rv, hkd, hnd, h64, q⟩ := h
  obtain rfl := Vals.ref1 r
  obtain ⟨w1, rfl, e1⟩ := vals1 rz
  obtain rfl : w1 = Value.type "str" := e1
  obtain ⟨its, vu, hl, hz⟩ := I.list hs
  have l1 := rv.length
  have l2 : xs.length = its.length := Paired.length vu
  have hsl : its.length ≤ sizeLine := by rw [← l2]; exact hz
  refine call_function_entry_kw kind_sorted plain_sorted entry_sorted (ksk_s1 _ _) ?_
  unfold Builtin.«sorted»
  refine wpAny_bind (m := checkCount "sorted" 1 1 _) (wpAny_pure ?_)
  refine wpAny_bind (collect_list hl.isList ?_ hsl)
  refine wpAny_bind (wpAny_newList ?_ hsl)
  have hsz : ((s.heap.push (seqObj "list" #[] 0)).update s.heap.objs.size (Obj.mapSeq (· ++ its.toArray))).objs.size = s.heap.objs.size + 1 := by rw [Heap.size_update, size_push']
  generalize hh1 : (s.heap.push (seqObj "list" #[] 0)).update s.heap.objs.size (Obj.mapSeq (· ++ its.toArray)) = h1 at hsz
  have k1 : ∀ b o, s.heap.get? b = some o → h1.get? b = some o := fun b o z => by
    rw [← hh1, Heap.get?_update_ne _ _ _ _ (Nat.ne_of_lt (Heap.lt_size z))]
    exact Heap.get?_push_of_some _ z
  have hoL : (h1.push (seqObj "list" its.toArray 0)).get? (s.heap.objs.size + 1) = some (seqObj "list" its.toArray 0) := by
    rw [← hsz]
    exact Heap.get?_push_size _ rfl
  show wpAny _ _ _ _ _ { s with heap := h1.push (seqObj "list" its.toArray 0) }
  rw [hsz]
  refine wpAny_bind (wpAny_holding (wpAny_call_entry_kw slot_list_sort ⟨_, hoL, rfl⟩ entry_list_sort ?body (ksk_l1 _ _)))
  case body =>
    show wpAny _ X.A.in1.in1 (ksk_tree (s.heap.objs.size + 1) (.type "str") false) _ _ _
    unfold ksk_tree
    refine wpAny_bind (listItems_at hoL rfl ?_)
    refine wpAny_bind (listUpdate_at hoL rfl ?_ (by rw [List.size_toArray]; exact hsl) (Nat.zero_le _))
    have ho1 := get?_update_seq hoL fun _ => (#[] : Array Value)
    have sb := Heap.SameBut.update (h1.push (seqObj "list" its.toArray 0)) (s.heap.objs.size + 1) (Obj.mapSeq fun _ => (#[] : Array Value))
    generalize hh2 : (h1.push (seqObj "list" its.toArray 0)).update (s.heap.objs.size + 1) (Obj.mapSeq fun _ => (#[] : Array Value)) = h2 at ho1 sb
    have hs2 : h2.objs.size = s.heap.objs.size + 2 := by rw [← hh2, Heap.size_update, size_push', hsz]
    have k2 : ∀ b o, s.heap.get? b = some o → h2.get? b = some o := fun b o z => by
      rw [sb.2 b (Nat.ne_of_lt (Nat.lt_succ_of_lt (Heap.lt_size z)))]
      exact Heap.get?_push_of_some _ (k1 b o z)
    refine wpAny_bind (seqEpoch_at ho1 rfl ?_)
    refine wpAny_bind (wpAny_newTuple ?_ (by show its.length ≤ _; exact hsl))
    refine wpAny_bind (wpAny_newList ?_ (Nat.zero_le _))
    refine wpAny_holding ?_
    have k3 : ∀ b o, h2.get? b = some o → ((h2.push (seqObj "tuple" its.toArray 0)).push (seqObj "list" #[] 0)).get? b = some o := fun b o z => Heap.get?_push_of_some _ (Heap.get?_push_of_some _ z)
    have hs3 : (h2.push (seqObj "tuple" its.toArray 0)).objs.size = s.heap.objs.size + 3 := by rw [size_push', hs2]
    have hk3 : ((h2.push (seqObj "tuple" its.toArray 0)).push (seqObj "list" #[] 0)).get? (h2.push (seqObj "tuple" its.toArray 0)).objs.size = some (seqObj "list" #[] 0) := Heap.get?_push_size _ rfl
    have I2 : Inv X pins σ H { s with heap := (h2.push (seqObj "tuple" its.toArray 0)).push (seqObj "list" #[] 0), toks := s.toks } := I.kept fun b o z => k3 b o (k2 b o z)
    refine sortK_rest (a := s.heap.objs.size + 1) (kS := (h2.push (seqObj "tuple" its.toArray 0)).objs.size) T I2 hR rv vu hkd (by omega) (I.fpOk (Nat.le_succ _) (I.hok.fresh (Nat.le_succ _))) (I.fpOk (by rw [hs3]; omega) (I.hok.fresh (by rw [hs3]; omega))) (fun z => absurd (hs3.symm.trans z) (by simp)) (k3 _ _ ho1) hk3 ?_
    intro ρ' F' H' s' out c x1 r1 I3 fa h3 ko
    obtain ⟨ys, y1, y2, y3⟩ := kout_rel (K := G.K) (ρ := ρ') (F := F') (keysD_at hkd).1 hnd (rv.ext x1) vu ko
    refine ⟨_, rfl, wpAny_pure ⟨_, rfl, .ref (s.heap.objs.size + 1), upd H' (s.heap.objs.size + 1) (.lst ys), I3.take (t' := s'.toks) (fun b o _ z => z) fa ⟨by rw [y3]; exact hz, out, c, y2, h3⟩, rfl, q ρ' F' H' ys _ x1 r1 y1 fa.1⟩⟩
/-- sorted(e, key=str) -/
def eSortK (cn : Nat) (fn : Fn) (fa : Ex) : Ex := fun st => (fa st).bind fun x c1 => match lstOf c1 x with
  | some ds => (match keysD cn fn c1 ds with
    | some ks => if decide (ds.length < 64) && risS ((isortK (ks.zip ds)).map (·.1)) then .ok (.lst (sortD ks ds)) c1 else .no
    | none => .no)
  | none => .no
theorem de_sortK {e : Expr} {fa : Ex} {p p2 pk pos : Pos} (d : DefM X.prog X.w G.K X.mg X.base cn "__str__" k ps fn) (hp : ps.length = 1) (hK : X.K = G.K.K) (hr : Room (k + 4) X.A) (hg : Gl X "sorted") (hm : X.mg "sorted" = none) (hg2 : Gl X "str") (hm2 : X.mg "str" = none) (ha : PE X e (tE G W fa))
    (he : starEach [e] X.env = (false, eval e X.env) :: starEach [] X.env := by rfl) (hbt : backTo pos (starEach [e] X.env) = (false, eval e X.env) :: backTo pos (starEach [] X.env) := by rfl) (hpl : (backTo pos (starEach [e] X.env)).any (·.1) = false := by rfl) :
    PE X (.Call (.Name "sorted" p) [e] [⟨some "key", .Name "str" p2, pk⟩] pos) (tE G W (eSortK cn fn fa)) := by
  obtain ⟨f, fd, h1, h2, h3, h4⟩ := d.ex
  rw [hp, ← hK] at h4
  rw [← hK] at h1 h2 h3
  have T : KeyF X G cn k f fd ps fn := ⟨h4, h1, h2, h3, hr⟩
  have hT : PE X (.Name "str" p2) (tC (.ty "str")) := pe_bltn hg2 hm2 boot_str rfl
  refine (pe_callBK (cr_sortK T) hg hm (by decide +kernel) (pa_cons ha pa_nil he) (pk_cons hT pk_nil) (he := hbt) (hpl := hpl)).impV ?_
  rintro σ H Q ⟨ρ, F, st, r, po⟩
  refine seqX r po fun ρ1 F1 H1 x c1 v x1 r1 rv1 p1 => ?_
  cases q : lstOf c1 x with
  | none => rw [q] at p1; exact p1.elim
  | some ds =>
    rw [q] at p1
    simp only at p1
    obtain ⟨l, xs, rfl, hsq, rvs⟩ := lst_read (st := ⟨st.env, c1⟩) r1 rv1 q
    cases q2 : keysD cn fn c1 ds with
    | none => rw [q2] at p1; exact p1.elim
    | some ks =>
      rw [q2] at p1
      simp only at p1
      by_cases c : (decide (ds.length < 64) && risS ((isortK (ks.zip ds)).map (·.1))) = true
      · rw [if_pos c] at p1
        simp only [Bool.and_eq_true, decide_eq_true_eq] at c
        have hl := (keysD_at q2).1
        refine ⟨ρ1, F1, ⟨st.env, c1⟩, σ, l, xs, ds, ks, rfl, rfl, r1, by rw [hK]; exact hsq, rvs, q2, nodup_of hl c.2, c.1, ?_⟩
        intro ρ2 F2 H2 ys p x2 r2 rv2 hp
        obtain ⟨x3, r3⟩ := r2.fresh (o := .lst ys) hp
        exact p1 _ _ _ _ (x2.trans x3) r3 (.lst upd_same (rv2.ext x3))
      · rw [if_neg c] at p1
        exact p1.elim
end
end VL

/-! VLY5: len(set(t)), sorted texts, f-strings, extend, isinstance with a tuple of types -/
namespace VL
open PySem PySem.Spec PyProof.Rows L2
section
variable {X : Cx} {G : Gx} {W : WX} {e a : Expr} {es : List Expr} {fa fb : Ex} {g : Ax} {pos p p2 q : Pos}
/-! ### len(set(t)) -/
def tLenSetT (K : PySem.W.Frag) (ta : TE) : TE := fun σ H Q => ta σ H fun x H1 => ∃ (l : Addr) (xs : List Str), x = .ref l ∧ SqT K H1 l (xs.map V.str) ∧ xs.length < 64 ∧ Q (.int (dcS xs : Nat)) H1
theorem pe_lenSetT {ta : TE} (hc : X.calm = true) (hg : Gl X "len") (hm : X.mg "len" = none) (hg2 : Gl X "set") (hm2 : X.mg "set" = none) (ha : PE X a ta) (na : starEach [a] X.env = (false, eval a X.env) :: starEach [] X.env := by rfl) :
    PE X (.Call (.Name "len" p) [.Call (.Name "set" p2) [a] [] q] [] pos) (tLenSetT X.K ta) := by
  refine ⟨fun pins s σ H Q I h => ?_⟩
  refine Call_ (ld_blt I hg hm boot_len (callWith_builtin1 (args_cons ?_ rfl) rfl rfl))
  refine Call_ (ld_blt I hg2 hm2 boot_set ?_)
  refine callWith_type1 (args_cons (thn (ha.run pins s σ H _ I h) fun v s1 ⟨x, H1, I1, r1, q1⟩ => args_nil ?_) na) na rfl
  obtain ⟨l, xs, rfl, hq, h1, q1⟩ := q1
  cases r1
  obtain ⟨its, r, pl, hz⟩ := I1.tuple hq
  refine call_setT (xs := xs) (I1.ok.hd hc) pl (by simpa using strsAre_of r) (by unfold scanBound; omega) fun h' tk ⟨hS, hk⟩ => args_nil ?_
  obtain ⟨o, es, ep, t, ho, hex, hd, _, _, _, hf, hn⟩ := hS
  have I2 : Inv X pins σ H1 { s1 with heap := h', toks := tk } := I1.kept fun b o e => hk b o (Heap.lt_size e) e
  have hd2 := dcS_le xs
  exact call_len_set ho hex hd hf (by rw [hn]; omega) ⟨.int (dcS xs : Nat), H1, I2.tok _, ⟨_, by rw [hn]⟩, q1⟩
def eLenSet (fa : Ex) : Ex := fun st => (fa st).bind fun x c1 => match x with
  | .tup ds => (match strsOf ds with
    | some xs => if decide (xs.length < 64) then .ok (.int (dcS xs : Nat)) c1 else .no
    | none => .no)
  | _ => .no
theorem de_lenSet (hK : X.K = G.K.K) (hc : X.calm = true) (hg : Gl X "len") (hm : X.mg "len" = none) (hg2 : Gl X "set") (hm2 : X.mg "set" = none) (ha : PE X a (tE G W fa)) (na : starEach [a] X.env = (false, eval a X.env) :: starEach [] X.env := by rfl) :
    PE X (.Call (.Name "len" p) [.Call (.Name "set" p2) [a] [] q] [] pos) (tE G W (eLenSet fa)) := by
  refine (pe_lenSetT hc hg hm hg2 hm2 ha na).impV fun σ H Q ⟨ρ, F, st, r, po⟩ => seqX r po fun ρ1 F1 H1 x c1 v x1 r1 rv1 p1 => ?_
  cases rv1 with
  | tup h1 h2 =>
    rename_i l ws ds
    simp only at p1
    cases qq : strsOf ds with
    | none => rw [qq] at p1; exact p1.elim
    | some xs =>
      rw [qq] at p1
      simp only at p1
      by_cases c : decide (xs.length < 64) = true
      · rw [if_pos c] at p1
        have ev := strs_read h2 qq
        subst ev
        refine ⟨_, xs, rfl, by rw [hK]; exact sqT_same r1.fz h1, of_decide_eq_true c, p1.here (st := ⟨st.env, c1⟩) r1 (.int _)⟩
      · rw [if_neg c] at p1
        exact p1.elim
  | _ => exact p1.elim
/-! ### sorted(texts) -/
def sortT (xs : List Str) : List Str := (isortK (xs.map fun x => (x, ()))).map (·.1)
theorem sortT_perm (xs : List Str) : (sortT xs).Perm xs := by
  have h := (isortK_perm (xs.map fun x => (x, ()))).map (·.1)
  rw [List.map_map] at h
  have e : xs.map ((fun x : Str × Unit => x.1) ∘ fun x => (x, ())) = xs := by
    have : ((fun x : Str × Unit => x.1) ∘ fun x : Str => (x, ())) = id := rfl
    rw [this, List.map_id]
  rw [e] at h
  exact h
theorem sortT_sorted (xs : List Str) : (sortT xs).Pairwise (fun a b => ltS b a = false) := List.pairwise_map.mpr (isortK_sorted _)
theorem leS_trans {x y z : Str} (h1 : ltS y x = false) (h2 : ltS z y = false) : ltS z x = false := by
  simp only [ltS, ltCps_eq, decide_eq_false_iff_not] at *
  exact List.not_lt.mpr (List.le_trans (List.not_lt.mp h1) (List.not_lt.mp h2))
theorem rising_pw : ∀ {l : List Str} {p : Str}, risingS p l = true → (p :: l).Pairwise (fun a b => ltS b a = false)
  | [], p, _ => List.pairwise_singleton _ _
  | x :: r, p, h => by
    have h : (!ltS x p && risingS x r) = true := h
    rw [Bool.and_eq_true] at h
    have ih := rising_pw h.2
    have h1 : ltS x p = false := by simpa using h.1
    refine List.pairwise_cons.mpr ⟨fun z hz => ?_, ih⟩
    rcases List.mem_cons.mp hz with rfl | hz
    · exact h1
    · exact leS_trans h1 ((List.pairwise_cons.mp ih).1 z hz)
theorem sorted_pw : ∀ {l : List Str}, sortedS l = true → l.Pairwise (fun a b => ltS b a = false)
  | [], _ => List.Pairwise.nil
  | x :: r, h => rising_pw h
theorem sortS_uniq : ∀ {l m : List Str}, l.Perm m → l.Pairwise (fun a b => ltS b a = false) → m.Pairwise (fun a b => ltS b a = false) → l = m
  | [], m, h, _, _ => by rw [h.nil_eq]
  | p :: l, [], h, _, _ => absurd h.length_eq (by simp)
  | p :: l, q :: m, h, hl, hm => by
    have hl' := List.pairwise_cons.mp hl
    have hm' := List.pairwise_cons.mp hm
    have e : p = q := by
      rcases List.mem_cons.mp (h.mem_iff.mp List.mem_cons_self) with e | hp
      · exact e
      · rcases List.mem_cons.mp (h.mem_iff.mpr List.mem_cons_self) with e | hq
        · exact e.symm
        · exact ltS_tot (hm'.1 p hp) (hl'.1 q hq)
    subst e
    rw [sortS_uniq (List.perm_cons _ |>.mp h) hl'.2 hm'.2]
def hSortS : FB := fun cs xs => match xs with
  | [d] => (match lstOf cs d with
    | some ds => (match strsOf ds with
      | some ys => if decide (ys.length < 64) then .ok (.lst ((sortT ys).map .str)) cs else .no
      | none => .no)
    | none => .no)
  | _ => .no
theorem de_sortS (hK : X.K = G.K.K) (hg : Gl X "sorted") (hm : X.mg "sorted" = none) (ha : PA X (e :: es) (tAs G W g)) (he : starEach (e :: es) X.env = (false, eval e X.env) :: starEach es X.env := by rfl) (hpl : (backTo pos (starEach es X.env)).any (·.1) = false := by rfl) : PE X (.Call (.Name "sorted" p) (e :: es) [] pos) (tE G W (eB hSortS g)) := by
  refine de_callB cr_sortedS ?_ hg hm (by decide +kernel) ha (he := he) (hpl := hpl)
  intro ρ F st σ H ds vs Q r rv po
  unfold hSortS at po
  split at po
  · rename_i d
    cases rv with
    | cons h1 h2 =>
      cases h2
      cases q : lstOf st.cs d with
      | none => rw [q] at po; exact po.elim
      | some ds =>
        rw [q] at po
        obtain ⟨b, ws, rfl, hsq, rvs⟩ := lst_read r h1 q
        cases q2 : strsOf ds with
        | none => simp only [q2] at po; exact po.elim
        | some ys =>
          simp only [q2] at po
          have ev := strs_read rvs q2
          subst ev
          by_cases c : decide (ys.length < 64) = true
          · rw [if_pos c] at po
            refine ⟨b, ys, rfl, by rw [hK]; exact hsq, of_decide_eq_true c, fun zs p h3 h4 h5 => ?_⟩
            have ez : zs = sortT ys := sortS_uniq (h3.trans (sortT_perm ys).symm) (sorted_pw h4) (sortT_sorted ys)
            subst ez
            obtain ⟨x3, r3⟩ := r.fresh (o := .lst ((sortT ys).map V.str)) h5
            exact po _ _ _ _ x3 r3 (.lst upd_same rvs_strs)
          · rw [if_neg c] at po
            exact po.elim
  · exact po.elim
/-! ### f-strings of texts -/
def fsOf : List Ex → Str → S → Out D
  | [], acc, st => .ok (.str acc) st.cs
  | f :: r, acc, st => (f st).bind fun x c1 => match x with
    | .str y => if y.length ≤ 16777216 ∧ (acc ++ y).length ≤ 16777216 then fsOf r (acc ++ y) ⟨st.env, c1⟩ else .no
    | _ => .no
def eFs (fs : List Ex) : Ex := fun st => fsOf fs Str.empty st
/-- the parts -/
inductive DJ (X : Cx) (G : Gx) (W : WX) : List Expr → List Ex → Prop where
  | nil : DJ X G W [] []
  | fmt {e : Expr} {f : Ex} {pos : Pos} {es : List Expr} {fs : List Ex} (h : PE X e (tE G W f)) (r : DJ X G W es fs) : DJ X G W (.FormattedValue e (-1) none pos :: es) (f :: fs)
  | txt {e : Expr} {f : Ex} {es : List Expr} {fs : List Ex} (h : PE X e (tE G W f)) (r : DJ X G W es fs) : DJ X G W (e :: es) (f :: fs)
theorem dj_pj {es : List Expr} {fs : List Ex} (h : DJ X G W es fs) : ∃ ts, PJ X es ts ∧ ∀ (acc : Str) (σ : L2.St) (H : Hp) (Q : VK), tE G W (fsOf fs acc) σ H Q → tJs ts acc σ H fun out H1 => Q (.str out) H1 := by
  induction h with
  | nil =>
    refine ⟨[], .nil, fun acc σ H Q ⟨ρ, F, st, r, po⟩ => ?_⟩
    exact po.here r (.str _)
  | @fmt e f pos es fs h r ih =>
    obtain ⟨ts, h1, h2⟩ := ih
    refine ⟨_, .cons (pe_fmt h) h1, fun acc σ H Q ⟨ρ, F, st, r, po⟩ => ?_⟩
    unfold fsOf at po
    refine seqX r po fun ρ1 F1 H1 x c1 v x1 r1 rv1 p1 => ?_
    cases rv1 with
    | str y =>
      simp only at p1
      by_cases c : y.length ≤ 16777216 ∧ (acc ++ y).length ≤ 16777216
      · rw [if_pos c] at p1
        exact .inl ⟨y, rfl, line_of c.1, y, rfl, line_of c.2, h2 _ σ H1 Q ⟨ρ1, F1, ⟨st.env, c1⟩, r1, p1⟩⟩
      · rw [if_neg c] at p1
        exact p1.elim
    | _ => exact p1.elim
  | @txt e f es fs h r ih =>
    obtain ⟨ts, h1, h2⟩ := ih
    refine ⟨_, .cons h h1, fun acc σ H Q ⟨ρ, F, st, r, po⟩ => ?_⟩
    unfold fsOf at po
    refine seqX r po fun ρ1 F1 H1 x c1 v x1 r1 rv1 p1 => ?_
    cases rv1 with
    | str y =>
      simp only at p1
      by_cases c : y.length ≤ 16777216 ∧ (acc ++ y).length ≤ 16777216
      · rw [if_pos c] at p1
        exact ⟨y, rfl, line_of c.2, h2 _ σ H1 Q ⟨ρ1, F1, ⟨st.env, c1⟩, r1, p1⟩⟩
      · rw [if_neg c] at p1
        exact p1.elim
    | _ => exact p1.elim
theorem de_fs {e1 e2 : Expr} {rest : List Expr} {fs : List Ex} (h : DJ X G W (e1 :: e2 :: rest) fs) : PE X (.JoinedStr (e1 :: e2 :: rest) pos) (tE G W (eFs fs)) := by
  obtain ⟨ts, h1, h2⟩ := dj_pj h
  exact (pe_joined h1).impV fun σ H Q t => h2 Str.empty σ H Q t
/-! ### extend -/
def eExtend (fo f : Ex) : Ex := fun st => (fo st).bind fun x c1 => match x with
  | .loc n => (match c1[n]? with
    | some (.lst _) => (f ⟨st.env, c1⟩).bind fun y c2 => (match y, c2[n]? with
      | .lst es, some (.lst ds) => if ds.length + es.length ≤ 16777216 then .ok .non (c2.set n (.lst (ds ++ es))) else .no
      | _, _ => .no)
    | _ => .no)
  | _ => .no
theorem de_extend {c : Expr} {fo f : Ex} (hK : X.K = G.K.K) (h : PE X c (tBM X.K "list" rExtend (tE G W fo) (tCons (tE G W f) tNil))) : PE X c (tE G W (eExtend fo f)) :=
  h.impV fun σ H Q ⟨ρ, F, st, r, p⟩ => seqX r p fun ρ1 F1 H1 x c1 v x1 r1 rv1 p1 => by
    cases rv1 with
    | @loc n a0 h1 =>
      simp only at p1
      split at p1
      · rename_i ds0 q
        obtain ⟨vs0, h2, h3⟩ := r1.cell n _ _ q h1
        refine ⟨.inl ⟨rfl, vs0, SqL.of h2⟩, ?_⟩
        refine seqX (st := ⟨st.env, c1⟩) (f := f) r1 p1 fun ρ2 F2 H2 y c2 w x2 r2 rv2 p2 => ?_
        split at p2
        · rename_i es ds q2
          by_cases c : ds.length + es.length ≤ 16777216
          · rw [if_pos c] at p2
            obtain ⟨vs, h4, h5⟩ := r2.cell n _ _ q2 (x2.at h1)
            cases rv2 with
            | lst h6 h7 =>
              rename_i b zs
              refine ⟨a0, b, vs, zs, rfl, rfl, h4, r2.fz _ _ h6, by rw [← h5.length, ← h7.length, sizeLine_eq]; exact c, ?_⟩
              exact p2 ρ2 F2 _ .non Ext.refl (r2.cellSet (st := ⟨st.env, c2⟩) (c := .lst (ds ++ es)) (x2.at h1) ⟨_, upd_same, h5.append h7⟩) .non
          · rw [if_neg c] at p2
            exact p2.elim
        · exact p2.elim
      · exact p1.elim
    | _ => exact p1.elim
/-! ### xs[::-1], an own list -/
theorem de_revLoc {k : Nat} {p1 p2 p3 : Pos} (hK : X.K = G.K.K) (ha : PE X a (tE G W fa)) : PE X (.Subscript a (.Slice none none (some (.UnaryOp .USub (.Constant (.int 1) k p1) p2)) p3) pos) (tE G W (eUn gRevLoc fa)) :=
  (pe_revL ha).impV fun σ H Q ⟨ρ, F, st, r, p⟩ => seqX r p fun ρ1 F1 H1 x c1 v x1 r1 rv1 p1 => by
    unfold gRevLoc at p1
    cases q : lstOf c1 x with
    | none => simp only [q] at p1; exact p1.elim
    | some xs =>
      simp only [q] at p1
      obtain ⟨a2, ws, rfl, s2, r2⟩ := lst_read (st := ⟨st.env, c1⟩) r1 rv1 q
      rw [hK]
      exact ⟨a2, ws, rfl, s2, fun q hq => newCell_of (st := ⟨st.env, c1⟩) r1 r2.reverse hq p1⟩
/-! ### isinstance(x, (T1, T2)) -/
def anySub (n : String) : List String → Option Bool
  | [] => some false
  | T :: r => match isSub n T with
    | some true => some true
    | some false => anySub n r
    | none => none
theorem anySub_kit {K : PySem.W.Frag} {n : String} : ∀ {Ts : List String} {b : Bool}, anySub n Ts = some b → PySem.W.kitAny K (.type n) (Ts.map .type) = some b
  | [], b, h => by
    cases h
    rfl
  | T :: r, b, h => by
    have h : (match isSub n T with
      | some true => some true
      | some false => anySub n r
      | none => none) = some b := h
    show (match PySem.W.kitOne K (.type n) (.type T) with
      | some true => some true
      | some false => PySem.W.kitAny K (.type n) (r.map .type)
      | none => none) = some b
    cases q : isSub n T with
    | none => rw [q] at h; cases h
    | some k =>
      rw [q] at h
      rw [kit_ty (isSub_of q)]
      cases k with
      | true => exact h
      | false => exact anySub_kit h
def ansT (Ts : List String) : Ty → Option Bool
  | .t n => anySub n Ts
  | .c _ => none
theorem de_isiT2 {T1 T2 : String} {x1 x2 : Str} {kk : Nat} {p1 p3 p4 p5 : Pos} (hK : X.K = G.K.K) (hg : Gl X "isinstance") (hm : X.mg "isinstance" = none) (hg1 : Gl X x1) (hm1 : X.mg x1 = none) (hb1 : bootBuiltins x1 = some (.type T1)) (hg2 : Gl X x2) (hm2 : X.mg x2 = none) (hb2 : bootBuiltins x2 = some (.type T2)) (ha : PE X a (tE G W fa))
    (hn1 : x1 ≠ "__name__" := by decide) (hd1 : (x1 == ("__debug__" : Str)) = false := by decide) (hn2 : x2 ≠ "__name__" := by decide) (hd2 : (x2 == ("__debug__" : Str)) = false := by decide)
    (hs : starEach [a, .Tuple [.Name x1 p3, .Name x2 p4] kk p5] X.env = (false, eval a X.env) :: starEach [.Tuple [.Name x1 p3, .Name x2 p4] kk p5] X.env := by rfl) (hpl : (backTo pos (starEach [.Tuple [.Name x1 p3, .Name x2 p4] kk p5] X.env)).any (·.1) = false := by rfl)
    (hs2 : starEach [.Tuple [.Name x1 p3, .Name x2 p4] kk p5] X.env = (false, eval (.Tuple [.Name x1 p3, .Name x2 p4] kk p5) X.env) :: starEach [] X.env := by rfl) (hs3 : starEach [.Name x1 p3, .Name x2 p4] X.env = (false, eval (.Name x1 p3) X.env) :: starEach [.Name x2 p4] X.env := by rfl) (hs4 : starEach [.Name x2 p4] X.env = (false, eval (.Name x2 p4) X.env) :: starEach [] X.env := by rfl) :
    PE X (.Call (.Name "isinstance" p1) [a, .Tuple [.Name x1 p3, .Name x2 p4] kk p5] [] pos) (tE G W (eUn (gIsiG (ansT [T1, T2])) fa)) := by
  have hA : PE X (.Name x1 p3) (tC (.ty T1)) := pe_bltn hg1 hm1 hb1 rfl hn1 hd1
  have hB : PE X (.Name x2 p4) (tC (.ty T2)) := pe_bltn hg2 hm2 hb2 rfl hn2 hd2
  refine (pe_callB call_isiT hg hm boot_isinstance (pa_cons ha (pa_cons (pe_tup (pa_cons hA (pa_cons hB pa_nil hs4) hs3)) pa_nil hs2) hs) (he := hs) (hpl := hpl)).impV ?_
  rintro σ H Q ⟨ρ, F, st, r, po⟩
  refine seqX r po fun ρ1 F1 H1 x c1 v x1 r1 rv1 p1 => ?_
  refine ⟨by rw [sizeLine_eq]; show 2 ≤ 16777216; decide, fun q hq => ?_⟩
  unfold gIsiG at p1
  cases qt : tyG c1 x with
  | none => rw [qt] at p1; exact p1.elim
  | some t =>
    rw [qt] at p1
    simp only at p1
    cases q2 : ansT [T1, T2] t with
    | none => rw [q2] at p1; exact p1.elim
    | some kb =>
      rw [q2] at p1
      cases t with
      | c C => cases q2
      | t n =>
        obtain ⟨x2', r2⟩ := r1.fresh (o := .tup [V.ty T1, V.ty T2]) hq
        rw [hK]
        refine ⟨v, q, [.ty T1, .ty T2], .type n, [.type T1, .type T2], kb, rfl, upd_same, .cons (.ty T1) (.cons (.ty T2) .nil), ?_, anySub_kit (Ts := [T1, T2]) q2, ?_⟩
        · exact tyX_G (st := ⟨st.env, c1⟩) r2 (rv1.ext x2') qt (fun C z => by cases z)
        · exact p1 _ _ _ _ x2' r2 (.bl _)
end
end VL

/-! VLY6: for over an own list -/
namespace VL
open PySem PySem.Spec PyProof.Rows L2
def eqStr (x y : Str) : Bool := x.cps.toList == y.cps.toList
def eqStrs (xs ys : List Str) : Bool := xs.map (·.cps.toList) == ys.map (·.cps.toList)
mutual
def eqD : D → D → Bool
  | .non, .non => true
  | .bl a, .bl b => a == b
  | .int a, .int b => a == b
  | .str a, .str b => eqStr a b
  | .tup a, .tup b => eqDs a b
  | .lst a, .lst b => eqDs a b
  | .frl a, .frl b => eqDs a b
  | .obj c k a, .obj d l b => (c == d && eqStrs k l) && eqDs a b
  | .cls a, .cls b => a == b
  | .loc a, .loc b => a == b
  | _, _ => false
def eqDs : List D → List D → Bool
  | [], [] => true
  | x :: xs, y :: ys => eqD x y && eqDs xs ys
  | _, _ => false
end
theorem cps_inj {x y : Str} (h : x.cps.toList = y.cps.toList) : x = y := by
  obtain ⟨⟨a⟩⟩ := x
  obtain ⟨⟨b⟩⟩ := y
  exact congrArg (fun l : List Nat => (⟨⟨l⟩⟩ : Str)) h
theorem eqStr_of {x y : Str} (h : eqStr x y = true) : x = y := cps_inj (beq_iff_eq.mp h)
theorem maps_inj : ∀ {xs ys : List Str}, xs.map (·.cps.toList) = ys.map (·.cps.toList) → xs = ys
  | [], [], _ => rfl
  | [], _ :: _, h => by cases h
  | _ :: _, [], h => by cases h
  | x :: xs, y :: ys, h => by
    rw [List.map_cons, List.map_cons] at h
    injection h with h1 h2
    rw [cps_inj h1, maps_inj h2]
theorem eqStrs_of {xs ys : List Str} (h : eqStrs xs ys = true) : xs = ys := maps_inj (beq_iff_eq.mp h)
mutual
theorem eqD_of : ∀ {x y : D}, eqD x y = true → x = y
  | .non, y, h => by cases y <;> first | rfl | cases h
  | .bl a, y, h => by
    cases y with
    | bl b => rw [beq_iff_eq.mp (show (a == b) = true from h)]
    | _ => cases h
  | .int a, y, h => by
    cases y with
    | int b => rw [beq_iff_eq.mp (show (a == b) = true from h)]
    | _ => cases h
  | .str a, y, h => by
    cases y with
    | str b => rw [eqStr_of (show eqStr a b = true from h)]
    | _ => cases h
  | .tup a, y, h => by
    cases y with
    | tup b => rw [eqDs_of (show eqDs a b = true from h)]
    | _ => cases h
  | .lst a, y, h => by
    cases y with
    | lst b => rw [eqDs_of (show eqDs a b = true from h)]
    | _ => cases h
  | .frl a, y, h => by
    cases y with
    | frl b => rw [eqDs_of (show eqDs a b = true from h)]
    | _ => cases h
  | .obj c k a, y, h => by
    cases y with
    | obj d l b =>
      have h : ((c == d && eqStrs k l) && eqDs a b) = true := h
      simp only [Bool.and_eq_true, beq_iff_eq] at h
      rw [h.1.1, eqStrs_of h.1.2, eqDs_of h.2]
    | _ => cases h
  | .cls a, y, h => by
    cases y with
    | cls b => rw [beq_iff_eq.mp (show (a == b) = true from h)]
    | _ => cases h
  | .loc a, y, h => by
    cases y with
    | loc b => rw [beq_iff_eq.mp (show (a == b) = true from h)]
    | _ => cases h
theorem eqDs_of : ∀ {xs ys : List D}, eqDs xs ys = true → xs = ys
  | [], ys, h => by cases ys <;> first | rfl | cases h
  | x :: xs, ys, h => by
    cases ys with
    | nil => cases h
    | cons y ys =>
      have h : (eqD x y && eqDs xs ys) = true := h
      rw [Bool.and_eq_true] at h
      rw [eqD_of h.1, eqDs_of h.2]
end
/-- the cell n holds these very items -/
def keepD (n : Nat) (ds : List D) : List Cell → Bool := fun cs => match cs[n]? with
  | some (.lst es) => eqDs es ds
  | _ => false
theorem keepD_of {n : Nat} {ds : List D} {cs : List Cell} (h : keepD n ds cs = true) : cs[n]? = some (.lst ds) := by
  unfold keepD at h
  split at h
  · rename_i es q
    rw [q, eqDs_of h]
  · cases h
section
variable {X : Cx} {G : Gx} {W : WX} {ρ : List Addr} {F : Hp} {st : S} {σ : L2.St} {H : Hp} {tg e : Expr} {fa : Ex}
theorem wk_loc {n : Nat} {a : Addr} {ds : List D} (h : ρ[n]? = some a) : Wk G ρ F (Itl G.K.K a) ds (keepD n ds) := fun ρ1 F1 st1 σ1 H1 i x r hk => by
  obtain ⟨vs, h2, rv⟩ := r.cell n _ _ (keepD_of hk) (x.at h)
  have hs1 : SqL G.K.K H1 a vs := SqL.of h2
  refine ⟨fun d e => ?_, fun e => ⟨vs, hs1, ?_⟩⟩
  · obtain ⟨v, e1, e2⟩ := rv.get e
    exact ⟨⟨vs, v, hs1, e1⟩, fun y H' ⟨e3, e4⟩ => by
      subst e3
      have := e4 vs hs1
      rw [e1] at this
      cases this
      exact ⟨ρ1, F1, Ext.refl, rfl, fun _ _ h => h, r, e2⟩⟩
  · rw [← rv.length, e]
    exact Nat.le_refl _
def iLo (f : Ex) : Ix := fun st => (f st).bind fun x c1 => match x with
  | .loc n => (match c1[n]? with
    | some (.lst ds) => .ok (ds, keepD n ds) c1
    | _ => .no)
  | _ => .no
theorem di_loc (hK : X.K = G.K.K) (h : PE X e (tE G W fa)) : PI X tg e (tI G W (iLo fa)) := (pi_list h).impV fun σ H R ⟨ρ, F, st, r, p⟩ => by
  refine tI_of (R := RV) r p (fun ρ1 F1 H1 x c1 v x1 r1 rv1 q hn => ?_) (fun x c1 => ?_)
  · rw [hK]
    cases rv1 with
    | @loc n a0 h1 =>
      cases qc : c1[n]? with
      | none => simp only [qc] at hn; exact absurd rfl hn
      | some c0 =>
        cases c0 with
        | lst ds =>
          obtain ⟨vs, h2, rv⟩ := r1.cell n _ _ qc h1
          exact ⟨_, rfl, ⟨_, SqL.of h2⟩, q (ds, keepD n ds) (by simp only [qc]) _ (wk_loc h1)⟩
        | dk _ _ => simp only [qc] at hn; exact absurd rfl hn
        | ins _ _ _ => simp only [qc] at hn; exact absurd rfl hn
    | _ => exact absurd rfl hn
  · cases x with
    | loc n =>
      cases qc : c1[n]? with
      | none => exact .inr (by simp only [qc])
      | some c0 =>
        cases c0 with
        | lst ds => exact .inl ⟨(ds, keepD n ds), by simp only [qc]⟩
        | dk _ _ => exact .inr (by simp only [qc])
        | ins _ _ _ => exact .inr (by simp only [qc])
    | _ => exact .inr rfl
end
end VL

/-! VLY7: sorted(t), t a tuple of texts; tuples of the written part -/
namespace VL
open PySem PySem.Spec PyProof.Rows L2
section
variable {prog : Program} {w : World} {A : Around} {E : Value → Shared → Prop} {s : Shared}
theorem collectT {l : Addr} {vs : List Value} {Q : List Value → Shared → Prop} (hl : s.heap.IsTuple l vs.toArray) (h : Q vs { s with heap := (s.heap.push (seqObj "list" #[] 0)).update s.heap.objs.size (Obj.mapSeq (· ++ vs.toArray)) }) (hsz : vs.length ≤ sizeLine) :
    wpAny (model prog w) A (collect (.ref l)) Q E s := by
  obtain ⟨o, ho, hc, n, hd⟩ := hl
  have ho' : (s.heap.push (seqObj "list" #[] 0)).get? l = some o := Heap.get?_push_of_some _ ho
  have hn : (s.heap.push (seqObj "list" #[] 0)).get? s.heap.objs.size = some (seqObj "list" #[] 0) := Heap.get?_push_size _ rfl
  unfold collect
  refine wpAny_bind (wpAny_runValue (codeAny_builtin entry_proto_collect' ?_))
  refine wpAny_bind (m := newList []) (wpAny_newList (wpAny_pure ⟨Code.quiet_builtin _ (by decide +kernel), codeAny_builtin entry_list_iadd' ?_⟩))
  show wpAny _ _ (Builtin.List.listExtendWith (.ref s.heap.objs.size) (.ref l) (.ref s.heap.objs.size)) _ _ { s with heap := s.heap.push (seqObj "list" #[] 0) }
  unfold Builtin.List.listExtendWith
  refine wpAny_bind (wpAny_typeOf (T := "tuple") ⟨o, ho', hc⟩ ?_)
  rw [if_pos (by rw [show (Value.type "tuple" == Value.type "tuple") = true from rfl, Bool.or_true])]
  refine wpAny_bind (listItems_at ho' hd (wpAny_bind (listItems_at hn rfl ?_)))
  rw [if_neg (by simp)]
  refine wpAny_bind (listUpdate_at hn rfl (wpAny_pure ?_) (Nat.zero_le _) (by show (#[] ++ vs.toArray).size ≤ sizeLine + 1; simp only [Array.size_append, List.size_toArray, List.length_nil]; omega))
  refine wpAny_bind (m := load s.heap.objs.size) (wpAny_load (get?_update_seq hn _) ?_)
  show wpAny _ _ (pure ((#[] : Array Value) ++ vs.toArray).toList) Q E _
  have e : ((#[] : Array Value) ++ vs.toArray).toList = vs := by simp
  rw [e]
  exact wpAny_pure h
theorem sortedT {l : Addr} {vs : List Value} {ss : List Str} {Q : Value → Shared → Prop} (hl : s.heap.IsTuple l vs.toArray) (hS : StrsAre vs ss) (h64 : vs.length < 64)
    (h : ∀ (out : Array Value) (ss' : List Str), StrsAre out.toList ss' → ss'.Perm ss → sortedS ss' = true → Q (.ref (s.heap.objs.size + 1)) { s with heap := sortedAll s.heap vs out }) :
    wpAny (model prog w) A (call (.builtin "sorted") [.ref l]) Q E s := by
  have hz : vs.length ≤ sizeLine := by rw [sizeLine_eq]; omega
  refine Calls.call_function_entry kind_sorted plain_sorted entry_sorted (args_sorted1 _) ?_
  unfold Builtin.«sorted»
  refine wpAny_bind (m := checkCount "sorted" 1 1 _) (wpAny_pure (wpAny_bind (collectT hl (wpAny_bind (wpAny_newList ?_ hz)) hz)))
  have hsz : ((s.heap.push (seqObj "list" #[] 0)).update s.heap.objs.size (Obj.mapSeq (· ++ vs.toArray))).objs.size = s.heap.objs.size + 1 := by rw [Heap.size_update, size_push']
  have hoL : (((s.heap.push (seqObj "list" #[] 0)).update s.heap.objs.size (Obj.mapSeq (· ++ vs.toArray))).push (seqObj "list" vs.toArray 0)).get? (s.heap.objs.size + 1) = some (seqObj "list" vs.toArray 0) := by
    rw [← hsz]
    exact Heap.get?_push_size _ rfl
  show wpAny _ _ _ _ _ { s with heap := ((s.heap.push (seqObj "list" #[] 0)).update s.heap.objs.size (Obj.mapSeq (· ++ vs.toArray))).push (seqObj "list" vs.toArray 0) }
  rw [hsz]
  refine wpAny_bind (wpAny_holding (wpAny_call_entry slot_list_sort ⟨_, hoL, rfl⟩ entry_list_sort (list_sort_treeK strKind_oneLt hoL hS.keysOf (fun v₁ v₂ rest e => keyKind_strs (by rw [← e]; exact hS)) h64 fun st' hp hs => ⟨_, rfl, ?_⟩) (args_list_sort _)))
  obtain ⟨ss', h1, h2, h3⟩ := sorted_out_str hS hp hs
  exact wpAny_pure ⟨_, rfl, h _ ss' h1 h2 h3⟩
end
section
variable {X : Cx} {G : Gx} {W : WX} {e a : Expr} {es : List Expr} {g : Ax} {pos p : Pos}
def rSortedST (K : PySem.W.Frag) : List V → Hp → VK → Prop := fun vs H Q => ∃ (a : Addr) (xs : List Str), vs = [V.ref a] ∧ SqT K H a (xs.map V.str) ∧ xs.length < 64 ∧
  ∀ (ys : List Str) (p : Addr), ys.Perm xs → sortedS ys = true → H p = none → Q (.ref p) (upd H p (.lst (ys.map V.str)))
theorem cr_sortedST : CallR X (.builtin "sorted") (rSortedST X.K) := by
  intro pins s σ H vs us Q I r h
  obtain ⟨a, xs, rfl, hs, h64, q⟩ := h
  obtain ⟨its, rv, hl, hz⟩ := I.tuple hs
  rw [Vals.ref1 r]
  have hlen0 := rv.length
  rw [List.length_map] at hlen0
  refine sortedT hl (by simpa using rv.strs) (by rw [← hlen0]; exact h64) fun out ys h1 h2 h3 => ?_
  obtain ⟨ep, he'⟩ := sortedAll_at s.heap its out
  have hlen : (ys.map V.str).length ≤ sizeLine := by rw [List.length_map, h2.length_eq]; exact small64 h64
  exact ⟨.ref _, upd H (s.heap.objs.size + 1) (.lst (ys.map V.str)), I.laid (t' := s.toks) (fun _ _ => sortedAll_old) (Nat.le_succ _) ⟨hlen, out.toList, ep, vals_of_strs h1, he'⟩, rfl, q ys _ h2 h3 (I.hok.fresh (Nat.le_succ _))⟩
def hSortST : FB := fun cs xs => match xs with
  | [.tup ds] => (match strsOf ds with
    | some ys => if decide (ys.length < 64) then .ok (.lst ((sortT ys).map .str)) cs else .no
    | none => .no)
  | _ => .no
theorem de_sortST (hK : X.K = G.K.K) (hg : Gl X "sorted") (hm : X.mg "sorted" = none) (ha : PA X (e :: es) (tAs G W g)) (he : starEach (e :: es) X.env = (false, eval e X.env) :: starEach es X.env := by rfl) (hpl : (backTo pos (starEach es X.env)).any (·.1) = false := by rfl) : PE X (.Call (.Name "sorted" p) (e :: es) [] pos) (tE G W (eB hSortST g)) := by
  refine de_callB cr_sortedST ?_ hg hm (by decide +kernel) ha (he := he) (hpl := hpl)
  intro ρ F st σ H ds vs Q r rv po
  unfold hSortST at po
  split at po
  · rename_i ds
    cases rv with
    | cons h1 h2 =>
      cases h2
      cases h1 with
      | tup h3 h4 =>
        cases q2 : strsOf ds with
        | none => rw [q2] at po; exact po.elim
        | some ys =>
          rw [q2] at po
          simp only at po
          have ev := strs_read h4 q2
          subst ev
          by_cases c : decide (ys.length < 64) = true
          · rw [if_pos c] at po
            refine ⟨_, ys, rfl, by rw [hK]; exact sqT_same r.fz h3, of_decide_eq_true c, fun zs p h3 h4 h5 => ?_⟩
            have ez : zs = sortT ys := sortS_uniq (h3.trans (sortT_perm ys).symm) (sorted_pw h4) (sortT_sorted ys)
            subst ez
            obtain ⟨x3, r3⟩ := r.fresh (o := .lst ((sortT ys).map V.str)) h5
            exact po _ _ _ _ x3 r3 (.lst upd_same rvs_strs)
          · rw [if_neg c] at po
            exact po.elim
  · exact po.elim
end
/-- a tuple that stands in the written part -/
theorem sqT_k {K : PySem.W.Frag} {F : Hp} {a : Addr} {dd : Option Addr} {us : List Value} {n : Nat} {sl : Array (Option Value)} {xs : List V} (h : K.lookup a = some ⟨.type "tuple", dd, .seq us.toArray n, sl⟩) (hl : us.length ≤ 64) (v : Vals xs us) : SqT K F a xs :=
  .inr ⟨_, us.toArray, n, h, rfl, rfl, by rw [List.size_toArray, sizeLine_eq]; omega, by simpa using v⟩
end VL

/-! VLY8: a call without arguments -/
namespace VL
open PySem PySem.Spec PyProof.Rows L2
section
variable {X : Cx} {G : Gx} {W : WX} {pos p : Pos} {x : Str} {st : Stmt} {k : Nat} {fn : Fn}
theorem de_call0D (n : Nat) (d : Def X.prog X.w G.K X.mg X.base x st k [] fn) (hK : X.K = G.K.K) (hW : Flat W) (tk : Takes X W) (hr : Room k X.A) (hg : Gl X x := by rfl) (hdb : (x == ("__debug__" : Str)) = false := by decide) : PE X (.Call (.Name x p) [] [] pos) (tE G W (eCall n fn aNil)) := by
  obtain ⟨f, fd, h1, h2, _, h3, h5⟩ := d.ex
  rw [← hK] at h2 h3 h5
  refine (pe_call0 h5 hr hg h1 h2 h3 .nil (passF tk hW) hdb).impV ?_
  rintro σ H Q ⟨ρ, F, st, r, po⟩
  exact spF_flat (σ := σ) (σ' := []) hW (callV_of (m := 0) (n := n) (fn := fn) r .nil rfl po)
end
end VL

/-! VLZ: more of the plain reckoning: comprehensions, lists of whole numbers -/
namespace VL
open PySem L2
theorem ev_eLc {α : Type} {src : Ix} {g : Gt} {t : Tx} {f : Ex} {vs : List Nat} {st : S} {xs : List α} {fD : α → D} {kp : List Cell → Bool} {c1 : List Cell} (q : α → Bool) (h : α → D) (hs : src st = .ok (xs.map fD, kp) c1) (hk : ∀ acc, kp (c1 ++ [.lst acc]) = true) (hl : xs.length < 16777216) (hb : c1.all (belowC c1.length) = true)
    (hh : ∀ x ∈ xs, q x = true → below c1.length (h x) = true)
    (ht : ∀ x ∈ xs, ∀ acc, belows c1.length acc = true → ∃ env1, g (fD x) ⟨wipeD st.env vs, c1 ++ [.lst acc]⟩ = some ⟨env1, c1 ++ [.lst acc]⟩ ∧ t ⟨env1, c1 ++ [.lst acc]⟩ = .ok (q x) (c1 ++ [.lst acc]) ∧ (q x = true → f ⟨env1, c1 ++ [.lst acc]⟩ = .ok (h x) (c1 ++ [.lst acc]))) :
    eLc src g t f vs st = .ok (.lst ((xs.filter q).map h)) c1 := by
  have main : ∀ (es : List α) (acc : List D), belows c1.length acc = true → (∀ d ∈ es, d ∈ xs) → acc.length + es.length < 16777216 → lcL g t f kp (wipeD st.env vs) c1.length (es.map fD) (c1 ++ [.lst acc]) = some (c1 ++ [.lst (acc ++ (es.filter q).map h)]) := by
    intro es
    induction es with
    | nil => intro acc _ _ _; simp [lcL, hk]
    | cons d es ih =>
      intro acc hla hm hz
      have hz' : acc.length + es.length + 1 < 16777216 := by simpa [Nat.add_assoc] using hz
      obtain ⟨env1, e1, e2, e3⟩ := ht d (hm d List.mem_cons_self) acc hla
      rw [List.map_cons]
      unfold lcL
      cases c : q d with
      | false =>
        rw [c] at e2
        simp only [hk, if_true, e1, e2]
        rw [ih acc hla (fun x hx => hm x (List.mem_cons_of_mem _ hx)) (by omega), List.filter_cons_of_neg (by simp [c])]
      | true =>
        rw [c] at e2
        have g1 : (c1 ++ [Cell.lst acc])[c1.length]? = some (.lst acc) := by
          rw [List.getElem?_append_right (Nat.le_refl _), Nat.sub_self]; rfl
        have g2 : (c1 ++ [Cell.lst acc]).set c1.length (.lst (acc ++ [h d])) = c1 ++ [.lst (acc ++ [h d])] := by
          rw [List.set_append_right _ _ (Nat.le_refl _), Nat.sub_self]; rfl
        simp only [hk, if_true, e1, e2, e3 c, g1, g2]
        have hla2 : belows c1.length (acc ++ [h d]) = true := by
          rw [belows_append, hla]
          show (true && (below c1.length (h d) && true)) = true
          rw [hh d (hm d List.mem_cons_self) c]
          rfl
        rw [if_pos (by omega), ih (acc ++ [h d]) hla2 (fun x hx => hm x (List.mem_cons_of_mem _ hx)) (by simp; omega), List.filter_cons_of_pos (by simp [c])]
        simp
  unfold eLc
  rw [hs]
  show (match lcL g t f kp (wipeD st.env vs) c1.length (xs.map fD) (c1 ++ [.lst []]) with
    | some c2 => _
    | none => _) = _
  rw [main xs [] rfl (fun _ h => h) (by simpa using hl)]
  simp only [List.nil_append, lastCell_snoc]
  refine if_pos ⟨by first | trivial | rfl, belows_of fun x hx => ?_, hb⟩
  obtain ⟨d, hd, rfl⟩ := List.mem_map.mp hx
  obtain ⟨h1, h2⟩ := List.mem_filter.mp hd
  exact hh d h1 h2
theorem belows_int {n : Nat} : ∀ {l : List Int}, belows n (l.map D.int) = true
  | [] => rfl
  | x :: l => by
    show (below n (.int x) && belows n (l.map D.int)) = true
    rw [belows_int]
    rfl
theorem noLsts_int : ∀ {l : List Int}, noLsts (l.map D.int) = true
  | [] => rfl
  | x :: l => by
    show (noLst (.int x) && noLsts (l.map D.int)) = true
    rw [noLsts_int]
    rfl
theorem plains_ints : ∀ {l : List Int}, plains (l.map D.int) = true
  | [] => by simp [plains]
  | x :: l => by
    rw [List.map_cons]
    simp only [plains, plain, plains_ints, Bool.and_self]
theorem lay_ints : ∀ {l : List Int}, PyData.canLayAll0 (pys (l.map D.int)) = true ∧ PyData.depthAll (pys (l.map D.int)) = 0
  | [] => by simp [pys, PyData.canLayAll0, PyData.depthAll]
  | x :: l => by
    have ih := lay_ints (l := l)
    rw [List.map_cons]
    simp [pys, py, PyData.canLayAll0, PyData.canLay0, PyData.depthAll, PyData.depth, ih.1, ih.2]
/-- a list of whole numbers beside [] -/
theorem eqNilI {neg : Bool} {cs : List Cell} {d : D} {l : List Int} (hd : norm cs d = .lst (l.map D.int)) : gEqB neg cs d (.lst []) = .ok (.bl (if neg then !l.isEmpty else l.isEmpty)) cs := by
  have h1 := lay_ints (l := l)
  have h2 : SeqAt.shaped (py (.lst (l.map D.int))) = true := by
    simp [SeqAt.shaped, py, PyData.canLay0, PyData.depth, h1.1, h1.2]
  have h3 : VL.plain (.lst (l.map D.int)) = true := by simp [VL.plain, plains_ints]
  have h4 : norm cs (.lst []) = .lst [] := rfl
  have h5 : VL.plain (.lst []) = true := by simp [VL.plain, plains]
  have h6 : SeqAt.shaped (py (.lst [])) = true := by simp [SeqAt.shaped, py, pys, PyData.canLay0, PyData.canLayAll0, PyData.depth, PyData.depthAll]
  have h7 : PyData.eqv (py (.lst (l.map D.int))) (py (.lst [])) = l.isEmpty := by
    cases l <;> simp [py, pys, PyData.eqv, PyData.eqvAll]
  unfold gEqB
  simp only [hd, h2, h3, h4, h5, h6, h7, Bool.and_self, if_true]
theorem eqII {neg : Bool} {cs : List Cell} {i j : Int} : gEqB neg cs (.int i) (.int j) = .ok (.bl (if neg then !(i == j) else i == j)) cs := by
  simp [gEqB, norm, VL.plain, py, SeqAt.shaped, PyData.canLay0, PyData.depth, PyData.eqv]
theorem cut_ints {l : List Int} {lo hi : Option Int} : ∃ m : List Int, cutD (l.map D.int) lo hi = m.map D.int ∧ m.length ≤ l.length := by
  refine ⟨(l.drop (HT.sIx l.length 0 lo)).take (HT.sIx l.length l.length hi - HT.sIx l.length 0 lo), ?_, ?_⟩
  · unfold cutD
    rw [List.length_map, ← List.map_drop, ← List.map_take]
  · rw [List.length_take, List.length_drop]
    omega
mutual
theorem below_up {n k : Nat} (h : n ≤ k) : ∀ {d : D}, below n d = true → below k d = true
  | .non, _ => rfl
  | .bl _, _ => rfl
  | .int _, _ => rfl
  | .str _, _ => rfl
  | .tup ds, q => belows_up h (show belows n ds = true from q)
  | .lst ds, q => belows_up h (show belows n ds = true from q)
  | .frl ds, q => belows_up h (show belows n ds = true from q)
  | .obj _ _ ds, q => belows_up h (show belows n ds = true from q)
  | .cls _, _ => rfl
  | .loc m, q => decide_eq_true (Nat.lt_of_lt_of_le (of_decide_eq_true (show decide (m < n) = true from q)) h)
theorem belows_up {n k : Nat} (h : n ≤ k) : ∀ {ds : List D}, belows n ds = true → belows k ds = true
  | [], _ => rfl
  | d :: ds, q => by
    have q : (below n d && belows n ds) = true := q
    rw [Bool.and_eq_true] at q
    show (below k d && belows k ds) = true
    rw [below_up h q.1, belows_up h q.2]
    rfl
end
theorem eqDs_refl_of {ds : List D} (h : eqDs ds ds = true) {n : Nat} {cs : List Cell} (hc : cs[n]? = some (.lst ds)) : keepD n ds cs = true := by
  unfold keepD
  rw [hc]
  exact h
end VL

namespace K34
open PySem L2 PyProof.Rows VL
def topS (i : Nat) : Stmt := PySem.Challenge.pw_plainroads_k34_rules_that_are_plain.main.body.getD i (.Pass ⟨0, 0, 0, 0⟩)
abbrev s_is_lot : Stmt := topS 10
abbrev n_is_lot : List Str := ["value", "word"]
theorem sc_is_lot : FnScope n_is_lot ["value"] (defScope s_is_lot) := ⟨rfl, rfl, rfl, by decide +kernel, rfl, by decide +kernel, by decide +kernel⟩
abbrev s_lot_text : Stmt := topS 11
abbrev n_lot_text : List Str := ["lot"]
theorem sc_lot_text : FnScope n_lot_text ["lot"] (defScope s_lot_text) := ⟨rfl, rfl, rfl, by decide +kernel, rfl, by decide +kernel, by decide +kernel⟩
abbrev s_init : Stmt := inClass (topS 12) 0
abbrev n_init : List Str := ["self", "sees", "looks", "takes", "word"]
theorem sc_init : FnScope n_init ["self", "sees", "looks", "takes"] (defScope s_init) := ⟨rfl, rfl, rfl, by decide +kernel, rfl, by decide +kernel, by decide +kernel⟩
abbrev s_str : Stmt := inClass (topS 12) 4
abbrev n_str : List Str := ["self"]
theorem sc_str : FnScope n_str ["self"] (defScope s_str) := ⟨rfl, rfl, rfl, by decide +kernel, rfl, by decide +kernel, by decide +kernel⟩
abbrev s_every_rule : Stmt := topS 13
abbrev n_every_rule : List Str := ["found", "sees", "looks", "takes"]
theorem sc_every_rule : FnScope n_every_rule [] (defScope s_every_rule) := ⟨rfl, rfl, rfl, by decide +kernel, rfl, by decide +kernel, by decide +kernel⟩
abbrev s_takes_all : Stmt := topS 14
abbrev n_takes_all : List Str := ["rule"]
theorem sc_takes_all : FnScope n_takes_all ["rule"] (defScope s_takes_all) := ⟨rfl, rfl, rfl, by decide +kernel, rfl, by decide +kernel, by decide +kernel⟩
abbrev s_can_refuse : Stmt := topS 15
abbrev n_can_refuse : List Str := ["rule"]
theorem sc_can_refuse : FnScope n_can_refuse ["rule"] (defScope s_can_refuse) := ⟨rfl, rfl, rfl, by decide +kernel, rfl, by decide +kernel, by decide +kernel⟩
abbrev s_can_wait : Stmt := topS 16
abbrev n_can_wait : List Str := ["rule"]
theorem sc_can_wait : FnScope n_can_wait ["rule"] (defScope s_can_wait) := ⟨rfl, rfl, rfl, by decide +kernel, rfl, by decide +kernel, by decide +kernel⟩
abbrev s_isplain : Stmt := topS 17
abbrev n_isplain : List Str := ["rule"]
theorem sc_isplain : FnScope n_isplain ["rule"] (defScope s_isplain) := ⟨rfl, rfl, rfl, by decide +kernel, rfl, by decide +kernel, by decide +kernel⟩
abbrev s_lets_all : Stmt := topS 18
abbrev n_lets_all : List Str := ["one", "other", "word", "known"]
theorem sc_lets_all : FnScope n_lets_all ["one", "other"] (defScope s_lets_all) := ⟨rfl, rfl, rfl, by decide +kernel, rfl, by decide +kernel, by decide +kernel⟩
abbrev s_looser : Stmt := topS 19
abbrev n_looser : List Str := ["rule", "one"]
theorem sc_looser : FnScope n_looser ["rule"] (defScope s_looser) := ⟨rfl, rfl, rfl, by decide +kernel, rfl, by decide +kernel, by decide +kernel⟩
abbrev s_deal : Stmt := topS 21
abbrev n_deal : List Str := ["_law_script", "_law_base", "_law_cells_here", "_law_cell", "_law_stirred"]
theorem sc_deal : FnScope n_deal ["_law_script", "_law_base"] (defScope s_deal) := ⟨rfl, rfl, rfl, by decide +kernel, rfl, by decide +kernel, by decide +kernel⟩
abbrev s_draw : Stmt := topS 22
abbrev n_draw : List Str := ["_law_deal_here", "_law_wide", "_law_left"]
theorem sc_draw : FnScope n_draw ["_law_deal_here", "_law_wide"] (defScope s_draw) := ⟨rfl, rfl, rfl, by decide +kernel, rfl, by decide +kernel, by decide +kernel⟩
abbrev s_pick : Stmt := topS 23
abbrev n_pick : List Str := ["_law_deal_here", "_law_some"]
theorem sc_pick : FnScope n_pick ["_law_deal_here", "_law_some"] (defScope s_pick) := ⟨rfl, rfl, rfl, by decide +kernel, rfl, by decide +kernel, by decide +kernel⟩
abbrev s_llot : Stmt := topS 24
abbrev n_llot : List Str := ["_law_words"]
theorem sc_llot : FnScope n_llot ["_law_words"] (defScope s_llot) := ⟨rfl, rfl, rfl, by decide +kernel, rfl, by decide +kernel, by decide +kernel⟩
abbrev s_ltext : Stmt := topS 25
abbrev n_ltext : List Str := ["_law_told_rule"]
theorem sc_ltext : FnScope n_ltext ["_law_told_rule"] (defScope s_ltext) := ⟨rfl, rfl, rfl, by decide +kernel, rfl, by decide +kernel, by decide +kernel⟩
abbrev s_ltakes : Stmt := topS 26
abbrev n_ltakes : List Str := ["_law_told_rule"]
theorem sc_ltakes : FnScope n_ltakes ["_law_told_rule"] (defScope s_ltakes) := ⟨rfl, rfl, rfl, by decide +kernel, rfl, by decide +kernel, by decide +kernel⟩
abbrev s_llets : Stmt := topS 27
abbrev n_llets : List Str := ["_law_one", "_law_other", "_law_word"]
theorem sc_llets : FnScope n_llets ["_law_one", "_law_other"] (defScope s_llets) := ⟨rfl, rfl, rfl, by decide +kernel, rfl, by decide +kernel, by decide +kernel⟩
abbrev s_law : Stmt := topS 28
abbrev n_law : List Str := ["_law_script", "_law_deal_here", "_law_lots_here", "_law_every", "_law_sees_here", "_law_looks_here", "_law_takes_here", "_law_turn", "_law_one", "_law_other", "_law_made", "_law_mate", "_law_due", "_law_two"]
theorem sc_law : FnScope n_law ["_law_script"] (defScope s_law) := ⟨rfl, rfl, rfl, by decide +kernel, rfl, by decide +kernel, by decide +kernel⟩
structure Tx (K : Kt) (mg : Str → Option Value) : Prop where
  b_len : mg "len" = none
  b_int : mg "int" = none
  b_abs : mg "abs" = none
  b_isinstance : mg "isinstance" = none
  b_str : mg "str" = none
  b_all : mg "all" = none
  b_repr : mg "repr" = none
  b_list : mg "list" = none
  b_tuple : mg "tuple" = none
  b_set : mg "set" = none
  b_sorted : mg "sorted" = none
  b_range : mg "range" = none
  f_Rule_sees : FldOk K 0 "sees"
  f_Rule_looks : FldOk K 0 "looks"
  f_Rule_takes : FldOk K 0 "takes"
  c_GETS : ∃ (v : V) (u : Value), mg "GETS" = some u ∧ RelV v u ∧ ∀ ρ F, RV K ρ F (.str "gets") v
  c_PUTS : ∃ (v : V) (u : Value), mg "PUTS" = some u ∧ RelV v u ∧ ∀ ρ F, RV K ρ F (.str "puts") v
  c_NOW : ∃ (v : V) (u : Value), mg "NOW" = some u ∧ RelV v u ∧ ∀ ρ F, RV K ρ F (.str "now") v
  c_SIGHTS : ∃ (v : V) (u : Value), mg "SIGHTS" = some u ∧ RelV v u ∧ ∀ ρ F, RV K ρ F (.tup [.str "begin", .str "now"]) v
  c_LOTS : ∃ (v : V) (u : Value), mg "LOTS" = some u ∧ RelV v u ∧ ∀ ρ F, RV K ρ F (.tup [.tup [], .tup [.str "gets"], .tup [.str "gets", .str "puts"], .tup [.str "puts"]]) v
  t_is_lot : Txt1 K mg "is_lot" s_is_lot ["value"]
  t_lot_text : Txt1 K mg "lot_text" s_lot_text ["lot"]
  t_init : TxtC K mg "Rule" 0 s_init ["self", "sees", "looks", "takes"]
  t_str : TxtM K 0 "__str__" "Rule.__str__" s_str ["self"]
  t_every_rule : Txt1 K mg "every_rule" s_every_rule []
  t_takes_all : Txt1 K mg "takes_all" s_takes_all ["rule"]
  t_can_refuse : Txt1 K mg "can_refuse" s_can_refuse ["rule"]
  t_can_wait : Txt1 K mg "can_wait" s_can_wait ["rule"]
  t_isplain : Txt1 K mg "is_plain_rule" s_isplain ["rule"]
  t_lets_all : Txt1 K mg "lets_all" s_lets_all ["one", "other"]
  t_looser : Txt1 K mg "looser" s_looser ["rule"]
  t_deal : Txt1 K mg "_law_deal" s_deal ["_law_script", "_law_base"]
  t_draw : Txt1 K mg "_law_draw" s_draw ["_law_deal_here", "_law_wide"]
  t_pick : Txt1 K mg "_law_pick" s_pick ["_law_deal_here", "_law_some"]
  t_llot : Txt1 K mg "_law_lot" s_llot ["_law_words"]
  t_ltext : Txt1 K mg "_law_rule_text" s_ltext ["_law_told_rule"]
  t_ltakes : Txt1 K mg "_law_takes_all" s_ltakes ["_law_told_rule"]
  t_llets : Txt1 K mg "_law_lets" s_llets ["_law_one", "_law_other"]
def b_is_lot : Sx :=
  (sSeq (sIf (tNot' (tTru (eUn (gIsiG (ansT ["list", "tuple"])) (eVar 0)))) (sRet (eC (.bl false))) sNil)
    (sSeq (sIf (tNot' (tTru (eB hAll (aCons (eLc (iT (eVar 0)) (gNm 1) tTrue (eAnd (eUn (gIsi "str") (eVar 1)) (eOp (gIn false) (eVar 1) (eTup (aCons (eC (.str "gets")) (aCons (eC (.str "puts")) aNil))))) [1]) aNil)))) (sRet (eC (.bl false))) sNil)
    (sRet (eOp (gEqB false) (eLenSet (eVar 0)) (eB hLen (aCons (eVar 0) aNil))))))
theorem ok_is_lot {P : Program} {w : World} {K : Kt} {mg : Str → Option Value} {base : Heap} (T : Tx K mg) : Def P w K mg base "is_lot" s_is_lot 1 ["value"] (runF 2 b_is_lot) := by
  refine mkDef (k := 0) (N := n_is_lot) (body := b_is_lot) T.t_is_lot sc_is_lot ?_
  rintro f G rfl cdv A outer s H E hr
  obtain ⟨v_PUTS, u_PUTS, hm_PUTS, hr_PUTS, hv_PUTS⟩ := T.c_PUTS
  obtain ⟨v_GETS, u_GETS, hm_GETS, hr_GETS, hv_GETS⟩ := T.c_GETS
  exact (ds_cons (ds_if (dt_not (dt_tru rfl (de_isiT2 rfl rfl T.b_isinstance rfl T.b_list (by decide +kernel) rfl T.b_tuple (by decide +kernel) (de_var (pv 0))))) (ds_one (ds_ret de_bl)) ds_nil)
    (ds_cons (ds_if (dt_not (dt_tru rfl (de_all rfl rfl rfl T.b_all (da_cons (de_lc (own := [("word", 1)]) rfl sc_is_lot.nd (di_tup rfl (de_var (pv 0))) (blkOk_by (N := n_is_lot) (sc := defScope s_is_lot) (by decide +kernel)) (by decide) (fun _ _ _ _ _ => (dg_name (i := 1) sc_is_lot.nd)) (fun _ _ _ _ _ => dts_nil) (fun _ _ _ _ _ => (de_and rfl (de_isi rfl rfl T.b_isinstance rfl T.b_str (by decide +kernel) (de_var (pv 1))) (de_one (de_in rfl (de_var (pv 1)) (de_tup (da_cons (de_c (pe_glob rfl hm_GETS hr_GETS) hv_GETS) (da_cons (de_c (pe_glob rfl hm_PUTS hr_PUTS) hv_PUTS) da_nil)))))))) da_nil)))) (ds_one (ds_ret de_bl)) ds_nil)
    (ds_one (ds_ret (de_eq rfl hr.units (de_lenSet rfl rfl rfl T.b_len rfl T.b_set (de_var (pv 0))) (de_len rfl rfl T.b_len (da_cons (de_var (pv 0)) da_nil)))))))
def isLotF : Fn := trimF (runF 2 b_is_lot)
theorem ok1_is_lot {P : Program} {w : World} {K : Kt} {mg : Str → Option Value} {base : Heap} (T : Tx K mg) : Def P w K mg base "is_lot" s_is_lot 1 ["value"] isLotF := (ok_is_lot T ).trim
def b_lot_text : Sx :=
  (sRet (eIf (tCmp' (gEqB false) (eB hLen (aCons (eVar 0) aNil)) (eC (.int 0))) (eC (.str "-")) (eMS gJoin (eC (.str "+")) (eVar 0))))
theorem ok_lot_text {P : Program} {w : World} {K : Kt} {mg : Str → Option Value} {base : Heap} (T : Tx K mg) : Def P w K mg base "lot_text" s_lot_text 1 ["lot"] (runF 1 b_lot_text) := by
  refine mkDef (k := 0) (N := n_lot_text) (body := b_lot_text) T.t_lot_text sc_lot_text ?_
  rintro f G rfl cdv A outer s H E hr
  exact (ds_one (ds_ret (de_if (dt_eq rfl hr.units (de_len rfl rfl T.b_len (da_cons (de_var (pv 0)) da_nil)) de_int) de_str (de_join rfl de_str (de_var (pv 0))))))
def lotTextF : Fn := trimF (runF 1 b_lot_text)
theorem ok1_lot_text {P : Program} {w : World} {K : Kt} {mg : Str → Option Value} {base : Heap} (T : Tx K mg) : Def P w K mg base "lot_text" s_lot_text 1 ["lot"] lotTextF := (ok_lot_text T ).trim
def b_init : Sx :=
  (sSeq (sIf (tOr' (tNot' (tTru (eUn (gIsi "str") (eVar 1)))) (tCmp' (gIn true) (eVar 1) (eC (.tup [.str "begin", .str "now"])))) sNever sNil)
    (sSeq (sIf (tNot' (tTru (eCall 0 isLotF (aCons (eVar 2) aNil)))) sNever sNil)
    (sSeq (sIf (tNot' (tTru (eCall 0 isLotF (aCons (eVar 3) aNil)))) sNever sNil)
    (sSeq (sSetFld 0 "sees" (eVar 1) (eVar 0))
    (sSeq (sSetFld 0 "looks" (eB hTuple (aCons (eB hSortS (aCons (eLc (iT (eVar 2)) (gNm 4) tTrue (eB hStrS (aCons (eVar 4) aNil)) [4]) aNil)) aNil)) (eVar 0))
    (sSetFld 0 "takes" (eB hTuple (aCons (eB hSortS (aCons (eLc (iT (eVar 3)) (gNm 4) tTrue (eB hStrS (aCons (eVar 4) aNil)) [4]) aNil)) aNil)) (eVar 0)))))))
theorem ok_init {P : Program} {w : World} {K : Kt} {mg : Str → Option Value} {base : Heap} (T : Tx K mg) (d_is_lot : Def P w K mg base "is_lot" s_is_lot 1 ["value"] isLotF) : DefC P w K mg base "Rule" 0 3 ["self", "sees", "looks", "takes"] (runF 5 b_init) := by
  refine mkDefC (k := 2) (N := n_init) (body := b_init) T.t_init sc_init ?_
  rintro f G rfl cdv A outer s H E hr
  obtain ⟨v_SIGHTS, u_SIGHTS, hm_SIGHTS, hr_SIGHTS, hv_SIGHTS⟩ := T.c_SIGHTS
  exact (ds_cons (ds_if (dt_w (dw_or (dt_not (dt_tru rfl (de_isi rfl rfl T.b_isinstance rfl T.b_str (by decide +kernel) (de_var (pv 1))))) (dw_or1 (dt_notin rfl (de_var (pv 1)) (de_c (pe_glob rfl hm_SIGHTS hr_SIGHTS) hv_SIGHTS))))) (ds_one ds_never) ds_nil)
    (ds_cons (ds_if (dt_not (dt_tru rfl (de_callD 0 d_is_lot rfl (takes_of rfl rfl rfl rfl) (hr.mono (by decide)) (da_cons (de_var (pv 2)) da_nil) (alen_cons alen_nil)))) (ds_one ds_never) ds_nil)
    (ds_cons (ds_if (dt_not (dt_tru rfl (de_callD 0 d_is_lot rfl (takes_of rfl rfl rfl rfl) (hr.mono (by decide)) (da_cons (de_var (pv 3)) da_nil) (alen_cons alen_nil)))) (ds_one ds_never) ds_nil)
    (ds_cons (ds_fld rfl T.f_Rule_sees (de_var (pv 0)) (de_var (pv 1)))
    (ds_cons (ds_fld rfl T.f_Rule_looks (de_var (pv 0)) (de_tuple1 rfl rfl T.b_tuple (da_cons (de_sortS rfl rfl T.b_sorted (da_cons (de_lc (own := [("word", 4)]) rfl sc_init.nd (di_tup rfl (de_var (pv 2))) (blkOk_by (N := n_init) (sc := defScope s_init) (by decide +kernel)) (by decide) (fun _ _ _ _ _ => (dg_name (i := 4) sc_init.nd)) (fun _ _ _ _ _ => dts_nil) (fun _ _ _ _ _ => (de_strS rfl T.b_str (da_cons (de_var (pv 4)) da_nil)))) da_nil)) da_nil)))
    (ds_one (ds_fld rfl T.f_Rule_takes (de_var (pv 0)) (de_tuple1 rfl rfl T.b_tuple (da_cons (de_sortS rfl rfl T.b_sorted (da_cons (de_lc (own := [("word", 4)]) rfl sc_init.nd (di_tup rfl (de_var (pv 3))) (blkOk_by (N := n_init) (sc := defScope s_init) (by decide +kernel)) (by decide) (fun _ _ _ _ _ => (dg_name (i := 4) sc_init.nd)) (fun _ _ _ _ _ => dts_nil) (fun _ _ _ _ _ => (de_strS rfl T.b_str (da_cons (de_var (pv 4)) da_nil)))) da_nil)) da_nil)))))))))
def initF : Fn := runF 5 b_init
theorem ok1_init {P : Program} {w : World} {K : Kt} {mg : Str → Option Value} {base : Heap} (T : Tx K mg) (d_is_lot : Def P w K mg base "is_lot" s_is_lot 1 ["value"] isLotF) : DefC P w K mg base "Rule" 0 3 ["self", "sees", "looks", "takes"] initF := (ok_init T d_is_lot)
def b_str : Sx :=
  (sRet (eFs [(eUn (gFldC 0 "sees") (eVar 0)), (eC (.str " ")), (eCall 0 lotTextF (aCons (eUn (gFldC 0 "looks") (eVar 0)) aNil)), (eC (.str " ")), (eCall 0 lotTextF (aCons (eUn (gFldC 0 "takes") (eVar 0)) aNil))]))
theorem ok_str {P : Program} {w : World} {K : Kt} {mg : Str → Option Value} {base : Heap} (T : Tx K mg) (d_lot_text : Def P w K mg base "lot_text" s_lot_text 1 ["lot"] lotTextF) : DefM P w K mg base 0 "__str__" 2 ["self"] (runF 1 b_str) := by
  refine mkDefM (k := 1) (N := n_str) (body := b_str) T.t_str sc_str ?_
  rintro f G rfl cdv A outer s H E hr
  exact (ds_one (ds_ret (de_fs (DJ.fmt (de_fld rfl T.f_Rule_sees (de_var (pv 0))) (DJ.txt de_str (DJ.fmt (de_callD 0 d_lot_text rfl (takes_of rfl rfl rfl rfl) (hr.mono (by decide)) (da_cons (de_fld rfl T.f_Rule_looks (de_var (pv 0))) da_nil) (alen_cons alen_nil)) (DJ.txt de_str (DJ.fmt (de_callD 0 d_lot_text rfl (takes_of rfl rfl rfl rfl) (hr.mono (by decide)) (da_cons (de_fld rfl T.f_Rule_takes (de_var (pv 0))) da_nil) (alen_cons alen_nil)) DJ.nil))))))))
def strF : Fn := trimF (runF 1 b_str)
theorem ok1_str {P : Program} {w : World} {K : Kt} {mg : Str → Option Value} {base : Heap} (T : Tx K mg) (d_lot_text : Def P w K mg base "lot_text" s_lot_text 1 ["lot"] lotTextF) : DefM P w K mg base 0 "__str__" 2 ["self"] strF := (ok_str T d_lot_text).trim
def b_every_rule : Sx :=
  (sSeq (sAsg (eLoc aNil) (gNm 0))
    (sSeq (sFor (iT (eC (.tup [.str "begin", .str "now"]))) (gNm 1) (sFor (iT (eC (.tup [.tup [], .tup [.str "gets"], .tup [.str "gets", .str "puts"], .tup [.str "puts"]]))) (gNm 2) (sExpr (eExtend (eVar 0) (eLc (iT (eC (.tup [.tup [], .tup [.str "gets"], .tup [.str "gets", .str "puts"], .tup [.str "puts"]]))) (gNm 3) tTrue (eMake 0 initF (aCons (eVar 1) (aCons (eVar 2) (aCons (eVar 3) aNil)))) [3])))))
    (sRet (eB hTuple (aCons (eSortK 0 strF (eVar 0)) aNil)))))
theorem ok_every_rule {P : Program} {w : World} {K : Kt} {mg : Str → Option Value} {base : Heap} (T : Tx K mg) (m_Rule : DefC P w K mg base "Rule" 0 3 ["self", "sees", "looks", "takes"] initF) (o_str : DefM P w K mg base 0 "__str__" 2 ["self"] strF) : Def P w K mg base "every_rule" s_every_rule 7 [] (runF 4 b_every_rule) := by
  refine mkDef (k := 6) (N := n_every_rule) (body := b_every_rule) T.t_every_rule sc_every_rule ?_
  rintro f G rfl cdv A outer s H E hr
  obtain ⟨v_SIGHTS, u_SIGHTS, hm_SIGHTS, hr_SIGHTS, hv_SIGHTS⟩ := T.c_SIGHTS
  obtain ⟨v_LOTS, u_LOTS, hm_LOTS, hr_LOTS, hv_LOTS⟩ := T.c_LOTS
  exact (ds_cons (ds_set (i := 0) sc_every_rule.nd (de_loc da_nil))
    (ds_cons (ds_for (passes_of rfl) rfl (di_tup rfl (de_c (pe_glob rfl hm_SIGHTS hr_SIGHTS) hv_SIGHTS)) (dg_name (i := 1) sc_every_rule.nd) (ds_one (ds_for (passes_of rfl) rfl (di_tup rfl (de_c (pe_glob rfl hm_LOTS hr_LOTS) hv_LOTS)) (dg_name (i := 2) sc_every_rule.nd) (ds_one (ds_expr (de_extend rfl (pe_bm PySem.F.plainAttrs_list PySem.F.slot_list_extend PySem.F.type_list_extend mt_extend (de_var (pv 0)) (pa_cons (de_lc (own := [("takes", 3)]) rfl sc_every_rule.nd (di_tup rfl (de_c (pe_glob rfl hm_LOTS hr_LOTS) hv_LOTS)) (blkOk_by (N := n_every_rule) (sc := defScope s_every_rule) (by decide +kernel)) (by decide) (fun _ _ _ _ _ => (dg_name (i := 3) sc_every_rule.nd)) (fun _ _ _ _ _ => dts_nil) (fun _ _ _ _ _ => (de_makeD m_Rule rfl flat0 takes0 (hr.mono (by decide)) (da_cons (de_var (pv 1)) (da_cons (de_var (pv 2)) (da_cons (de_var (pv 3)) da_nil))) (alen_cons (alen_cons (alen_cons alen_nil))) rfl))) pa_nil))))))))
    (ds_one (ds_ret (de_tuple1 rfl rfl T.b_tuple (da_cons (de_sortK o_str rfl rfl (hr.mono (by decide)) rfl T.b_sorted rfl T.b_str (de_var (pv 0))) da_nil))))))
def everyF : Fn := trimF (runF 4 b_every_rule)
theorem ok1_every_rule {P : Program} {w : World} {K : Kt} {mg : Str → Option Value} {base : Heap} (T : Tx K mg) (m_Rule : DefC P w K mg base "Rule" 0 3 ["self", "sees", "looks", "takes"] initF) (o_str : DefM P w K mg base 0 "__str__" 2 ["self"] strF) : Def P w K mg base "every_rule" s_every_rule 7 [] everyF := (ok_every_rule T m_Rule o_str).trim
def b_takes_all : Sx :=
  (sRet (eAnd (eOp (gEqB false) (eUn (gFldC 0 "sees") (eVar 0)) (eC (.str "now"))) (eOp gGt (eB hLen (aCons (eUn (gFldC 0 "takes") (eVar 0)) aNil)) (eC (.int 1)))))
theorem ok_takes_all {P : Program} {w : World} {K : Kt} {mg : Str → Option Value} {base : Heap} (T : Tx K mg) : Def P w K mg base "takes_all" s_takes_all 1 ["rule"] (runF 1 b_takes_all) := by
  refine mkDef (k := 0) (N := n_takes_all) (body := b_takes_all) T.t_takes_all sc_takes_all ?_
  rintro f G rfl cdv A outer s H E hr
  obtain ⟨v_NOW, u_NOW, hm_NOW, hr_NOW, hv_NOW⟩ := T.c_NOW
  exact (ds_one (ds_ret (de_and rfl (de_eq rfl hr.units (de_fld rfl T.f_Rule_sees (de_var (pv 0))) (de_c (pe_glob rfl hm_NOW hr_NOW) hv_NOW)) (de_one (de_gt (de_len rfl rfl T.b_len (da_cons (de_fld rfl T.f_Rule_takes (de_var (pv 0))) da_nil)) de_int)))))
def takesF : Fn := trimF (runF 1 b_takes_all)
theorem ok1_takes_all {P : Program} {w : World} {K : Kt} {mg : Str → Option Value} {base : Heap} (T : Tx K mg) : Def P w K mg base "takes_all" s_takes_all 1 ["rule"] takesF := (ok_takes_all T ).trim
def b_can_refuse : Sx :=
  (sRet (eOr (eOp (gIn false) (eC (.str "puts")) (eUn (gFldC 0 "looks") (eVar 0))) (eAnd (eOp (gIn false) (eC (.str "gets")) (eUn (gFldC 0 "looks") (eVar 0))) (eNot (eCall 0 takesF (aCons (eVar 0) aNil))))))
theorem ok_can_refuse {P : Program} {w : World} {K : Kt} {mg : Str → Option Value} {base : Heap} (T : Tx K mg) (d_takes_all : Def P w K mg base "takes_all" s_takes_all 1 ["rule"] takesF) : Def P w K mg base "can_refuse" s_can_refuse 2 ["rule"] (runF 1 b_can_refuse) := by
  refine mkDef (k := 1) (N := n_can_refuse) (body := b_can_refuse) T.t_can_refuse sc_can_refuse ?_
  rintro f G rfl cdv A outer s H E hr
  obtain ⟨v_PUTS, u_PUTS, hm_PUTS, hr_PUTS, hv_PUTS⟩ := T.c_PUTS
  obtain ⟨v_GETS, u_GETS, hm_GETS, hr_GETS, hv_GETS⟩ := T.c_GETS
  exact (ds_one (ds_ret (de_or rfl (de_in rfl (de_c (pe_glob rfl hm_PUTS hr_PUTS) hv_PUTS) (de_fld rfl T.f_Rule_looks (de_var (pv 0)))) (de_one (de_and rfl (de_in rfl (de_c (pe_glob rfl hm_GETS hr_GETS) hv_GETS) (de_fld rfl T.f_Rule_looks (de_var (pv 0)))) (de_one (de_not rfl (de_callD 0 d_takes_all rfl (takes_of rfl rfl rfl rfl) (hr.mono (by decide)) (da_cons (de_var (pv 0)) da_nil) (alen_cons alen_nil)))))))))
def refuseF : Fn := trimF (runF 1 b_can_refuse)
theorem ok1_can_refuse {P : Program} {w : World} {K : Kt} {mg : Str → Option Value} {base : Heap} (T : Tx K mg) (d_takes_all : Def P w K mg base "takes_all" s_takes_all 1 ["rule"] takesF) : Def P w K mg base "can_refuse" s_can_refuse 2 ["rule"] refuseF := (ok_can_refuse T d_takes_all).trim
def b_can_wait : Sx :=
  (sRet (eOp gGt (eB hLen (aCons (eUn (gFldC 0 "takes") (eVar 0)) aNil)) (eC (.int 0))))
theorem ok_can_wait {P : Program} {w : World} {K : Kt} {mg : Str → Option Value} {base : Heap} (T : Tx K mg) : Def P w K mg base "can_wait" s_can_wait 1 ["rule"] (runF 1 b_can_wait) := by
  refine mkDef (k := 0) (N := n_can_wait) (body := b_can_wait) T.t_can_wait sc_can_wait ?_
  rintro f G rfl cdv A outer s H E hr
  exact (ds_one (ds_ret (de_gt (de_len rfl rfl T.b_len (da_cons (de_fld rfl T.f_Rule_takes (de_var (pv 0))) da_nil)) de_int)))
def waitF : Fn := trimF (runF 1 b_can_wait)
theorem ok1_can_wait {P : Program} {w : World} {K : Kt} {mg : Str → Option Value} {base : Heap} (T : Tx K mg) : Def P w K mg base "can_wait" s_can_wait 1 ["rule"] waitF := (ok_can_wait T ).trim
def b_isplain : Sx :=
  (sRet (eOr (eOp (gIn false) (eC (.str "gets")) (eUn (gFldC 0 "looks") (eVar 0))) (eCall 0 takesF (aCons (eVar 0) aNil))))
theorem ok_isplain {P : Program} {w : World} {K : Kt} {mg : Str → Option Value} {base : Heap} (T : Tx K mg) (d_takes_all : Def P w K mg base "takes_all" s_takes_all 1 ["rule"] takesF) : Def P w K mg base "is_plain_rule" s_isplain 2 ["rule"] (runF 1 b_isplain) := by
  refine mkDef (k := 1) (N := n_isplain) (body := b_isplain) T.t_isplain sc_isplain ?_
  rintro f G rfl cdv A outer s H E hr
  obtain ⟨v_GETS, u_GETS, hm_GETS, hr_GETS, hv_GETS⟩ := T.c_GETS
  exact (ds_one (ds_ret (de_or rfl (de_in rfl (de_c (pe_glob rfl hm_GETS hr_GETS) hv_GETS) (de_fld rfl T.f_Rule_looks (de_var (pv 0)))) (de_one (de_callD 0 d_takes_all rfl (takes_of rfl rfl rfl rfl) (hr.mono (by decide)) (da_cons (de_var (pv 0)) da_nil) (alen_cons alen_nil))))))
def plainF : Fn := trimF (runF 1 b_isplain)
theorem ok1_isplain {P : Program} {w : World} {K : Kt} {mg : Str → Option Value} {base : Heap} (T : Tx K mg) (d_takes_all : Def P w K mg base "takes_all" s_takes_all 1 ["rule"] takesF) : Def P w K mg base "is_plain_rule" s_isplain 2 ["rule"] plainF := (ok_isplain T d_takes_all).trim
def b_lets_all : Sx :=
  (sSeq (sIf (tOr' (tCmp' (gEqB true) (eUn (gFldC 0 "sees") (eVar 0)) (eUn (gFldC 0 "sees") (eVar 1))) (tNot' (tTru (eB hAll (aCons (eLc (iT (eUn (gFldC 0 "takes") (eVar 0))) (gNm 2) tTrue (eOp (gIn false) (eVar 2) (eUn (gFldC 0 "takes") (eVar 1))) [2]) aNil))))) (sRet (eC (.bl false))) sNil)
    (sSeq (sAsg (eIf (tTru (eCall 0 takesF (aCons (eVar 1) aNil))) (eTup (aStar (eUn (gFldC 0 "looks") (eVar 1)) (aCons (eC (.str "gets")) aNil))) (eUn (gFldC 0 "looks") (eVar 1))) (gNm 3))
    (sRet (eB hAll (aCons (eLc (iT (eUn (gFldC 0 "looks") (eVar 0))) (gNm 2) tTrue (eOp (gIn false) (eVar 2) (eVar 3)) [2]) aNil)))))
theorem ok_lets_all {P : Program} {w : World} {K : Kt} {mg : Str → Option Value} {base : Heap} (T : Tx K mg) (d_takes_all : Def P w K mg base "takes_all" s_takes_all 1 ["rule"] takesF) : Def P w K mg base "lets_all" s_lets_all 2 ["one", "other"] (runF 4 b_lets_all) := by
  refine mkDef (k := 1) (N := n_lets_all) (body := b_lets_all) T.t_lets_all sc_lets_all ?_
  rintro f G rfl cdv A outer s H E hr
  obtain ⟨v_GETS, u_GETS, hm_GETS, hr_GETS, hv_GETS⟩ := T.c_GETS
  exact (ds_cons (ds_if (dt_w (dw_or (dt_ne rfl hr.units (de_fld rfl T.f_Rule_sees (de_var (pv 0))) (de_fld rfl T.f_Rule_sees (de_var (pv 1)))) (dw_or1 (dt_not (dt_tru rfl (de_all rfl rfl rfl T.b_all (da_cons (de_lc (own := [("word", 2)]) rfl sc_lets_all.nd (di_tup rfl (de_fld rfl T.f_Rule_takes (de_var (pv 0)))) (blkOk_by (N := n_lets_all) (sc := defScope s_lets_all) (by decide +kernel)) (by decide) (fun _ _ _ _ _ => (dg_name (i := 2) sc_lets_all.nd)) (fun _ _ _ _ _ => dts_nil) (fun _ _ _ _ _ => (de_in rfl (de_var (pv 2)) (de_fld rfl T.f_Rule_takes (de_var (pv 1)))))) da_nil))))))) (ds_one (ds_ret de_bl)) ds_nil)
    (ds_cons (ds_set (i := 3) sc_lets_all.nd (de_if (dt_tru rfl (de_callD 0 d_takes_all rfl (takes_of rfl rfl rfl rfl) (hr.mono (by decide)) (da_cons (de_var (pv 1)) da_nil) (alen_cons alen_nil))) (de_tup (da_star rfl (de_fld rfl T.f_Rule_looks (de_var (pv 1))) (da_cons (de_c (pe_glob rfl hm_GETS hr_GETS) hv_GETS) da_nil))) (de_fld rfl T.f_Rule_looks (de_var (pv 1)))))
    (ds_one (ds_ret (de_all rfl rfl rfl T.b_all (da_cons (de_lc (own := [("word", 2)]) rfl sc_lets_all.nd (di_tup rfl (de_fld rfl T.f_Rule_looks (de_var (pv 0)))) (blkOk_by (N := n_lets_all) (sc := defScope s_lets_all) (by decide +kernel)) (by decide) (fun _ _ _ _ _ => (dg_name (i := 2) sc_lets_all.nd)) (fun _ _ _ _ _ => dts_nil) (fun _ _ _ _ _ => (de_in rfl (de_var (pv 2)) (de_var (pv 3))))) da_nil))))))
def letsF : Fn := trimF (runF 4 b_lets_all)
theorem ok1_lets_all {P : Program} {w : World} {K : Kt} {mg : Str → Option Value} {base : Heap} (T : Tx K mg) (d_takes_all : Def P w K mg base "takes_all" s_takes_all 1 ["rule"] takesF) : Def P w K mg base "lets_all" s_lets_all 2 ["one", "other"] letsF := (ok_lets_all T d_takes_all).trim
def b_looser : Sx :=
  (sRet (eB hTuple (aCons (eB hSortS (aCons (eLc (iT (eCall 0 everyF aNil)) (gNm 1) (tTru (eCall 0 letsF (aCons (eVar 1) (aCons (eVar 0) aNil)))) (eB (hStrO 0 strF) (aCons (eVar 1) aNil)) [1]) aNil)) aNil)))
theorem ok_looser {P : Program} {w : World} {K : Kt} {mg : Str → Option Value} {base : Heap} (T : Tx K mg) (d_every_rule : Def P w K mg base "every_rule" s_every_rule 7 [] everyF) (d_lets_all : Def P w K mg base "lets_all" s_lets_all 2 ["one", "other"] letsF) (o_str : DefM P w K mg base 0 "__str__" 2 ["self"] strF) : Def P w K mg base "looser" s_looser 8 ["rule"] (runF 2 b_looser) := by
  refine mkDef (k := 7) (N := n_looser) (body := b_looser) T.t_looser sc_looser ?_
  rintro f G rfl cdv A outer s H E hr
  exact (ds_one (ds_ret (de_tuple1 rfl rfl T.b_tuple (da_cons (de_sortS rfl rfl T.b_sorted (da_cons (de_lc (own := [("one", 1)]) rfl sc_looser.nd (di_tup rfl (de_call0D 0 d_every_rule rfl flatE (takes_of rfl rfl rfl rfl) (hr.mono (by decide)))) (blkOk_by (N := n_looser) (sc := defScope s_looser) (by decide +kernel)) (by decide) (fun _ _ _ _ _ => (dg_name (i := 1) sc_looser.nd)) (fun _ _ _ _ _ => (dts_one (dt_tru rfl (de_callD 0 d_lets_all rfl takes0 (hr.mono (by decide)) (da_cons (de_var (pv 1)) (da_cons (de_var (pv 0)) da_nil)) (alen_cons (alen_cons alen_nil)))))) (fun _ _ _ _ _ => (de_strObj o_str rfl rfl flat0 takes0 (hr.mono (by decide)) rfl T.b_str (da_cons (de_var (pv 1)) da_nil)))) da_nil)) da_nil))))
def looserF : Fn := trimF (runF 2 b_looser)
theorem ok1_looser {P : Program} {w : World} {K : Kt} {mg : Str → Option Value} {base : Heap} (T : Tx K mg) (d_every_rule : Def P w K mg base "every_rule" s_every_rule 7 [] everyF) (d_lets_all : Def P w K mg base "lets_all" s_lets_all 2 ["one", "other"] letsF) (o_str : DefM P w K mg base 0 "__str__" 2 ["self"] strF) : Def P w K mg base "looser" s_looser 8 ["rule"] looserF := (ok_looser T d_every_rule d_lets_all o_str).trim
def b_deal : Sx :=
  (sSeq (sAsg (eLc (iL (eSl false (eVar 0) (oSome (eVar 1)) (oSome (eC (.int 62))))) (gNm 3) tTrue (eB hAbs (aCons (eB hInt (aCons (eVar 3) aNil)) aNil)) [3]) (gNm 2))
    (sSeq (sAsg (eOp gAdd (eC (.int 67867967)) (eOp gMul (eC (.int 89)) (eVar 1))) (gNm 4))
    (sSeq (sFor (iL (eVar 2)) (gNm 3) (sAsg (eOp gMod (eB hInt (aCons (eOp gAdd (eOp gAdd (eOp gMul (eVar 4) (eC (.int 48271))) (eOp gMod (eB hInt (aCons (eVar 3) aNil)) (eC (.int 2147483629)))) (eC (.int 53))) aNil)) (eC (.int 2147483647))) (gNm 4)))
    (sRet (eLoc (aCons (eUn gRevLoc (eLc (iL (eVar 2)) (gNm 3) (tCmp' gGe (eVar 3) (eOp gPow (eC (.int 10)) (eC (.int 18)))) (eVar 3) [3])) (aCons (eVar 4) (aCons (eC (.int 0)) aNil))))))))
theorem ok_deal {P : Program} {w : World} {K : Kt} {mg : Str → Option Value} {base : Heap} (T : Tx K mg) : Def P w K mg base "_law_deal" s_deal 1 ["_law_script", "_law_base"] (runF 5 b_deal) := by
  refine mkDef (k := 0) (N := n_deal) (body := b_deal) T.t_deal sc_deal ?_
  rintro f G rfl cdv A outer s H E hr
  exact (ds_cons (ds_setLc (i := 2) (own := [("_law_cell", 3)]) rfl sc_deal.nd (di_list rfl (de_slice (own := false) rfl (de_var (pv 0)) (do_some (de_var (pv 1))) (do_some de_int))) (blkOk_by (N := n_deal) (sc := defScope s_deal) (by decide +kernel)) (by decide) (fun _ _ _ _ _ => (dg_name (i := 3) sc_deal.nd)) (fun _ _ _ _ _ => dts_nil) (fun _ _ _ _ _ => (de_abs rfl T.b_abs (da_cons (de_int1 rfl T.b_int (da_cons (de_var (pv 3)) da_nil)) da_nil))) (sw_true rfl rfl rfl (by decide +kernel)))
    (ds_cons (ds_set (i := 4) sc_deal.nd (de_add rfl de_int (de_mul de_int (de_var (pv 1)))))
    (ds_cons (ds_for (passes_of rfl) rfl (di_list rfl (de_var (pv 2))) (dg_name (i := 3) sc_deal.nd) (ds_one (ds_set (i := 4) sc_deal.nd (de_mod (de_int1 rfl T.b_int (da_cons (de_add rfl (de_add rfl (de_mul (de_var (pv 4)) de_int) (de_mod (de_int1 rfl T.b_int (da_cons (de_var (pv 3)) da_nil)) de_int)) de_int) da_nil)) de_int))))
    (ds_one (ds_ret (de_loc (da_cons (de_revLoc rfl (de_lc (own := [("_law_cell", 3)]) rfl sc_deal.nd (di_list rfl (de_var (pv 2))) (blkOk_by (N := n_deal) (sc := defScope s_deal) (by decide +kernel)) (by decide) (fun _ _ _ _ _ => (dg_name (i := 3) sc_deal.nd)) (fun _ _ _ _ _ => (dts_one (dt_ge (de_var (pv 3)) (de_pow de_int de_int)))) (fun _ _ _ _ _ => (de_var (pv 3))))) (da_cons (de_var (pv 4)) (da_cons de_int da_nil)))))))))
def dealF : Fn := runF 5 b_deal
theorem ok1_deal {P : Program} {w : World} {K : Kt} {mg : Str → Option Value} {base : Heap} (T : Tx K mg) : Def P w K mg base "_law_deal" s_deal 1 ["_law_script", "_law_base"] dealF := (ok_deal T )
def b_draw : Sx :=
  (sSeq (sWhile (fun _ => 64) (tAnd' (tCmp' (gEqB true) (eOp gIx (eVar 0) (eC (.int 0))) (eLst aNil)) (tCmp' (gEqB false) (eOp gIx (eOp gIx (eVar 0) (eC (.int 0))) (eUn gNeg (eC (.int 1)))) (eC (.int 0)))) (sExpr (ePop (eOp gIx (eVar 0) (eC (.int 0))))))
    (sSeq (sIf (tCmp' (gEqB true) (eOp gIx (eVar 0) (eC (.int 0))) (eLst aNil)) (sSeq (sAsg (ePop (eOp gIx (eVar 0) (eC (.int 0)))) (gNm 2))
    (sSeq (sExpr (eAppend (eOp gIx (eVar 0) (eC (.int 0))) (eOp gFdiv (eVar 2) (eVar 1))))
    (sRet (eOp gMod (eB hInt (aCons (eVar 2) aNil)) (eVar 1))))) sNil)
    (sSeq (sSetIx (eOp gAdd (eOp gIx (eVar 0) (eC (.int 2))) (eC (.int 1))) (eVar 0) (eC (.int 2)))
    (sSeq (sSetIx (eOp gMod (eB hInt (aCons (eOp gAdd (eOp gMul (eOp gAdd (eOp gIx (eVar 0) (eC (.int 1))) (eOp gMul (eC (.int 5381)) (eOp gIx (eVar 0) (eC (.int 2))))) (eC (.int 48271))) (eC (.int 59))) aNil)) (eC (.int 2147483647))) (eVar 0) (eC (.int 1)))
    (sRet (eOp gMod (eB hInt (aCons (eOp gFdiv (eOp gIx (eVar 0) (eC (.int 1))) (eC (.int 16))) aNil)) (eVar 1)))))))
theorem ok_draw {P : Program} {w : World} {K : Kt} {mg : Str → Option Value} {base : Heap} (T : Tx K mg) : Def P w K mg base "_law_draw" s_draw 1 ["_law_deal_here", "_law_wide"] (runF 3 b_draw) := by
  refine mkDef (k := 0) (N := n_draw) (body := b_draw) T.t_draw sc_draw ?_
  rintro f G rfl cdv A outer s H E hr
  exact (ds_cons (ds_while (fuel := (fun _ => 64)) (passes_of rfl) (dt_w (dw_and (dt_ne rfl hr.units (de_ix rfl (de_var (pv 0)) de_int) (de_lst da_nil)) (dw_and1 (dt_eq rfl hr.units (de_ix rfl (de_ix rfl (de_var (pv 0)) de_int) (de_neg de_int)) de_int)))) (ds_one (ds_expr (de_pop rfl (pe_bm0 PySem.F.plainAttrs_list PySem.F.slot_list_pop PySem.F.type_list_pop mt_pop (de_ix rfl (de_var (pv 0)) de_int))))))
    (ds_cons (ds_if (dt_ne rfl hr.units (de_ix rfl (de_var (pv 0)) de_int) (de_lst da_nil)) (ds_cons (ds_set (i := 2) sc_draw.nd (de_pop rfl (pe_bm0 PySem.F.plainAttrs_list PySem.F.slot_list_pop PySem.F.type_list_pop mt_pop (de_ix rfl (de_var (pv 0)) de_int))))
    (ds_cons (ds_expr (de_append rfl (pe_bm PySem.F.plainAttrs_list PySem.F.slot_list_append PySem.F.type_list_append mt_append (de_ix rfl (de_var (pv 0)) de_int) (pa_cons (de_fdiv (de_var (pv 2)) (de_var (pv 1))) pa_nil))))
    (ds_one (ds_ret (de_mod (de_int1 rfl T.b_int (da_cons (de_var (pv 2)) da_nil)) (de_var (pv 1))))))) ds_nil)
    (ds_cons (ds_setIx (de_add rfl (de_ix rfl (de_var (pv 0)) de_int) de_int) (de_var (pv 0)) de_int)
    (ds_cons (ds_setIx (de_mod (de_int1 rfl T.b_int (da_cons (de_add rfl (de_mul (de_add rfl (de_ix rfl (de_var (pv 0)) de_int) (de_mul de_int (de_ix rfl (de_var (pv 0)) de_int))) de_int) de_int) da_nil)) de_int) (de_var (pv 0)) de_int)
    (ds_one (ds_ret (de_mod (de_int1 rfl T.b_int (da_cons (de_fdiv (de_ix rfl (de_var (pv 0)) de_int) de_int) da_nil)) (de_var (pv 1)))))))))
def drawF : Fn := trimF (runF 3 b_draw)
theorem ok1_draw {P : Program} {w : World} {K : Kt} {mg : Str → Option Value} {base : Heap} (T : Tx K mg) : Def P w K mg base "_law_draw" s_draw 1 ["_law_deal_here", "_law_wide"] drawF := (ok_draw T ).trim
def b_pick : Sx :=
  (sRet (eOp gIx (eVar 1) (eCall 2 drawF (aCons (eVar 0) (aCons (eB hLen (aCons (eVar 1) aNil)) aNil)))))
theorem ok_pick {P : Program} {w : World} {K : Kt} {mg : Str → Option Value} {base : Heap} (T : Tx K mg) (d_draw : Def P w K mg base "_law_draw" s_draw 1 ["_law_deal_here", "_law_wide"] drawF) : Def P w K mg base "_law_pick" s_pick 2 ["_law_deal_here", "_law_some"] (runF 2 b_pick) := by
  refine mkDef (k := 1) (N := n_pick) (body := b_pick) T.t_pick sc_pick ?_
  rintro f G rfl cdv A outer s H E hr
  exact (ds_one (ds_ret (de_ix rfl (de_var (pv 1)) (de_callD 2 d_draw rfl (takes_of rfl rfl rfl rfl) (hr.mono (by decide)) (da_cons (de_var (pv 0)) (da_cons (de_len rfl rfl T.b_len (da_cons (de_var (pv 1)) da_nil)) da_nil)) (alen_cons (alen_cons alen_nil))))))
def pickF : Fn := trimF (runF 2 b_pick)
theorem ok1_pick {P : Program} {w : World} {K : Kt} {mg : Str → Option Value} {base : Heap} (T : Tx K mg) (d_draw : Def P w K mg base "_law_draw" s_draw 1 ["_law_deal_here", "_law_wide"] drawF) : Def P w K mg base "_law_pick" s_pick 2 ["_law_deal_here", "_law_some"] pickF := (ok_pick T d_draw).trim
def b_llot : Sx :=
  (sRet (eIf (tCmp' gGt (eB hLen (aCons (eVar 0) aNil)) (eC (.int 0))) (eMS gJoin (eC (.str "+")) (eVar 0)) (eC (.str "-"))))
theorem ok_llot {P : Program} {w : World} {K : Kt} {mg : Str → Option Value} {base : Heap} (T : Tx K mg) : Def P w K mg base "_law_lot" s_llot 1 ["_law_words"] (runF 1 b_llot) := by
  refine mkDef (k := 0) (N := n_llot) (body := b_llot) T.t_llot sc_llot ?_
  rintro f G rfl cdv A outer s H E hr
  exact (ds_one (ds_ret (de_if (dt_gt (de_len rfl rfl T.b_len (da_cons (de_var (pv 0)) da_nil)) de_int) (de_join rfl de_str (de_var (pv 0))) de_str)))
def llotF : Fn := trimF (runF 1 b_llot)
theorem ok1_llot {P : Program} {w : World} {K : Kt} {mg : Str → Option Value} {base : Heap} (T : Tx K mg) : Def P w K mg base "_law_lot" s_llot 1 ["_law_words"] llotF := (ok_llot T ).trim
def b_ltext : Sx :=
  (sRet (eMS gJoin (eC (.str " ")) (eLst (aCons (eOp gIx (eVar 0) (eC (.int 0))) (aCons (eCall 0 llotF (aCons (eB hSortST (aCons (eOp gIx (eVar 0) (eC (.int 1))) aNil)) aNil)) (aCons (eCall 0 llotF (aCons (eB hSortST (aCons (eOp gIx (eVar 0) (eC (.int 2))) aNil)) aNil)) aNil))))))
theorem ok_ltext {P : Program} {w : World} {K : Kt} {mg : Str → Option Value} {base : Heap} (T : Tx K mg) (d_llot : Def P w K mg base "_law_lot" s_llot 1 ["_law_words"] llotF) : Def P w K mg base "_law_rule_text" s_ltext 2 ["_law_told_rule"] (runF 1 b_ltext) := by
  refine mkDef (k := 1) (N := n_ltext) (body := b_ltext) T.t_ltext sc_ltext ?_
  rintro f G rfl cdv A outer s H E hr
  exact (ds_one (ds_ret (de_join rfl de_str (de_lst (da_cons (de_ix rfl (de_var (pv 0)) de_int) (da_cons (de_callD 0 d_llot rfl (takes_of rfl rfl rfl rfl) (hr.mono (by decide)) (da_cons (de_sortST rfl rfl T.b_sorted (da_cons (de_ix rfl (de_var (pv 0)) de_int) da_nil)) da_nil) (alen_cons alen_nil)) (da_cons (de_callD 0 d_llot rfl (takes_of rfl rfl rfl rfl) (hr.mono (by decide)) (da_cons (de_sortST rfl rfl T.b_sorted (da_cons (de_ix rfl (de_var (pv 0)) de_int) da_nil)) da_nil) (alen_cons alen_nil)) da_nil)))))))
def ltextF : Fn := trimF (runF 1 b_ltext)
theorem ok1_ltext {P : Program} {w : World} {K : Kt} {mg : Str → Option Value} {base : Heap} (T : Tx K mg) (d_llot : Def P w K mg base "_law_lot" s_llot 1 ["_law_words"] llotF) : Def P w K mg base "_law_rule_text" s_ltext 2 ["_law_told_rule"] ltextF := (ok_ltext T d_llot).trim
def b_ltakes : Sx :=
  (sRet (eAnd (eOp (gEqB false) (eOp gIx (eVar 0) (eC (.int 0))) (eC (.str "now"))) (eOp (gEqB false) (eB hLen (aCons (eOp gIx (eVar 0) (eC (.int 2))) aNil)) (eC (.int 2)))))
theorem ok_ltakes {P : Program} {w : World} {K : Kt} {mg : Str → Option Value} {base : Heap} (T : Tx K mg) : Def P w K mg base "_law_takes_all" s_ltakes 1 ["_law_told_rule"] (runF 1 b_ltakes) := by
  refine mkDef (k := 0) (N := n_ltakes) (body := b_ltakes) T.t_ltakes sc_ltakes ?_
  rintro f G rfl cdv A outer s H E hr
  exact (ds_one (ds_ret (de_and rfl (de_eq rfl hr.units (de_ix rfl (de_var (pv 0)) de_int) de_str) (de_one (de_eq rfl hr.units (de_len rfl rfl T.b_len (da_cons (de_ix rfl (de_var (pv 0)) de_int) da_nil)) de_int)))))
def ltakesF : Fn := trimF (runF 1 b_ltakes)
theorem ok1_ltakes {P : Program} {w : World} {K : Kt} {mg : Str → Option Value} {base : Heap} (T : Tx K mg) : Def P w K mg base "_law_takes_all" s_ltakes 1 ["_law_told_rule"] ltakesF := (ok_ltakes T ).trim
def b_llets : Sx :=
  (sSeq (sIf (tOr' (tCmp' (gEqB true) (eOp gIx (eVar 0) (eC (.int 0))) (eOp gIx (eVar 1) (eC (.int 0)))) (tCmp' (gEqB true) (eLc (iT (eOp gIx (eVar 0) (eC (.int 2)))) (gNm 2) (tCmp' (gIn true) (eVar 2) (eOp gIx (eVar 1) (eC (.int 2)))) (eVar 2) [2]) (eLst aNil))) (sRet (eC (.bl false))) sNil)
    (sSeq (sFor (iT (eOp gIx (eVar 0) (eC (.int 1)))) (gNm 2) (sIf (tAnd' (tCmp' (gIn true) (eVar 2) (eOp gIx (eVar 1) (eC (.int 1)))) (tNot' (tAnd' (tCmp' (gEqB false) (eVar 2) (eC (.str "gets"))) (tTru (eCall 0 ltakesF (aCons (eVar 1) aNil)))))) (sRet (eC (.bl false))) sNil))
    (sRet (eC (.bl true)))))
theorem ok_llets {P : Program} {w : World} {K : Kt} {mg : Str → Option Value} {base : Heap} (T : Tx K mg) (d_ltakes : Def P w K mg base "_law_takes_all" s_ltakes 1 ["_law_told_rule"] ltakesF) : Def P w K mg base "_law_lets" s_llets 2 ["_law_one", "_law_other"] (runF 3 b_llets) := by
  refine mkDef (k := 1) (N := n_llets) (body := b_llets) T.t_llets sc_llets ?_
  rintro f G rfl cdv A outer s H E hr
  exact (ds_cons (ds_if (dt_w (dw_or (dt_ne rfl hr.units (de_ix rfl (de_var (pv 0)) de_int) (de_ix rfl (de_var (pv 1)) de_int)) (dw_or1 (dt_ne rfl hr.units (de_lc (own := [("_law_word", 2)]) rfl sc_llets.nd (di_tup rfl (de_ix rfl (de_var (pv 0)) de_int)) (blkOk_by (N := n_llets) (sc := defScope s_llets) (by decide +kernel)) (by decide) (fun _ _ _ _ _ => (dg_name (i := 2) sc_llets.nd)) (fun _ _ _ _ _ => (dts_one (dt_notin rfl (de_var (pv 2)) (de_ix rfl (de_var (pv 1)) de_int)))) (fun _ _ _ _ _ => (de_var (pv 2)))) (de_lst da_nil))))) (ds_one (ds_ret de_bl)) ds_nil)
    (ds_cons (ds_for (passes_of rfl) rfl (di_tup rfl (de_ix rfl (de_var (pv 0)) de_int)) (dg_name (i := 2) sc_llets.nd) (ds_one (ds_if (dt_w (dw_and (dt_notin rfl (de_var (pv 2)) (de_ix rfl (de_var (pv 1)) de_int)) (dw_and1 (dt_not (dt_w (dw_and (dt_eq rfl hr.units (de_var (pv 2)) de_str) (dw_and1 (dt_tru rfl (de_callD 0 d_ltakes rfl (takes_of rfl rfl rfl rfl) (hr.mono (by decide)) (da_cons (de_var (pv 1)) da_nil) (alen_cons alen_nil)))))))))) (ds_one (ds_ret de_bl)) ds_nil)))
    (ds_one (ds_ret de_bl))))
def lletsF : Fn := trimF (runF 3 b_llets)
theorem ok1_llets {P : Program} {w : World} {K : Kt} {mg : Str → Option Value} {base : Heap} (T : Tx K mg) (d_ltakes : Def P w K mg base "_law_takes_all" s_ltakes 1 ["_law_told_rule"] ltakesF) : Def P w K mg base "_law_lets" s_llets 2 ["_law_one", "_law_other"] lletsF := (ok_llets T d_ltakes).trim
abbrev l_law_0 : Sx :=
  (sExpr (eExtend (eVar 3) (eLc (iL (eVar 2)) (gNm 6) tTrue (eTup (aCons (eVar 4) (aCons (eVar 5) (aCons (eVar 6) aNil)))) [6])))
abbrev l_law_1 : Sx :=
  (sFor (iL (eVar 2)) (gNm 5) l_law_0)
abbrev p_law_0_0 : Sx :=
  (sAsg (eTup (aCons (eCall 2 pickF (aCons (eVar 1) (aCons (eVar 3) aNil))) (aCons (eCall 2 pickF (aCons (eVar 1) (aCons (eVar 3) aNil))) aNil))) (gTp 2 (gsCons (gNm 8) (gsCons (gNm 9) gsNil))))
abbrev p_law_0_1 : Sx :=
  (sPar [10, 11] (aCons (eMake 0 initF (aCons (eOp gIx (eVar 8) (eC (.int 0))) (aCons (eOp gIx (eVar 8) (eC (.int 1))) (aCons (eOp gIx (eVar 8) (eC (.int 2))) aNil)))) (aCons (eMake 0 initF (aCons (eOp gIx (eVar 9) (eC (.int 0))) (aCons (eOp gIx (eVar 9) (eC (.int 1))) (aCons (eOp gIx (eVar 9) (eC (.int 2))) aNil)))) aNil)))
abbrev p_law_0_2 : Sx :=
  (sIf (tCmp' (gEqB true) (eB hRepr (aCons (eCall 0 plainF (aCons (eVar 10) aNil)) aNil)) (eB hRepr (aCons (eOr (eOp (gIn false) (eC (.str "gets")) (eOp gIx (eVar 8) (eC (.int 1)))) (eCall 0 ltakesF (aCons (eVar 8) aNil))) aNil))) (sRet (eC (.bl false))) sNil)
abbrev p_law_0_3 : Sx :=
  (sIf (tCmp' (gEqB true) (eB hRepr (aCons (eCall 0 refuseF (aCons (eVar 10) aNil)) aNil)) (eB hRepr (aCons (eOr (eOp (gIn false) (eC (.str "puts")) (eOp gIx (eVar 8) (eC (.int 1)))) (eAnd (eOp (gIn false) (eC (.str "gets")) (eOp gIx (eVar 8) (eC (.int 1)))) (eNot (eCall 0 ltakesF (aCons (eVar 8) aNil))))) aNil))) (sRet (eC (.bl false))) sNil)
abbrev p_law_0_4 : Sx :=
  (sIf (tCmp' (gEqB true) (eB hRepr (aCons (eCall 0 waitF (aCons (eVar 10) aNil)) aNil)) (eB hRepr (aCons (eOp (gEqB true) (eOp gIx (eVar 8) (eC (.int 2))) (eTup aNil)) aNil))) (sRet (eC (.bl false))) sNil)
abbrev p_law_0_5 : Sx :=
  (sIf (tOr' (tCmp' (gEqB true) (eB hRepr (aCons (eCall 0 letsF (aCons (eVar 10) (aCons (eVar 11) aNil))) aNil)) (eB hRepr (aCons (eCall 0 lletsF (aCons (eVar 8) (aCons (eVar 9) aNil))) aNil))) (tCmp' (gIs true) (eCall 0 letsF (aCons (eVar 10) (aCons (eVar 10) aNil))) (eC (.bl true)))) (sRet (eC (.bl false))) sNil)
abbrev p_law_0_6 : Sx :=
  (sAsg (eB hSortS (aCons (eLc (iLo (eVar 3)) (gNm 13) (tTru (eCall 0 lletsF (aCons (eVar 13) (aCons (eVar 8) aNil)))) (eCall 0 ltextF (aCons (eVar 13) aNil)) [13]) aNil)) (gNm 12))
abbrev p_law_0_7 : Sx :=
  (sIf (tCmp' (gEqB true) (eB hRepr (aCons (eCall 0 looserF (aCons (eVar 10) aNil)) aNil)) (eB hRepr (aCons (eB hTuple (aCons (eVar 12) aNil)) aNil))) (sRet (eC (.bl false))) sNil)
abbrev p_law_0_8 : Sx :=
  (sIf (tAnd' (tTru (eCall 0 plainF (aCons (eVar 10) aNil))) (tAnd' (tNot' (tTru (eCall 0 refuseF (aCons (eVar 10) aNil)))) (tNot' (tTru (eCall 0 waitF (aCons (eVar 10) aNil)))))) (sRet (eC (.bl false))) sNil)
abbrev l_law_2 : Sx :=
  (sSeq p_law_0_0
    (sSeq p_law_0_1
    (sSeq p_law_0_2
    (sSeq p_law_0_3
    (sSeq p_law_0_4
    (sSeq p_law_0_5
    (sSeq p_law_0_6
    (sSeq p_law_0_7
    p_law_0_8))))))))
abbrev q_law_0 : Sx :=
  (sAsg (eCallAll dealF (aCons (eVar 0) (aCons (eC (.int 0)) aNil))) (gNm 1))
abbrev q_law_1 : Sx :=
  (sPar [2, 3] (aCons (eLst (aCons (eTup aNil) (aCons (eTup (aCons (eC (.str "gets")) aNil)) (aCons (eTup (aCons (eC (.str "gets")) (aCons (eC (.str "puts")) aNil))) (aCons (eTup (aCons (eC (.str "puts")) aNil)) aNil))))) (aCons (eLoc aNil) aNil)))
abbrev q_law_2 : Sx :=
  (sFor (iT (eTup (aCons (eC (.str "now")) (aCons (eC (.str "begin")) aNil)))) (gNm 4) l_law_1)
abbrev q_law_3 : Sx :=
  (sFor (iR1 (aCons (eC (.int 3)) aNil)) (gNm 7) l_law_2)
abbrev q_law_4 : Sx :=
  (sRet (eOp (gEqB false) (eB hLen (aCons (eLc (iLo (eVar 3)) (gNm 8) (tTru (eCall 0 plainF (aCons (eMake 0 initF (aCons (eOp gIx (eVar 8) (eC (.int 0))) (aCons (eOp gIx (eVar 8) (eC (.int 1))) (aCons (eOp gIx (eVar 8) (eC (.int 2))) aNil)))) aNil))) (eC (.int 1)) [8]) aNil)) (eC (.int 18))))
def b_law : Sx :=
  (sSeq q_law_0
    (sSeq q_law_1
    (sSeq q_law_2
    (sSeq q_law_3
    q_law_4))))
theorem ok_law {P : Program} {w : World} {K : Kt} {mg : Str → Option Value} {base : Heap} (T : Tx K mg) (d_deal : Def P w K mg base "_law_deal" s_deal 1 ["_law_script", "_law_base"] dealF) (d_pick : Def P w K mg base "_law_pick" s_pick 2 ["_law_deal_here", "_law_some"] pickF) (m_Rule : DefC P w K mg base "Rule" 0 3 ["self", "sees", "looks", "takes"] initF) (d_isplain : Def P w K mg base "is_plain_rule" s_isplain 2 ["rule"] plainF) (d_ltakes : Def P w K mg base "_law_takes_all" s_ltakes 1 ["_law_told_rule"] ltakesF) (d_can_refuse : Def P w K mg base "can_refuse" s_can_refuse 2 ["rule"] refuseF) (d_can_wait : Def P w K mg base "can_wait" s_can_wait 1 ["rule"] waitF) (d_lets_all : Def P w K mg base "lets_all" s_lets_all 2 ["one", "other"] letsF) (d_llets : Def P w K mg base "_law_lets" s_llets 2 ["_law_one", "_law_other"] lletsF) (d_ltext : Def P w K mg base "_law_rule_text" s_ltext 2 ["_law_told_rule"] ltextF) (d_looser : Def P w K mg base "looser" s_looser 8 ["rule"] looserF) {f : Addr} {fd : FuncData} (Fu : Fun K.K "law" "law" s_law f fd) : AtC P w K.K mg base (L2.CX P w) 10 f fd ["_law_script"] (spF K 1 (runF 14 b_law)) := by
  refine lawV Fu sc_law ?_
  rintro G rfl cdv s H E hr
  have hgd : (callerA.deeper (envOfC "law" (defScope s_law) s.heap.objs.size f cdv)).guards = some [] := rfl
  have hr66 : (callerA.deeper (envOfC "law" (defScope s_law) s.heap.objs.size f cdv)).units + 66 < cLine := by have := hr.un; omega
  exact (ds_cons (ds_set (i := 1) sc_law.nd (de_callDA d_deal rfl (takes_of rfl rfl rfl rfl) (hr.mono (by decide)) (da_cons (de_var (pv 0)) (da_cons de_int da_nil)) (alen_cons (alen_cons alen_nil))))
    (ds_cons (ds_par (i := 2) (j := 3) rfl sc_law.nd (da_cons (de_lst (da_cons (de_tup da_nil) (da_cons (de_tup (da_cons de_str da_nil)) (da_cons (de_tup (da_cons de_str (da_cons de_str da_nil))) (da_cons (de_tup (da_cons de_str da_nil)) da_nil))))) (da_cons (de_loc da_nil) da_nil)) (by decide))
    (ds_cons (ds_for (passes_of rfl) rfl (di_tup rfl (de_tup (da_cons de_str (da_cons de_str da_nil)))) (dg_name (i := 4) sc_law.nd) (ds_one (ds_for (passes_of rfl) rfl (di_list rfl (de_var (pv 2))) (dg_name (i := 5) sc_law.nd) (ds_one (ds_expr (de_extend rfl (pe_bm PySem.F.plainAttrs_list PySem.F.slot_list_extend PySem.F.type_list_extend mt_extend (de_var (pv 3)) (pa_cons (de_lc (own := [("_law_takes_here", 6)]) rfl sc_law.nd (di_list rfl (de_var (pv 2))) (blkOk_by (N := n_law) (sc := defScope s_law) (by decide +kernel)) (by decide) (fun _ _ _ _ _ => (dg_name (i := 6) sc_law.nd)) (fun _ _ _ _ _ => dts_nil) (fun _ _ _ _ _ => (de_tup (da_cons (de_var (pv 4)) (da_cons (de_var (pv 5)) (da_cons (de_var (pv 6)) da_nil)))))) pa_nil))))))))
    (ds_cons (ds_for (passes_of rfl) rfl (di_range1 rfl T.b_range (da_cons de_int da_nil)) (dg_name (i := 7) sc_law.nd) (ds_cons (ds_asg (de_tup (da_cons (de_callD 2 d_pick rfl (takes_of rfl rfl rfl rfl) (hr.mono (by decide)) (da_cons (de_var (pv 1)) (da_cons (de_var (pv 3)) da_nil)) (alen_cons (alen_cons alen_nil))) (da_cons (de_callD 2 d_pick rfl (takes_of rfl rfl rfl rfl) (hr.mono (by decide)) (da_cons (de_var (pv 1)) (da_cons (de_var (pv 3)) da_nil)) (alen_cons (alen_cons alen_nil))) da_nil))) (dg_tup rfl rfl (dgs_cons (dg_name (i := 8) sc_law.nd) (dgs_cons (dg_name (i := 9) sc_law.nd) dgs_nil))))
    (ds_cons (ds_par (i := 10) (j := 11) rfl sc_law.nd (da_cons (de_makeD m_Rule rfl flatE (takes_of rfl rfl rfl rfl) (hr.mono (by decide)) (da_cons (de_ix rfl (de_var (pv 8)) de_int) (da_cons (de_ix rfl (de_var (pv 8)) de_int) (da_cons (de_ix rfl (de_var (pv 8)) de_int) da_nil))) (alen_cons (alen_cons (alen_cons alen_nil))) rfl) (da_cons (de_makeD m_Rule rfl flatE (takes_of rfl rfl rfl rfl) (hr.mono (by decide)) (da_cons (de_ix rfl (de_var (pv 9)) de_int) (da_cons (de_ix rfl (de_var (pv 9)) de_int) (da_cons (de_ix rfl (de_var (pv 9)) de_int) da_nil))) (alen_cons (alen_cons (alen_cons alen_nil))) rfl) da_nil)) (by decide))
    (ds_cons (ds_if (dt_ne rfl hr.units (de_repr rfl hgd hr66 rfl T.b_repr (da_cons (de_callD 0 d_isplain rfl (takes_of rfl rfl rfl rfl) (hr.mono (by decide)) (da_cons (de_var (pv 10)) da_nil) (alen_cons alen_nil)) da_nil)) (de_repr rfl hgd hr66 rfl T.b_repr (da_cons (de_or rfl (de_in rfl de_str (de_ix rfl (de_var (pv 8)) de_int)) (de_one (de_callD 0 d_ltakes rfl (takes_of rfl rfl rfl rfl) (hr.mono (by decide)) (da_cons (de_var (pv 8)) da_nil) (alen_cons alen_nil)))) da_nil))) (ds_one (ds_ret de_bl)) ds_nil)
    (ds_cons (ds_if (dt_ne rfl hr.units (de_repr rfl hgd hr66 rfl T.b_repr (da_cons (de_callD 0 d_can_refuse rfl (takes_of rfl rfl rfl rfl) (hr.mono (by decide)) (da_cons (de_var (pv 10)) da_nil) (alen_cons alen_nil)) da_nil)) (de_repr rfl hgd hr66 rfl T.b_repr (da_cons (de_or rfl (de_in rfl de_str (de_ix rfl (de_var (pv 8)) de_int)) (de_one (de_and rfl (de_in rfl de_str (de_ix rfl (de_var (pv 8)) de_int)) (de_one (de_not rfl (de_callD 0 d_ltakes rfl (takes_of rfl rfl rfl rfl) (hr.mono (by decide)) (da_cons (de_var (pv 8)) da_nil) (alen_cons alen_nil))))))) da_nil))) (ds_one (ds_ret de_bl)) ds_nil)
    (ds_cons (ds_if (dt_ne rfl hr.units (de_repr rfl hgd hr66 rfl T.b_repr (da_cons (de_callD 0 d_can_wait rfl (takes_of rfl rfl rfl rfl) (hr.mono (by decide)) (da_cons (de_var (pv 10)) da_nil) (alen_cons alen_nil)) da_nil)) (de_repr rfl hgd hr66 rfl T.b_repr (da_cons (de_ne rfl hr.units (de_ix rfl (de_var (pv 8)) de_int) (de_tup da_nil)) da_nil))) (ds_one (ds_ret de_bl)) ds_nil)
    (ds_cons (ds_if (dt_w (dw_or (dt_ne rfl hr.units (de_repr rfl hgd hr66 rfl T.b_repr (da_cons (de_callD 0 d_lets_all rfl (takes_of rfl rfl rfl rfl) (hr.mono (by decide)) (da_cons (de_var (pv 10)) (da_cons (de_var (pv 11)) da_nil)) (alen_cons (alen_cons alen_nil))) da_nil)) (de_repr rfl hgd hr66 rfl T.b_repr (da_cons (de_callD 0 d_llets rfl (takes_of rfl rfl rfl rfl) (hr.mono (by decide)) (da_cons (de_var (pv 8)) (da_cons (de_var (pv 9)) da_nil)) (alen_cons (alen_cons alen_nil))) da_nil))) (dw_or1 (dt_isnot (de_callD 0 d_lets_all rfl (takes_of rfl rfl rfl rfl) (hr.mono (by decide)) (da_cons (de_var (pv 10)) (da_cons (de_var (pv 10)) da_nil)) (alen_cons (alen_cons alen_nil))) de_bl)))) (ds_one (ds_ret de_bl)) ds_nil)
    (ds_cons (ds_set (i := 12) sc_law.nd (de_sortS rfl rfl T.b_sorted (da_cons (de_lc (own := [("_law_two", 13)]) rfl sc_law.nd (di_loc rfl (de_var (pv 3))) (blkOk_by (N := n_law) (sc := defScope s_law) (by decide +kernel)) (by decide) (fun _ _ _ _ _ => (dg_name (i := 13) sc_law.nd)) (fun _ _ _ _ _ => (dts_one (dt_tru rfl (de_callD 0 d_llets rfl takes0 (hr.mono (by decide)) (da_cons (de_var (pv 13)) (da_cons (de_var (pv 8)) da_nil)) (alen_cons (alen_cons alen_nil)))))) (fun _ _ _ _ _ => (de_callD 0 d_ltext rfl takes0 (hr.mono (by decide)) (da_cons (de_var (pv 13)) da_nil) (alen_cons alen_nil)))) da_nil)))
    (ds_cons (ds_if (dt_ne rfl hr.units (de_repr rfl hgd hr66 rfl T.b_repr (da_cons (de_callD 0 d_looser rfl (takes_of rfl rfl rfl rfl) (hr.mono (by decide)) (da_cons (de_var (pv 10)) da_nil) (alen_cons alen_nil)) da_nil)) (de_repr rfl hgd hr66 rfl T.b_repr (da_cons (de_tuple1 rfl rfl T.b_tuple (da_cons (de_var (pv 12)) da_nil)) da_nil))) (ds_one (ds_ret de_bl)) ds_nil)
    (ds_one (ds_if (dt_w (dw_and (dt_tru rfl (de_callD 0 d_isplain rfl (takes_of rfl rfl rfl rfl) (hr.mono (by decide)) (da_cons (de_var (pv 10)) da_nil) (alen_cons alen_nil))) (dw_and (dt_not (dt_tru rfl (de_callD 0 d_can_refuse rfl (takes_of rfl rfl rfl rfl) (hr.mono (by decide)) (da_cons (de_var (pv 10)) da_nil) (alen_cons alen_nil)))) (dw_and1 (dt_not (dt_tru rfl (de_callD 0 d_can_wait rfl (takes_of rfl rfl rfl rfl) (hr.mono (by decide)) (da_cons (de_var (pv 10)) da_nil) (alen_cons alen_nil)))))))) (ds_one (ds_ret de_bl)) ds_nil)))))))))))
    (ds_one (ds_ret (de_eq rfl hr.units (de_len rfl rfl T.b_len (da_cons (de_lc (own := [("_law_one", 8)]) rfl sc_law.nd (di_loc rfl (de_var (pv 3))) (blkOk_by (N := n_law) (sc := defScope s_law) (by decide +kernel)) (by decide) (fun _ _ _ _ _ => (dg_name (i := 8) sc_law.nd)) (fun _ _ _ _ _ => (dts_one (dt_tru rfl (de_callD 0 d_isplain rfl takes0 (hr.mono (by decide)) (da_cons (de_makeD m_Rule rfl flat0 takes0 (hr.mono (by decide)) (da_cons (de_ix rfl (de_var (pv 8)) de_int) (da_cons (de_ix rfl (de_var (pv 8)) de_int) (da_cons (de_ix rfl (de_var (pv 8)) de_int) da_nil))) (alen_cons (alen_cons (alen_cons alen_nil))) rfl) da_nil) (alen_cons alen_nil))))) (fun _ _ _ _ _ => de_int)) da_nil)) de_int)))))))
end K34

namespace K34
open PySem L2 PyProof.Rows VL
abbrev dx (gs : List Int) (s n : Int) : List Cell := [.lst (gs.map D.int), .lst [.loc 0, .int s, .int n]]
theorem stir (d0 d2 : D) : ∀ (l : List Int) (e3 : Option D) (s : Int), ∃ e3' s', forL (gNm 3) (sAsg (eOp gMod (eB hInt (aCons (eOp gAdd (eOp gAdd (eOp gMul (eVar 4) (eC (.int 48271))) (eOp gMod (eB hInt (aCons (eVar 3) aNil)) (eC (.int 2147483629)))) (eC (.int 53))) aNil)) (eC (.int 2147483647))) (gNm 4)) keepAll (l.map D.int) ⟨[some d0, some (.int 0), some d2, e3, some (.int s)], []⟩ = .nx ⟨[some d0, some (.int 0), some d2, e3', some (.int s')], []⟩
  | [], e3, s => ⟨e3, s, ev_forNil rfl⟩
  | x :: l, e3, s => by
    obtain ⟨e3', s', h⟩ := stir d0 d2 l (some (.int x)) ((s * 48271 + x % 2147483629 + 53) % 2147483647)
    refine ⟨e3', s', ev_forNx (st1 := ⟨[some d0, some (.int 0), some d2, some (.int x), some (.int s)], []⟩) rfl rfl ?_ h⟩
    have c1 : ∀ x, cMod x 2147483629 = true := fun x => rfl
    have c2 : ∀ x, cMod x 2147483647 = true := fun x => rfl
    simp [sAsg, eOp, eB, aCons, aNil, hInt, eVar, eC, Out.bind, gMul, cMul, gMod, gInt, gAdd, thenS, asg, gNm, c1, c2]
theorem deal_ok (ns : List Int) (hn : ns.length ≤ 63) : ∃ gs s, gs.length ≤ 63 ∧ dealF [.frl (ns.map D.int), .int 0] [] = .ok (.loc 1) (dx gs s 0) := by
  obtain ⟨ms, hm, hl⟩ := cut_ints (l := ns) (lo := some 0) (hi := some 62)
  obtain ⟨ks, hks⟩ : ∃ ks : List Int, ks = ms.map fun x => if x < 0 then -x else x := ⟨_, rfl⟩
  have hkl : ks.length ≤ 63 := by rw [hks, List.length_map]; omega
  have e1 : eLc (iL (eSl false (eVar 0) (oSome (eVar 1)) (oSome (eC (.int 62))))) (gNm 3) tTrue (eB hAbs (aCons (eB hInt (aCons (eVar 3) aNil)) aNil)) [3] ⟨[some (.frl (ns.map D.int)), some (.int 0), none, none, none], []⟩ = .ok (.lst (ks.map D.int)) [] := by
    have := ev_eLc (xs := ms) (fD := D.int) (kp := keepAll) (c1 := []) (g := gNm 3) (t := tTrue) (f := eB hAbs (aCons (eB hInt (aCons (eVar 3) aNil)) aNil)) (vs := [3]) (src := iL (eSl false (eVar 0) (oSome (eVar 1)) (oSome (eC (.int 62))))) (st := ⟨[some (.frl (ns.map D.int)), some (.int 0), none, none, none], []⟩)
      (fun _ => true) (fun x => .int (if x < 0 then -x else x)) (by
        show Out.ok (cutD (ns.map D.int) (some 0) (some 62), keepAll) [] = _
        rw [hm]) (fun _ => rfl) (by omega) rfl (fun _ _ _ => rfl) (fun x _ acc _ => ⟨_, rfl, rfl, fun _ => rfl⟩)
    rw [this, hks, List.map_map]
    have e : ms.filter (fun _ => true) = ms := List.filter_eq_self.mpr fun _ _ => rfl
    rw [e]
    rfl
  obtain ⟨e3, s, h3⟩ := stir (.frl (ns.map D.int)) (.lst (ks.map D.int)) ks none (67867967 + 89 * 0)
  have e4 : eLc (iL (eVar 2)) (gNm 3) (tCmp' gGe (eVar 3) (eOp gPow (eC (.int 10)) (eC (.int 18)))) (eVar 3) [3] ⟨[some (.frl (ns.map D.int)), some (.int 0), some (.lst (ks.map D.int)), e3, some (.int s)], []⟩ = .ok (.lst ((ks.filter fun x => decide (x ≥ 1000000000000000000)).map D.int)) [] :=
    ev_eLc (xs := ks) (fD := D.int) (kp := keepAll) (c1 := []) (fun x => decide (x ≥ 1000000000000000000)) D.int rfl (fun _ => rfl) (by omega) rfl (fun _ _ _ => rfl) (fun x _ acc _ => ⟨_, rfl, rfl, fun _ => rfl⟩)
  refine ⟨(ks.filter fun x => decide (x ≥ 1000000000000000000)).reverse, s, ?_, ?_⟩
  · rw [List.length_reverse]
    exact Nat.le_trans (List.length_filter_le _ _) hkl
  · refine ev_runRt (env := [some (.frl (ns.map D.int)), some (.int 0), none, none, none]) (st1 := ⟨[some (.frl (ns.map D.int)), some (.int 0), some (.lst (ks.map D.int)), e3, some (.int s)], _⟩) rfl ?_
    refine ev_sSeq (ev_sAsg e1 rfl) (ev_sSeq (ev_sAsg (d := .int (67867967 + 89 * 0)) (c1 := []) rfl rfl) (ev_sSeq (ev_sFor (w := (ks.map D.int, keepAll)) (c1 := []) rfl h3) ?_))
    refine ev_sRet (ev_eLoc (ev_aCons (c1 := [.lst ((ks.filter fun x => decide (x ≥ 1000000000000000000)).map D.int).reverse]) (x := .loc 0) (ev_eUn e4 rfl) rfl) rfl ?_)
    rw [← List.map_reverse]
    rfl
theorem snoc_cases : ∀ (l : List Int), l = [] ∨ ∃ m g, l = m ++ [g] := fun l => by
  rcases List.eq_nil_or_concat l with h | ⟨m, g, h⟩
  · exact .inl h
  · exact .inr ⟨m, g, by rw [h, List.concat_eq_append]⟩
abbrev t0 : VL.Tx := tAnd' (tCmp' (gEqB true) (eOp gIx (eVar 0) (eC (.int 0))) (eLst aNil)) (tCmp' (gEqB false) (eOp gIx (eOp gIx (eVar 0) (eC (.int 0))) (eUn gNeg (eC (.int 1)))) (eC (.int 0)))
abbrev enD (m : Int) (e : Option D) : List (Option D) := [some (.loc 1), some (.int m), e]
theorem last_at {m : List Int} {g : Int} {cs : List Cell} (h : cs[0]? = some (.lst ((m ++ [g]).map D.int))) : gIx cs (.loc 0) (.int (-1)) = .ok (.int g) cs := by
  have e : atI ((m ++ [g]).map D.int) (-1) = some (.int g) := by
    have hl : ((m ++ [g]).map D.int).length = m.length + 1 := by simp
    have hi : ixN (m.length + 1) (-1) = some m.length := by
      unfold ixN
      rw [if_neg (by omega), if_pos (by omega)]
      congr 1
      omega
    unfold atI
    rw [hl, hi]
    show ((m ++ [g]).map D.int)[m.length]? = _
    rw [List.map_append, List.getElem?_append_right (by simp)]
    simp
  simp only [gIx, seqOf, lstOf, h, e]
theorem pop_at {m : List Int} {g s n : Int} {env : List (Option D)} (h0 : env[0]? = some (some (.loc 1))) : ePop (eOp gIx (eVar 0) (eC (.int 0))) ⟨env, dx (m ++ [g]) s n⟩ = .ok (.int g) (dx m s n) := by
  have e1 : eOp gIx (eVar 0) (eC (.int 0)) ⟨env, dx (m ++ [g]) s n⟩ = .ok (.loc 0) (dx (m ++ [g]) s n) := ev_eOp (c1 := dx (m ++ [g]) s n) (x := .loc 1) (by unfold eVar; simp only [h0]) rfl rfl
  unfold ePop
  rw [e1]
  simp [Out.bind, dx]
theorem ne_at {gs : List Int} {s n : Int} {env : List (Option D)} (h0 : env[0]? = some (some (.loc 1))) : tCmp' (gEqB true) (eOp gIx (eVar 0) (eC (.int 0))) (eLst aNil) ⟨env, dx gs s n⟩ = .ok (!gs.isEmpty) (dx gs s n) :=
  ev_tCmp (ev_eOp (x := .loc 0) (c1 := dx gs s n) (c2 := dx gs s n) (ev_eOp (c1 := dx gs s n) (x := .loc 1) (by unfold eVar; simp only [h0]) rfl rfl) rfl (eqNilI rfl))
theorem zeros (m : Int) (s n : Int) : ∀ (fuel : Nat) (gs : List Int), gs.length < fuel → ∃ gs', gs'.length ≤ gs.length ∧ whL t0 (sExpr (ePop (eOp gIx (eVar 0) (eC (.int 0))))) fuel ⟨enD m none, dx gs s n⟩ = .nx ⟨enD m none, dx gs' s n⟩
  | 0, gs, h => absurd h (Nat.not_lt_zero _)
  | fuel + 1, gs, h => by
    rcases snoc_cases gs with rfl | ⟨l, g, rfl⟩
    · refine ⟨[], Nat.le_refl _, ?_⟩
      have e : t0 ⟨enD m none, dx [] s n⟩ = .ok false (dx [] s n) := ev_tAndF (ne_at (gs := []) rfl)
      unfold whL
      rw [e]
      rfl
    · have e1 : tCmp' (gEqB true) (eOp gIx (eVar 0) (eC (.int 0))) (eLst aNil) ⟨enD m none, dx (l ++ [g]) s n⟩ = .ok true (dx (l ++ [g]) s n) := by
        rw [ne_at rfl]
        simp
      have e2 : tCmp' (gEqB false) (eOp gIx (eOp gIx (eVar 0) (eC (.int 0))) (eUn gNeg (eC (.int 1)))) (eC (.int 0)) ⟨enD m none, dx (l ++ [g]) s n⟩ = .ok (g == 0) (dx (l ++ [g]) s n) :=
        ev_tCmp (ev_eOp (x := .int g) (c1 := dx (l ++ [g]) s n) (c2 := dx (l ++ [g]) s n) (ev_eOp (c1 := dx (l ++ [g]) s n) (c2 := dx (l ++ [g]) s n) (x := .loc 0) (y := .int (-1)) rfl rfl (last_at rfl)) rfl eqII)
      have e : t0 ⟨enD m none, dx (l ++ [g]) s n⟩ = .ok (g == 0) (dx (l ++ [g]) s n) := ev_tAndT e1 e2
      by_cases c : (g == 0) = true
      · rw [c] at e
        have hl : l.length < fuel := by rw [List.length_append] at h; simp at h; omega
        obtain ⟨gs', h1, h2⟩ := zeros m s n fuel l hl
        refine ⟨gs', by rw [List.length_append]; omega, ?_⟩
        unfold whL
        rw [e]
        show (match sExpr (ePop (eOp gIx (eVar 0) (eC (.int 0)))) ⟨enD m none, dx (l ++ [g]) s n⟩ with
          | .nx st2 => _
          | .ct st2 => _
          | .bk st2 => SOut.nx st2
          | o => o) = _
        rw [ev_sExpr (pop_at rfl)]
        exact h2
      · rw [Bool.eq_false_iff.mpr c] at e
        refine ⟨_, Nat.le_refl _, ?_⟩
        unfold whL
        rw [e]
        rfl
theorem draw_ok (gs : List Int) (hg : gs.length ≤ 63) (s n : Int) (m : Nat) (h0 : 0 < m) (h1 : m < 1073741824) : ∃ (v : Nat) (gs' : List Int) (s' n' : Int), gs'.length ≤ 63 ∧ v < m ∧ drawF [.loc 1, .int m] (dx gs s n) = .ok (.int v) (dx gs' s' n') := by
  have h0' : (0 : Int) < m := by omega
  have h1' : (m : Int) < 1073741824 := by omega
  have c1 : ∀ x, cMod x m = true := fun x => by simp [cMod]; omega
  have c2 : ∀ x, cDiv x m = true := fun x => by simp [cDiv]; omega
  have fin : ∀ x : Int, D.int ((x % m).toNat : Nat) = .int (x % m) := fun x => by
    rw [Int.toNat_of_nonneg (Int.emod_nonneg _ (by omega))]
  have lt : ∀ x : Int, (x % m).toNat < m := fun x => by
    have := Int.emod_lt_of_pos x h0'
    have := Int.emod_nonneg x (b := m) (by omega)
    omega
  have low : ∀ (l : List Int) (a b : Int), (dx l a b).all (belowC 2) = true := fun l a b => by
    show (belows 2 (l.map D.int) && (true && true)) = true
    rw [belows_int]
    rfl
  obtain ⟨g2, hg2, hw⟩ := zeros m s n 64 gs (by omega)
  have w : sWhile (fun _ => 64) t0 (sExpr (ePop (eOp gIx (eVar 0) (eC (.int 0))))) ⟨enD m none, dx gs s n⟩ = .nx ⟨enD m none, dx g2 s n⟩ := hw
  rcases snoc_cases g2 with rfl | ⟨l, g, rfl⟩
  · have ce : tCmp' (gEqB true) (eOp gIx (eVar 0) (eC (.int 0))) (eLst aNil) ⟨enD m none, dx [] s n⟩ = .ok false (dx [] s n) := ne_at (gs := []) rfl
    have d1 : sSetIx (eOp gAdd (eOp gIx (eVar 0) (eC (.int 2))) (eC (.int 1))) (eVar 0) (eC (.int 2)) ⟨enD m none, dx [] s n⟩ = .nx ⟨enD m none, dx [] s (n + 1)⟩ := ev_setIx (c1 := dx [] s n) (c2 := dx [] s n) (c3 := dx [] s n) (x := .int (n + 1)) (y := .loc 1) rfl rfl rfl rfl
    have d2 : sSetIx (eOp gMod (eB hInt (aCons (eOp gAdd (eOp gMul (eOp gAdd (eOp gIx (eVar 0) (eC (.int 1))) (eOp gMul (eC (.int 5381)) (eOp gIx (eVar 0) (eC (.int 2))))) (eC (.int 48271))) (eC (.int 59))) aNil)) (eC (.int 2147483647))) (eVar 0) (eC (.int 1)) ⟨enD m none, dx [] s (n + 1)⟩ = .nx ⟨enD m none, dx [] (((s + 5381 * (n + 1)) * 48271 + 59) % 2147483647) (n + 1)⟩ := by
      have cm : cMod ((s + 5381 * (n + 1)) * 48271 + 59) 2147483647 = true := rfl
      have cl1 : cMul 5381 (n + 1) = true := rfl
      have cl2 : cMul (s + 5381 * (n + 1)) 48271 = true := by simp [cMul]
      refine ev_setIx (c1 := dx [] s (n + 1)) (c2 := dx [] s (n + 1)) (c3 := dx [] s (n + 1)) (x := .int (((s + 5381 * (n + 1)) * 48271 + 59) % 2147483647)) (y := .loc 1) ?_ rfl rfl rfl
      refine ev_eOp (c1 := dx [] s (n + 1)) (c2 := dx [] s (n + 1)) (ev_eB (c1 := dx [] s (n + 1)) (xs := [.int ((s + 5381 * (n + 1)) * 48271 + 59)]) (ev_aCons (c1 := dx [] s (n + 1)) (ev_eOp (c1 := dx [] s (n + 1)) (c2 := dx [] s (n + 1)) (x := .int ((s + 5381 * (n + 1)) * 48271)) (ev_eOp (c1 := dx [] s (n + 1)) (c2 := dx [] s (n + 1)) (x := .int (s + 5381 * (n + 1))) (ev_eOp (c1 := dx [] s (n + 1)) (c2 := dx [] s (n + 1)) (x := .int s) (y := .int (5381 * (n + 1))) rfl rfl rfl) rfl ?_) rfl rfl) rfl) rfl) rfl rfl
      show (if cMul (s + 5381 * (n + 1)) 48271 then Out.ok (D.int ((s + 5381 * (n + 1)) * 48271)) (dx [] s (n + 1)) else .no) = _
      rw [if_pos cl2]
    refine ⟨((((s + 5381 * (n + 1)) * 48271 + 59) % 2147483647 / 16) % m).toNat, [], ((s + 5381 * (n + 1)) * 48271 + 59) % 2147483647, n + 1, by simp, lt _, ?_⟩
    rw [fin]
    refine trimF_of (d := .int ((((s + 5381 * (n + 1)) * 48271 + 59) % 2147483647 / 16) % m)) (cs' := dx [] (((s + 5381 * (n + 1)) * 48271 + 59) % 2147483647) (n + 1)) (ev_runRt (env := enD m none) (st1 := ⟨_, dx [] (((s + 5381 * (n + 1)) * 48271 + 59) % 2147483647) (n + 1)⟩) rfl (ev_sSeq w (ev_sSeq (ev_sIfF ce rfl) (ev_sSeq d1 (ev_sSeq d2 (ev_sRet ?_)))))) (low _ _ _) rfl
    refine ev_eOp (x := .int (((s + 5381 * (n + 1)) * 48271 + 59) % 2147483647 / 16)) (y := .int m) (c1 := dx [] (((s + 5381 * (n + 1)) * 48271 + 59) % 2147483647) (n + 1)) (c2 := dx [] (((s + 5381 * (n + 1)) * 48271 + 59) % 2147483647) (n + 1)) rfl rfl ?_
    show (if cMod _ m then _ else _) = _
    rw [if_pos (c1 _)]
  · have ce : tCmp' (gEqB true) (eOp gIx (eVar 0) (eC (.int 0))) (eLst aNil) ⟨enD m none, dx (l ++ [g]) s n⟩ = .ok true (dx (l ++ [g]) s n) := by
      rw [ne_at rfl]
      simp
    refine ⟨(g % m).toNat, l ++ [g / m], s, n, by rw [List.length_append] at hg2 ⊢; simp at hg2 ⊢; omega, lt _, ?_⟩
    rw [fin]
    have ap : eAppend (eOp gIx (eVar 0) (eC (.int 0))) (eOp gFdiv (eVar 2) (eVar 1)) ⟨enD m (some (.int g)), dx l s n⟩ = .ok .non (dx (l ++ [g / m]) s n) := by
      have e1 : eOp gIx (eVar 0) (eC (.int 0)) ⟨enD m (some (.int g)), dx l s n⟩ = .ok (.loc 0) (dx l s n) := rfl
      have e2 : eOp gFdiv (eVar 2) (eVar 1) ⟨enD m (some (.int g)), dx l s n⟩ = .ok (.int (g / m)) (dx l s n) := by
        refine ev_eOp (x := .int g) (y := .int m) (c1 := dx l s n) (c2 := dx l s n) rfl rfl ?_
        show (if cDiv g m then _ else _) = _
        rw [if_pos (c2 _)]
      have hz : l.length < 16777216 := by rw [List.length_append] at hg2; omega
      unfold eAppend
      rw [e1]
      simp [Out.bind, dx, e2, hz]
    refine trimF_of (d := .int (g % m)) (cs' := dx (l ++ [g / m]) s n) (ev_runRt (env := enD m none) (st1 := ⟨_, dx (l ++ [g / m]) s n⟩) rfl (ev_sSeq w (ev_sSeqR (ev_sIfT ce (ev_sSeq (ev_sAsg (pop_at rfl) rfl) (ev_sSeq (ev_sExpr ap) (ev_sRet ?_))))))) (low _ _ _) rfl
    refine ev_eOp (x := .int g) (y := .int m) (c1 := dx (l ++ [g / m]) s n) (c2 := dx (l ++ [g / m]) s n) rfl rfl ?_
    show (if cMod g m then _ else _) = _
    rw [if_pos (c1 _)]
theorem pick_ok (gs : List Int) (hg : gs.length ≤ 63) (s n : Int) (ds : List D) (h0 : ds ≠ []) (h1 : ds.length < 1073741824) (hb : belows 2 ds = true) (hn : ∀ d ∈ ds, (∀ m, d ≠ .loc m) ∧ noLst d = true) : ∃ (d : D) (gs' : List Int) (s' n' : Int), gs'.length ≤ 63 ∧ d ∈ ds ∧ callV 2 pickF [.loc 1, .loc 2] (dx gs s n ++ [.lst ds]) = .ok d (dx gs' s' n' ++ [.lst ds]) := by
  have hpos : 0 < ds.length := by
    cases ds with
    | nil => exact absurd rfl h0
    | cons x l => simp
  have low : ∀ (l : List Int) (a b : Int), (dx l a b).all (belowC 2) = true := fun l a b => by
    show (belows 2 (l.map D.int) && (true && true)) = true
    rw [belows_int]
    rfl
  have nol : ∀ (l : List Int) (a b : Int), (dx l a b).all noLstC = true := fun l a b => by
    show (noLsts (l.map D.int) && (true && true)) = true
    rw [noLsts_int]
    rfl
  obtain ⟨v, g2, s2, n2, hl2, hv, hd⟩ := draw_ok gs hg s n ds.length hpos h1
  have hm : ds[v] ∈ ds := List.getElem_mem hv
  have hbv : below 2 ds[v] = true := by
    rw [belows_all, List.all_eq_true] at hb
    exact hb _ hm
  have cd : callV 2 drawF [.loc 1, .int ds.length] (dx gs s n) = .ok (.int v) (dx g2 s2 n2) := by
    unfold callV
    rw [show [D.loc 1, .int ds.length].map (lendD 2 (dx gs s n)) = [.loc 1, .int ds.length] from rfl, show (dx gs s n).take 2 = dx gs s n from rfl, if_pos ⟨Nat.le_refl _, rfl, low _ _ _⟩, hd]
    rfl
  have ev : eOp gIx (eVar 1) (eCall 2 drawF (aCons (eVar 0) (aCons (eB hLen (aCons (eVar 1) aNil)) aNil))) ⟨[some (.loc 1), some (.lst ds)], dx gs s n⟩ = .ok ds[v] (dx g2 s2 n2) := by
    refine ev_eOp (x := .lst ds) (y := .int v) (c1 := dx gs s n) (c2 := dx g2 s2 n2) rfl (ev_eCall (c1 := dx gs s n) (xs := [.loc 1, .int ds.length]) ?_ cd) (ix_lst (VL.atI_nat ?_))
    · exact ev_aCons (c1 := dx gs s n) rfl (ev_aCons (c1 := dx gs s n) (ev_eB (c1 := dx gs s n) (xs := [.lst ds]) rfl (by simp [hLen, seqOf, lstOf])) rfl)
    · simp [hv]
  have p : pickF [.loc 1, .lst ds] (dx gs s n) = .ok ds[v] (dx g2 s2 n2) := trimF_of (cs' := dx g2 s2 n2) (ev_runRt (env := [some (.loc 1), some (.lst ds)]) rfl (ev_sRet ev)) (low _ _ _) (outD_low hbv (hn _ hm).1)
  have hb2 : belows 2 [.loc 1, .lst ds] = true := by simp [belows, below, hb]
  refine ⟨ds[v], g2, s2, n2, hl2, hm, ?_⟩
  unfold callV
  rw [show [D.loc 1, .loc 2].map (lendD 2 (dx gs s n ++ [Cell.lst ds])) = [.loc 1, .lst ds] from rfl, show (dx gs s n ++ [Cell.lst ds]).take 2 = dx gs s n from rfl, if_pos ⟨by simp, hb2, low _ _ _⟩, p]
  show (if _ then Out.ok ds[v] (dx g2 s2 n2 ++ [Cell.lst ds]) else Out.no) = _
  rw [if_pos ⟨rfl, .inr ⟨(hn _ hm).2, nol _ _ _⟩⟩]
end K34

namespace K34
open PySem L2 PyProof.Rows VL
abbrev Z := Nat × Nat × Nat
def seesS : Nat → Str
  | 0 => "now"
  | _ => "begin"
def lotW : Nat → List Str
  | 0 => []
  | 1 => ["gets"]
  | 2 => ["gets", "puts"]
  | _ => ["puts"]
def lotS : Nat → Str
  | 0 => "-"
  | 1 => "gets"
  | 2 => "gets+puts"
  | _ => "puts"
abbrev lotD (l : Nat) : D := .tup ((lotW l).map D.str)
abbrev tp (z : Z) : D := .tup [.str (seesS z.1), lotD z.2.1, lotD z.2.2]
abbrev ob (z : Z) : D := .obj 0 ["sees", "looks", "takes"] [.str (seesS z.1), lotD z.2.1, lotD z.2.2]
def row (i : Nat) : List Z := [0, 1, 2, 3].flatMap fun l => [0, 1, 2, 3].map fun t => (i, l, t)
def all3 : List Z := row 0 ++ row 1
/-- all rules, ascending -/
def asc3 : List Z := row 1 ++ row 0
def txt (z : Z) : Str := seesS z.1 ++ (" " : Str) ++ lotS z.2.1 ++ (" " : Str) ++ lotS z.2.2
def hasG (l : Nat) : Bool := l == 1 || l == 2
def hasP (l : Nat) : Bool := l == 2 || l == 3
def letsM (a b : Z) : Bool := a.1 == b.1 && ((!hasG a.2.2 || hasG b.2.2) && (!hasP a.2.2 || hasP b.2.2)) && ((!hasG a.2.1 || hasG b.2.1 || (b.1 == 0 && b.2.2 == 2)) && (!hasP a.2.1 || hasP b.2.1))
def plainM (a : Z) : Bool := hasG a.2.1 || (a.1 == 0 && a.2.2 == 2)
theorem t_txt : all3.map (fun z => (strF [ob z] [], ltextF [tp z] [])) = all3.map (fun z => (.ok (.str (txt z)) [], .ok (.str (txt z)) [])) := by kernel_rfl
theorem t_plain : all3.map (fun z => plainF [ob z] []) = all3.map (fun z => .ok (.bl (plainM z)) []) := by kernel_rfl
theorem t_every : everyF [] [] = .ok (.tup (asc3.map ob)) [] := by kernel_rfl
def prL (a b : Z) : Out D × Out D := (letsF [ob a, ob b] [], lletsF [tp a, tp b] [])
def prR (a b : Z) : Out D × Out D := (.ok (.bl (letsM a b)) [], .ok (.bl (letsM a b)) [])
theorem pr_0 : all3.map (prL (0, 0, 0)) = all3.map (prR (0, 0, 0)) := by kernel_rfl
theorem pr_1 : all3.map (prL (0, 0, 1)) = all3.map (prR (0, 0, 1)) := by kernel_rfl
theorem pr_2 : all3.map (prL (0, 0, 2)) = all3.map (prR (0, 0, 2)) := by kernel_rfl
theorem pr_3 : all3.map (prL (0, 0, 3)) = all3.map (prR (0, 0, 3)) := by kernel_rfl
theorem pr_4 : all3.map (prL (0, 1, 0)) = all3.map (prR (0, 1, 0)) := by kernel_rfl
theorem pr_5 : all3.map (prL (0, 1, 1)) = all3.map (prR (0, 1, 1)) := by kernel_rfl
theorem pr_6 : all3.map (prL (0, 1, 2)) = all3.map (prR (0, 1, 2)) := by kernel_rfl
theorem pr_7 : all3.map (prL (0, 1, 3)) = all3.map (prR (0, 1, 3)) := by kernel_rfl
theorem pr_8 : all3.map (prL (0, 2, 0)) = all3.map (prR (0, 2, 0)) := by kernel_rfl
theorem pr_9 : all3.map (prL (0, 2, 1)) = all3.map (prR (0, 2, 1)) := by kernel_rfl
theorem pr_10 : all3.map (prL (0, 2, 2)) = all3.map (prR (0, 2, 2)) := by kernel_rfl
theorem pr_11 : all3.map (prL (0, 2, 3)) = all3.map (prR (0, 2, 3)) := by kernel_rfl
theorem pr_12 : all3.map (prL (0, 3, 0)) = all3.map (prR (0, 3, 0)) := by kernel_rfl
theorem pr_13 : all3.map (prL (0, 3, 1)) = all3.map (prR (0, 3, 1)) := by kernel_rfl
theorem pr_14 : all3.map (prL (0, 3, 2)) = all3.map (prR (0, 3, 2)) := by kernel_rfl
theorem pr_15 : all3.map (prL (0, 3, 3)) = all3.map (prR (0, 3, 3)) := by kernel_rfl
theorem pr_16 : all3.map (prL (1, 0, 0)) = all3.map (prR (1, 0, 0)) := by kernel_rfl
theorem pr_17 : all3.map (prL (1, 0, 1)) = all3.map (prR (1, 0, 1)) := by kernel_rfl
theorem pr_18 : all3.map (prL (1, 0, 2)) = all3.map (prR (1, 0, 2)) := by kernel_rfl
theorem pr_19 : all3.map (prL (1, 0, 3)) = all3.map (prR (1, 0, 3)) := by kernel_rfl
theorem pr_20 : all3.map (prL (1, 1, 0)) = all3.map (prR (1, 1, 0)) := by kernel_rfl
theorem pr_21 : all3.map (prL (1, 1, 1)) = all3.map (prR (1, 1, 1)) := by kernel_rfl
theorem pr_22 : all3.map (prL (1, 1, 2)) = all3.map (prR (1, 1, 2)) := by kernel_rfl
theorem pr_23 : all3.map (prL (1, 1, 3)) = all3.map (prR (1, 1, 3)) := by kernel_rfl
theorem pr_24 : all3.map (prL (1, 2, 0)) = all3.map (prR (1, 2, 0)) := by kernel_rfl
theorem pr_25 : all3.map (prL (1, 2, 1)) = all3.map (prR (1, 2, 1)) := by kernel_rfl
theorem pr_26 : all3.map (prL (1, 2, 2)) = all3.map (prR (1, 2, 2)) := by kernel_rfl
theorem pr_27 : all3.map (prL (1, 2, 3)) = all3.map (prR (1, 2, 3)) := by kernel_rfl
theorem pr_28 : all3.map (prL (1, 3, 0)) = all3.map (prR (1, 3, 0)) := by kernel_rfl
theorem pr_29 : all3.map (prL (1, 3, 1)) = all3.map (prR (1, 3, 1)) := by kernel_rfl
theorem pr_30 : all3.map (prL (1, 3, 2)) = all3.map (prR (1, 3, 2)) := by kernel_rfl
theorem pr_31 : all3.map (prL (1, 3, 3)) = all3.map (prR (1, 3, 3)) := by kernel_rfl
theorem pr_all : ∀ a ∈ all3, all3.map (prL a) = all3.map (prR a) := by
  intro a ha
  have e : all3 = [(0, 0, 0), (0, 0, 1), (0, 0, 2), (0, 0, 3), (0, 1, 0), (0, 1, 1), (0, 1, 2), (0, 1, 3), (0, 2, 0), (0, 2, 1), (0, 2, 2), (0, 2, 3), (0, 3, 0), (0, 3, 1), (0, 3, 2), (0, 3, 3), (1, 0, 0), (1, 0, 1), (1, 0, 2), (1, 0, 3), (1, 1, 0), (1, 1, 1), (1, 1, 2), (1, 1, 3), (1, 2, 0), (1, 2, 1), (1, 2, 2), (1, 2, 3), (1, 3, 0), (1, 3, 1), (1, 3, 2), (1, 3, 3)] := rfl
  rw [e] at ha
  simp only [List.mem_cons, List.not_mem_nil, or_false] at ha
  rcases ha with rfl | rfl | rfl | rfl | rfl | rfl | rfl | rfl | rfl | rfl | rfl | rfl | rfl | rfl | rfl | rfl | rfl | rfl | rfl | rfl | rfl | rfl | rfl | rfl | rfl | rfl | rfl | rfl | rfl | rfl | rfl | rfl
  · exact pr_0
  · exact pr_1
  · exact pr_2
  · exact pr_3
  · exact pr_4
  · exact pr_5
  · exact pr_6
  · exact pr_7
  · exact pr_8
  · exact pr_9
  · exact pr_10
  · exact pr_11
  · exact pr_12
  · exact pr_13
  · exact pr_14
  · exact pr_15
  · exact pr_16
  · exact pr_17
  · exact pr_18
  · exact pr_19
  · exact pr_20
  · exact pr_21
  · exact pr_22
  · exact pr_23
  · exact pr_24
  · exact pr_25
  · exact pr_26
  · exact pr_27
  · exact pr_28
  · exact pr_29
  · exact pr_30
  · exact pr_31
end K34

namespace K34
open PySem L2 PyProof.Rows VL
theorem strs_txt : ∀ l : List Z, strsOf (l.map fun z => D.str (txt z)) = some (l.map txt)
  | [] => rfl
  | z :: l => by
    show (strsOf (l.map fun z => D.str (txt z))).map (txt z :: ·) = _
    rw [strs_txt l]
    rfl
/-- the texts of the rules that are let -/
def dueT (a : Z) : List Str := sortT ((all3.filter fun z => letsM z a).map txt)
theorem sortT_same {l m : List Str} (h : l.Perm m) : sortT l = sortT m := sortS_uniq ((sortT_perm l).trans (h.trans (sortT_perm m).symm)) (sortT_sorted l) (sortT_sorted m)
theorem due_asc (a : Z) : sortT ((asc3.filter fun z => letsM z a).map txt) = dueT a := sortT_same ((List.perm_append_comm.filter _).map _)
theorem few (l : List Z) (h : l.length ≤ 32) (a : Z) : ((l.filter fun z => letsM z a).map txt).length < 64 := by
  rw [List.length_map]
  exact Nat.lt_of_le_of_lt (Nat.le_trans (List.length_filter_le _ _) h) (by decide)
theorem words_ok : ∀ z ∈ all3, (PyData.strOk (txt z) && (PyData.strOk (reprText (txt z)) && decide ((reprText (txt z)).length ≤ 40))) = true := by decide +kernel
theorem due_mem {a : Z} {x : Str} (h : x ∈ dueT a) : ∃ z ∈ all3, x = txt z := by
  have h := (sortT_perm _).mem_iff.mp h
  obtain ⟨z, hz, rfl⟩ := List.mem_map.mp h
  exact ⟨z, (List.mem_filter.mp hz).1, rfl⟩
theorem shownAll_strs : ∀ l : List Str, PyData.shownAll (pys (l.map D.str)) = l.map reprText
  | [] => by simp [pys, PyData.shownAll]
  | x :: l => by
    rw [List.map_cons]
    simp only [pys, py, PyData.shownAll, PyData.shown, shownAll_strs l, List.map_cons]
theorem plains_strs : ∀ l : List Str, plains (l.map D.str) = true
  | [] => by simp [plains]
  | x :: l => by
    rw [List.map_cons]
    simp only [plains, VL.plain, plains_strs l, Bool.and_self]
theorem lay_strs : ∀ {l : List Str}, (∀ x ∈ l, PyData.strOk x = true) → PyData.canLayAll0 (pys (l.map D.str)) = true ∧ PyData.depthAll (pys (l.map D.str)) = 0 ∧ PyData.showableAll (pys (l.map D.str)) = true
  | [], _ => by simp [pys, PyData.canLayAll0, PyData.depthAll, PyData.showableAll]
  | x :: l, h => by
    have ih := lay_strs (l := l) fun y hy => h y (List.mem_cons_of_mem _ hy)
    rw [List.map_cons]
    simp [pys, py, PyData.canLayAll0, PyData.canLay0, PyData.depthAll, PyData.depth, PyData.showableAll, PyData.showable, ih.1, ih.2.1, ih.2.2, h x List.mem_cons_self]
theorem ok_app {x y : Str} (hx : PyData.strOk x = true) (hy : PyData.strOk y = true) : PyData.strOk (x ++ y) = true := by
  unfold PyData.strOk at *
  show (x.cps ++ y.cps).all (· < 0x110000) = true
  rw [Array.all_append, hx, hy]
  rfl
theorem okC : PyData.strOk ", " = true := by decide +kernel
theorem okA : PyData.strOk "(" = true := by decide +kernel
theorem okB : PyData.strOk ")" = true := by decide +kernel
theorem okD : PyData.strOk ",)" = true := by decide +kernel
theorem ok_join : ∀ {ts : List Str}, (∀ t ∈ ts, PyData.strOk t = true) → PyData.strOk (Str.join ", " ts) = true
  | [], _ => by
    show PyData.strOk Str.empty = true
    decide +kernel
  | [x], h => h x List.mem_cons_self
  | x :: y :: r, h => ok_app (ok_app (h x List.mem_cons_self) okC) (ok_join (ts := y :: r) fun t ht => h t (List.mem_cons_of_mem _ ht))
theorem piled_le : ∀ {ts : List Str}, (∀ t ∈ ts, t.length ≤ 40) → piled ts ≤ 42 * ts.length
  | [], _ => by simp [piled]
  | x :: r, h => by
    have ih := piled_le (ts := r) fun t ht => h t (List.mem_cons_of_mem _ ht)
    have h1 := h x List.mem_cons_self
    simp [piled] at ih ⊢
    omega
theorem tup_len {ts : List Str} (h : ∀ t ∈ ts, t.length ≤ 40) : (tupleText ts).length ≤ 42 * ts.length + 10 := by
  have hj : (Str.join ", " ts).length ≤ 42 * ts.length := by
    cases ts with
    | nil => exact Nat.zero_le _
    | cons x r =>
      have e := join_length_add (x :: r) (by simp)
      have p := piled_le h
      omega
  unfold tupleText
  rw [strLen_append, strLen_append]
  have e1 : ((("(" : String) : Str)).length = 1 := rfl
  have e2 : ((if ts.length == 1 then ",)" else ")" : String) : Str).length ≤ 2 := by
    split
    · exact Nat.le_refl _
    · exact Nat.le_succ _
  rw [e1]
  omega
/-- what repr of the texts that are due gives -/
def repT (a : Z) : Str := (py (.tup ((dueT a).map D.str))).shown
theorem reps (a : Z) : showOk (.tup ((dueT a).map D.str)) = true ∧ PyData.strOk (repT a) = true := by
  have ok1 : ∀ x ∈ dueT a, PyData.strOk x = true ∧ PyData.strOk (reprText x) = true ∧ (reprText x).length ≤ 40 := fun x hx => by
    obtain ⟨z, hz, rfl⟩ := due_mem hx
    have w := words_ok z hz
    simp only [Bool.and_eq_true, decide_eq_true_eq] at w
    exact w
  have hl := lay_strs (l := dueT a) fun x hx => (ok1 x hx).1
  have hs : repT a = tupleText ((dueT a).map reprText) := by
    unfold repT
    simp only [py, PyData.shown, shownAll_strs]
  have hlen : (dueT a).length < 64 := by
    unfold dueT
    rw [(sortT_perm _).length_eq]
    exact few all3 (by decide +kernel) a
  have tl := tup_len (ts := (dueT a).map reprText) fun t ht => by
    obtain ⟨x, hx, rfl⟩ := List.mem_map.mp ht
    exact (ok1 x hx).2.2
  rw [List.length_map] at tl
  constructor
  · unfold showOk
    have e1 : VL.plain (.tup ((dueT a).map D.str)) = true := by simp [VL.plain, plains_strs]
    have e2 : SeqAt.shaped (py (.tup ((dueT a).map D.str))) = true := by simp [SeqAt.shaped, py, PyData.canLay0, PyData.depth, hl.1, hl.2.1]
    have e3 : (py (.tup ((dueT a).map D.str))).showable = true := by simp [py, PyData.showable, hl.2.2]
    have e4 : (repT a).length ≤ 16777216 := by rw [hs]; omega
    unfold repT at e4
    rw [e1, e2, e3, decide_eq_true e4]
    rfl
  · rw [hs]
    unfold tupleText
    refine ok_app (ok_app okA (ok_join fun t ht => ?_)) ?_
    · obtain ⟨x, hx, rfl⟩ := List.mem_map.mp ht
      exact (ok1 x hx).2.1
    · split
      · exact okD
      · exact okB
end K34

namespace K34
open PySem L2 PyProof.Rows VL
theorem pr_at {a b : Z} (ha : a ∈ all3) (hb : b ∈ all3) : letsF [ob a, ob b] [] = .ok (.bl (letsM a b)) [] ∧ lletsF [tp a, tp b] [] = .ok (.bl (letsM a b)) [] := by
  have e := map_at (f := prL a) (g := prR a) (pr_all a ha) hb
  unfold prL prR at e
  exact ⟨congrArg Prod.fst e, congrArg Prod.snd e⟩
theorem txt_at {a : Z} (ha : a ∈ all3) : strF [ob a] [] = .ok (.str (txt a)) [] ∧ ltextF [tp a] [] = .ok (.str (txt a)) [] := by
  have e := map_at t_txt ha
  exact ⟨congrArg Prod.fst e, congrArg Prod.snd e⟩
theorem plain_at {a : Z} (ha : a ∈ all3) : plainF [ob a] [] = .ok (.bl (plainM a)) [] := map_at t_plain ha
theorem lows : ∀ (n : Nat) (l : List Str), belows n (l.map D.str) = true
  | _, [] => rfl
  | n, x :: l => by
    show (below n (.str x) && belows n (l.map D.str)) = true
    rw [lows]
    rfl
theorem low_tp (n : Nat) (z : Z) : below n (tp z) = true := by
  show (true && (belows n ((lotW z.2.1).map D.str) && (belows n ((lotW z.2.2).map D.str) && true))) = true
  rw [lows, lows]
  rfl
theorem low_ob (n : Nat) (z : Z) : below n (ob z) = true := by
  show (true && (belows n ((lotW z.2.1).map D.str) && (belows n ((lotW z.2.2).map D.str) && true))) = true
  rw [lows, lows]
  rfl
theorem call1_at {fn : Fn} {z : Z} {d : D} (cs : List Cell) (h : fn [ob z] [] = .ok d []) : callV 0 fn [ob z] cs = .ok d cs := callV0_of rfl (by show (below 0 (ob z) && true) = true; rw [low_ob]; rfl) h
theorem call1t_at {fn : Fn} {z : Z} {d : D} (cs : List Cell) (h : fn [tp z] [] = .ok d []) : callV 0 fn [tp z] cs = .ok d cs := callV0_of rfl (by show (below 0 (tp z) && true) = true; rw [low_tp]; rfl) h
theorem call2_at {fn : Fn} {a b : Z} {d : D} (cs : List Cell) (h : fn [ob a, ob b] [] = .ok d []) : callV 0 fn [ob a, ob b] cs = .ok d cs := callV0_of rfl (by show (below 0 (ob a) && (below 0 (ob b) && true)) = true; rw [low_ob, low_ob]; rfl) h
theorem call2t_at {fn : Fn} {a b : Z} {d : D} (cs : List Cell) (h : fn [tp a, tp b] [] = .ok d []) : callV 0 fn [tp a, tp b] cs = .ok d cs := callV0_of rfl (by show (below 0 (tp a) && (below 0 (tp b) && true)) = true; rw [low_tp, low_tp]; rfl) h
/-! ### a new rule -/
def Low (cs : List Cell) : Prop := ∀ k, cs.length ≤ k → cs.all (belowC k) = true
theorem fld_at {cs : List Cell} {env : List (Option D)} {f : Str} {v : D} {ks : List Str} {ds : List D} (hk : ks.length < 1000) : setFld 0 f (.loc cs.length) v ⟨env, cs ++ [.ins 0 ks ds]⟩ = .nx ⟨env, cs ++ [.ins 0 (putD f v ks ds).1 (putD f v ks ds).2]⟩ := by
  have g1 : (cs ++ [Cell.ins 0 ks ds])[cs.length]? = some (.ins 0 ks ds) := by
    rw [List.getElem?_append_right (Nat.le_refl _), Nat.sub_self]; rfl
  have g2 : ∀ c : Cell, (cs ++ [Cell.ins 0 ks ds]).set cs.length c = cs ++ [c] := fun c => by
    rw [List.set_append_right _ _ (Nat.le_refl _), Nat.sub_self]; rfl
  unfold setFld
  simp only [g1, g2]
  rw [if_pos ⟨trivial, hk⟩]
theorem ins_low {cs : List Cell} (hc : Low cs) {ks : List Str} {ds : List D} (hd : ∀ n, belows n ds = true) : (cs ++ [Cell.ins 0 ks ds]).all (belowC (cs ++ [Cell.ins 0 ks ds]).length) = true := by
  rw [List.all_append, hc _ (by rw [List.length_append]; omega)]
  show (true && (belows _ ds && true)) = true
  rw [hd]
  rfl
def lotsI : List Nat := [0, 1, 2, 3]
theorem sorts : lotsI.map (fun l => fun cs : List Cell => hSortS cs [.lst ((lotW l).map D.str)]) = lotsI.map (fun l => fun cs => .ok (.lst ((lotW l).map D.str)) cs) := by kernel_rfl
theorem isLots : lotsI.map (fun l => fun cs : List Cell => callV 0 isLotF [lotD l] cs) = lotsI.map (fun l => fun cs => .ok (.bl true) cs) := by kernel_rfl
theorem lot_len : ∀ l ∈ lotsI, (lotW l).length < 64 := by decide +kernel
theorem sorted_words {l : Nat} (hl : l ∈ lotsI) {env : List (Option D)} {C : List Cell} {i : Nat} (hi : env[i]? = some (some (lotD l))) (he : env.length = 5) (h4 : i < 4) (hC : C.all (belowC C.length) = true) :
    eB hTuple (aCons (eB hSortS (aCons (eLc (iT (eVar i)) (gNm 4) tTrue (eB hStrS (aCons (eVar 4) aNil)) [4]) aNil)) aNil) ⟨env, C⟩ = .ok (lotD l) C := by
  have hv : eVar i ⟨env, C⟩ = .ok (lotD l) C := by unfold eVar; simp only [hi]
  have e := ev_eLc (xs := lotW l) (fD := D.str) (kp := keepAll) (c1 := C) (g := gNm 4) (t := tTrue) (f := eB hStrS (aCons (eVar 4) aNil)) (vs := [4]) (src := iT (eVar i)) (st := ⟨env, C⟩) (fun _ => true) D.str (ev_iT hv rfl) (fun _ => rfl) (by have := lot_len l hl; omega) hC (fun _ _ _ => rfl)
    (fun x _ acc _ => ⟨_, rfl, rfl, fun _ => ev_eB (c1 := C ++ [.lst acc]) (xs := [.str x]) (ev_aCons (c1 := C ++ [.lst acc]) (by
      have : ((wipeD env [4]).set 4 (some (D.str x)))[4]? = some (some (.str x)) := by
        have hw : (wipeD env [4]).length = 5 := by rw [wipeD_length, he]
        rw [List.getElem?_set_self (by omega)]
      unfold eVar
      simp only [this]) rfl) rfl⟩)
  have e2 : (lotW l).filter (fun _ => true) = lotW l := List.filter_eq_self.mpr fun _ _ => rfl
  rw [e2] at e
  exact ev_eB (c1 := C) (xs := [.lst ((lotW l).map D.str)]) (ev_aCons (c1 := C) (ev_eB (c1 := C) (xs := [.lst ((lotW l).map D.str)]) (ev_aCons (c1 := C) e rfl) (congrFun (map_at sorts hl) C)) rfl) rfl
theorem seesOk : [0, 1].map (fun i => fun (cs : List Cell) (a b c e : Option D) => tOr' (tNot' (tTru (eUn (gIsi "str") (eVar 1)))) (tCmp' (gIn true) (eVar 1) (eC (.tup [.str "begin", .str "now"]))) ⟨[a, some (.str (seesS i)), b, c, e], cs⟩) = [0, 1].map (fun i => fun (cs : List Cell) (_ _ _ _ : Option D) => .ok false cs) := by kernel_rfl
theorem init_ok {i l t : Nat} (hi : i ∈ [0, 1]) (hl : l ∈ lotsI) (ht : t ∈ lotsI) {cs : List Cell} (hc : Low cs) : makeD 0 initF [.str (seesS i), lotD l, lotD t] cs = .ok (ob (i, l, t)) cs := by
  have L : ∀ (n : Nat) (k : Nat), belows n [lotD k] = true := fun n k => by
    show (belows n ((lotW k).map D.str) && true) = true
    rw [lows]
    rfl
  have low1 : ∀ n, belows n [D.str (seesS i)] = true := fun n => rfl
  have low2 : ∀ n, belows n [D.str (seesS i), lotD l] = true := fun n => by
    show (true && (belows n ((lotW l).map D.str) && true)) = true
    rw [lows]
    rfl
  have low3 : ∀ n, belows n [D.str (seesS i), lotD l, lotD t] = true := fun n => by
    show (true && (belows n ((lotW l).map D.str) && (belows n ((lotW t).map D.str) && true))) = true
    rw [lows, lows]
    rfl
  let E : List (Option D) := [some (.loc cs.length), some (.str (seesS i)), some (lotD l), some (lotD t), none]
  have s1 : sIf (tOr' (tNot' (tTru (eUn (gIsi "str") (eVar 1)))) (tCmp' (gIn true) (eVar 1) (eC (.tup [.str "begin", .str "now"])))) sNever sNil ⟨E, cs ++ [.ins 0 [] []]⟩ = .nx ⟨E, cs ++ [.ins 0 [] []]⟩ :=
    ev_sIfF (congrFun (congrFun (congrFun (congrFun (congrFun (map_at seesOk hi) (cs ++ [.ins 0 [] []])) (some (.loc cs.length))) (some (lotD l))) (some (lotD t))) none) rfl
  have nt : ∀ {k : Nat} (hk : k ∈ lotsI) {j : Nat} {C : List Cell}, E[j]? = some (some (lotD k)) → sIf (tNot' (tTru (eCall 0 isLotF (aCons (eVar j) aNil)))) sNever sNil ⟨E, C⟩ = .nx ⟨E, C⟩ := fun {k} hk {j C} hj =>
    ev_sIfF (c1 := C) (ev_tNot (ev_tTru (k := true) (ev_eCall (c1 := C) (xs := [lotD k]) (ev_aCons (c1 := C) (by unfold eVar; simp only [hj]) rfl) (congrFun (map_at isLots hk) C)) rfl)) rfl
  refine ev_make (c0 := cs ++ [.ins 0 [] []]) (es := [.loc cs.length, .str (seesS i), lotD l, lotD t]) (r := .ok .non (cs ++ [.ins 0 ["sees", "looks", "takes"] [.str (seesS i), lotD l, lotD t]])) rfl rfl ?_ ?_
  · show runF 5 b_init [.loc cs.length, .str (seesS i), lotD l, lotD t] (cs ++ [.ins 0 [] []]) = _
    refine ev_runNx (n := 5) (ds := [.loc cs.length, .str (seesS i), lotD l, lotD t]) (env := E) (st1 := ⟨E, cs ++ [.ins 0 ["sees", "looks", "takes"] [.str (seesS i), lotD l, lotD t]]⟩) rfl ?_
    refine ev_sSeq s1 (ev_sSeq (nt hl rfl) (ev_sSeq (nt ht rfl) ?_))
    refine ev_sSeq (ev_setFld (c1 := cs ++ [.ins 0 [] []]) (c2 := cs ++ [.ins 0 [] []]) (x := .str (seesS i)) (y := .loc cs.length) rfl rfl (fld_at (by decide))) ?_
    refine ev_sSeq (ev_setFld (y := .loc cs.length) (c2 := cs ++ [.ins 0 ["sees"] [.str (seesS i)]]) (sorted_words (env := E) (i := 2) hl rfl rfl (by decide) (ins_low hc low1)) rfl (fld_at (by decide))) ?_
    have p1 : putD "looks" (lotD l) ["sees"] [D.str (seesS i)] = ((["sees", "looks"] : List Str), [.str (seesS i), lotD l]) := by kernel_rfl
    have p2 : putD "takes" (lotD t) ["sees", "looks"] [D.str (seesS i), lotD l] = ((["sees", "looks", "takes"] : List Str), [.str (seesS i), lotD l, lotD t]) := by kernel_rfl
    rw [p1]
    have q := ev_setFld (cn := 0) (n := "takes") (fb := eVar 0) (st := ⟨E, cs ++ [.ins 0 ["sees", "looks"] [.str (seesS i), lotD l]]⟩) (y := .loc cs.length) (c2 := cs ++ [.ins 0 ["sees", "looks"] [.str (seesS i), lotD l]]) (sorted_words (env := E) (i := 3) ht rfl rfl (by decide) (ins_low hc low2)) rfl (fld_at (by decide))
    rw [p2] at q
    exact q
  · unfold makeD
    have e : lastIns (cs ++ [.ins 0 ["sees", "looks", "takes"] [.str (seesS i), lotD l, lotD t]]) = some (cs, 0, (["sees", "looks", "takes"] : List Str), [.str (seesS i), lotD l, lotD t]) := by
      unfold lastIns
      rw [List.reverse_append]
      simp
    simp only [e]
    rw [if_pos ⟨trivial, trivial, low3 _, hc _ (Nat.le_refl _)⟩]
/-! ### the law -/
abbrev lots : List D := lotsI.map lotD
abbrev ev14 (d0 : D) (e4 e5 e6 e7 e8 e9 e10 e11 e12 e13 : Option D) : List (Option D) := [some d0, some (.loc 1), some (.lst lots), some (.loc 2), e4, e5, e6, e7, e8, e9, e10, e11, e12, e13]
theorem low_dx (gs : List Int) (s n : Int) (ds : List D) (hd : ∀ k, 2 < k → belows k ds = true) : Low (dx gs s n ++ [.lst ds]) := fun k hk => by
  have hk : 3 ≤ k := hk
  show (belows k (gs.map D.int) && ((decide (0 < k) && true) && (belows k ds && true))) = true
  rw [belows_int, hd k (by omega), decide_eq_true (by omega)]
  rfl
theorem lows_tp (k : Nat) : ∀ l : List Z, belows k (l.map tp) = true
  | [] => rfl
  | z :: l => by
    show (below k (tp z) && belows k (l.map tp)) = true
    rw [low_tp, lows_tp]
    rfl
theorem ext_ok (d0 : D) (i l : Nat) (e6 : Option D) (gs : List Int) (s n : Int) (acc : List Z) (ha : acc.length ≤ 100) :
    l_law_0 ⟨ev14 d0 (some (.str (seesS i))) (some (lotD l)) e6 none none none none none none none, dx gs s n ++ [.lst (acc.map tp)]⟩ = .nx ⟨ev14 d0 (some (.str (seesS i))) (some (lotD l)) e6 none none none none none none none, dx gs s n ++ [.lst ((acc ++ lotsI.map fun t => (i, l, t)).map tp)]⟩ := by
  have hb : (dx gs s n ++ [Cell.lst (acc.map tp)]).all (belowC (dx gs s n ++ [Cell.lst (acc.map tp)]).length) = true := low_dx gs s n _ (fun k _ => lows_tp k _) _ (Nat.le_refl _)
  have e := ev_eLc (xs := lotsI) (fD := lotD) (kp := keepAll) (c1 := dx gs s n ++ [.lst (acc.map tp)]) (g := gNm 6) (t := tTrue) (f := eTup (aCons (eVar 4) (aCons (eVar 5) (aCons (eVar 6) aNil)))) (vs := [6]) (src := iL (eVar 2)) (st := ⟨ev14 d0 (some (.str (seesS i))) (some (lotD l)) e6 none none none none none none none, dx gs s n ++ [.lst (acc.map tp)]⟩)
    (fun _ => true) (fun t => tp (i, l, t)) rfl (fun _ => rfl) (by decide) hb (fun t _ _ => low_tp _ _) (fun t _ a _ => ⟨_, rfl, rfl, fun _ => rfl⟩)
  have e2 : lotsI.filter (fun _ => true) = lotsI := rfl
  rw [e2] at e
  refine ev_sExpr (d := .non) ?_
  have v3 : eVar 3 ⟨ev14 d0 (some (.str (seesS i))) (some (lotD l)) e6 none none none none none none none, dx gs s n ++ [.lst (acc.map tp)]⟩ = .ok (.loc 2) (dx gs s n ++ [.lst (acc.map tp)]) := rfl
  unfold eExtend
  rw [v3]
  show ((eLc (iL (eVar 2)) (gNm 6) tTrue (eTup (aCons (eVar 4) (aCons (eVar 5) (aCons (eVar 6) aNil)))) [6] ⟨ev14 d0 (some (.str (seesS i))) (some (lotD l)) e6 none none none none none none none, dx gs s n ++ [.lst (acc.map tp)]⟩).bind _) = _
  rw [e]
  show (if (acc.map tp).length + (lotsI.map fun t => tp (i, l, t)).length ≤ 16777216 then Out.ok D.non (dx gs s n ++ [Cell.lst (acc.map tp ++ lotsI.map fun t => tp (i, l, t))]) else .no) = _
  rw [if_pos (by rw [List.length_map, List.length_map]; show _ + 4 ≤ _; omega), List.map_append, List.map_map]
  rfl
theorem exts (d0 : D) (i : Nat) (e6 : Option D) (gs : List Int) (s n : Int) : ∀ (ls : List Nat) (acc : List Z) (e5 : Option D), acc.length + 4 * ls.length ≤ 100 → ∃ e5', forL (gNm 5) l_law_0 keepAll (ls.map lotD) ⟨ev14 d0 (some (.str (seesS i))) e5 e6 none none none none none none none, dx gs s n ++ [.lst (acc.map tp)]⟩ = .nx ⟨ev14 d0 (some (.str (seesS i))) e5' e6 none none none none none none none, dx gs s n ++ [.lst ((acc ++ ls.flatMap fun l => lotsI.map fun t => (i, l, t)).map tp)]⟩
  | [], acc, e5, _ => ⟨e5, by rw [List.flatMap_nil, List.append_nil]; exact ev_forNil rfl⟩
  | l :: ls, acc, e5, h => by
    rw [List.length_cons] at h
    obtain ⟨e5', h2⟩ := exts d0 i e6 gs s n ls (acc ++ lotsI.map fun t => (i, l, t)) (some (lotD l)) (by rw [List.length_append]; show _ + 4 + _ ≤ _; omega)
    refine ⟨e5', ?_⟩
    rw [List.flatMap_cons, ← List.append_assoc]
    exact ev_forNx rfl rfl (ext_ok d0 i l e6 gs s n acc (by omega)) h2
theorem q2_ok (d0 : D) (gs : List Int) (s n : Int) : ∃ e4 e5, q_law_2 ⟨ev14 d0 none none none none none none none none none none, dx gs s n ++ [.lst []]⟩ = .nx ⟨ev14 d0 e4 e5 none none none none none none none none, dx gs s n ++ [.lst (all3.map tp)]⟩ := by
  obtain ⟨e5, h1⟩ := exts d0 0 none gs s n lotsI [] none (by decide)
  obtain ⟨e6, h2⟩ := exts d0 1 none gs s n lotsI (row 0) e5 (by decide)
  have r0 : ([] : List Z) ++ lotsI.flatMap (fun l => lotsI.map fun t => (0, l, t)) = row 0 := rfl
  have r1 : row 0 ++ lotsI.flatMap (fun l => lotsI.map fun t => (1, l, t)) = all3 := rfl
  rw [r0] at h1
  rw [r1] at h2
  have g1 : l_law_1 ⟨ev14 d0 (some (.str (seesS 0))) none none none none none none none none none, dx gs s n ++ [.lst []]⟩ = .nx ⟨ev14 d0 (some (.str (seesS 0))) e5 none none none none none none none none, dx gs s n ++ [.lst ((row 0).map tp)]⟩ := by
    have a : iL (eVar 2) ⟨ev14 d0 (some (.str (seesS 0))) none none none none none none none none none, dx gs s n ++ [.lst []]⟩ = .ok (lots, keepAll) (dx gs s n ++ [.lst []]) := by kernel_rfl
    exact ev_sFor a h1
  have g2 : l_law_1 ⟨ev14 d0 (some (.str (seesS 1))) e5 none none none none none none none none, dx gs s n ++ [.lst ((row 0).map tp)]⟩ = .nx ⟨ev14 d0 (some (.str (seesS 1))) e6 none none none none none none none none, dx gs s n ++ [.lst (all3.map tp)]⟩ := by
    have a : iL (eVar 2) ⟨ev14 d0 (some (.str (seesS 1))) e5 none none none none none none none none, dx gs s n ++ [.lst ((row 0).map tp)]⟩ = .ok (lots, keepAll) (dx gs s n ++ [.lst ((row 0).map tp)]) := by kernel_rfl
    exact ev_sFor a h2
  have a0 : iT (eTup (aCons (eC (.str "now")) (aCons (eC (.str "begin")) aNil))) ⟨ev14 d0 none none none none none none none none none none, dx gs s n ++ [.lst []]⟩ = .ok ([D.str (seesS 0), D.str (seesS 1)], keepAll) (dx gs s n ++ [.lst []]) := by kernel_rfl
  have z2 : forL (gNm 4) l_law_1 keepAll [] ⟨ev14 d0 (some (.str (seesS 1))) e6 none none none none none none none none, dx gs s n ++ [.lst (all3.map tp)]⟩ = .nx ⟨ev14 d0 (some (.str (seesS 1))) e6 none none none none none none none none, dx gs s n ++ [.lst (all3.map tp)]⟩ := ev_forNil rfl
  have b1 : gNm 4 (.str (seesS 1)) ⟨ev14 d0 (some (.str (seesS 0))) e5 none none none none none none none none, dx gs s n ++ [.lst ((row 0).map tp)]⟩ = some ⟨ev14 d0 (some (.str (seesS 1))) e5 none none none none none none none none, dx gs s n ++ [.lst ((row 0).map tp)]⟩ := by kernel_rfl
  have b0 : gNm 4 (.str (seesS 0)) ⟨ev14 d0 none none none none none none none none none none, dx gs s n ++ [.lst []]⟩ = some ⟨ev14 d0 (some (.str (seesS 0))) none none none none none none none none none, dx gs s n ++ [.lst []]⟩ := by kernel_rfl
  have z1 := ev_forNx (gt := gNm 4) (kp := keepAll) (sf := l_law_1) (d := .str (seesS 1)) (xs := []) (show keepAll _ = true from rfl) b1 g2 z2
  have z0 := ev_forNx (gt := gNm 4) (kp := keepAll) (sf := l_law_1) (d := .str (seesS 0)) (xs := [.str (seesS 1)]) (show keepAll _ = true from rfl) b0 g1 z1
  exact ⟨some (.str (seesS 1)), e6, ev_sFor a0 z0⟩
abbrev cE (gs : List Int) (s n : Int) : List Cell := dx gs s n ++ [.lst (all3.map tp)]
theorem low_cE (gs : List Int) (s n : Int) : Low (cE gs s n) := low_dx gs s n _ fun k _ => lows_tp k _
theorem mem3 {z : Z} (h : z ∈ all3) : z.1 ∈ [0, 1] ∧ z.2.1 ∈ lotsI ∧ z.2.2 ∈ lotsI := by
  have : ∀ z ∈ all3, z.1 ∈ [0, 1] ∧ z.2.1 ∈ lotsI ∧ z.2.2 ∈ lotsI := by decide +kernel
  exact this z h
theorem asc_mem {z : Z} (h : z ∈ asc3) : z ∈ all3 := by
  have : ∀ z ∈ asc3, z ∈ all3 := by decide +kernel
  exact this z h
theorem make_at {z : Z} (h : z ∈ all3) {cs : List Cell} (hc : Low cs) : makeD 0 initF [.str (seesS z.1), lotD z.2.1, lotD z.2.2] cs = .ok (ob z) cs := init_ok (mem3 h).1 (mem3 h).2.1 (mem3 h).2.2 hc
theorem keepE : eqDs (all3.map tp) (all3.map tp) = true := by kernel_rfl
theorem nol_tp : ∀ z ∈ all3, noLst (tp z) = true := by decide +kernel
theorem loosers {a : Z} (ha : a ∈ all3) : looserF [ob a] [] = .ok (.tup ((dueT a).map D.str)) [] := by
  have hz := strs_txt (asc3.filter fun z => letsM z a)
  have hlen := few asc3 (by decide +kernel) a
  have he := ev_eLc (xs := asc3) (fD := ob) (kp := keepAll) (c1 := []) (g := gNm 1) (t := tTru (eCall 0 letsF (aCons (eVar 1) (aCons (eVar 0) aNil)))) (f := eB (hStrO 0 strF) (aCons (eVar 1) aNil)) (vs := [1]) (src := iT (eCall 0 everyF aNil)) (st := ⟨[some (ob a), none], []⟩)
    (fun z => letsM z a) (fun z => .str (txt z)) (ev_iT (ev_eCall (c1 := []) (xs := []) rfl (callV0_of rfl rfl t_every)) rfl) (fun _ => rfl) (by decide) rfl (fun _ _ _ => rfl)
    (fun z hz acc _ => ⟨[some (ob a), some (ob z)], rfl, ev_tTru (ev_eCall (c1 := [.lst acc]) (xs := [ob z, ob a]) rfl (call2_at _ (pr_at (asc_mem hz) ha).1)) rfl, fun _ => ev_eB (c1 := [.lst acc]) (xs := [ob z]) rfl (by
      unfold hStrO
      simp only [if_true, call1_at _ (txt_at (asc_mem hz)).1]
      rfl)⟩)
  have hs : hSortS [] [.lst ((asc3.filter fun z => letsM z a).map fun z => D.str (txt z))] = .ok (.lst ((dueT a).map D.str)) [] := by
    unfold hSortS
    simp only [lstOf, hz]
    rw [if_pos (decide_eq_true hlen), due_asc]
  refine trimF_of (d := .tup ((dueT a).map D.str)) (cs' := []) (ev_runRt (env := [some (ob a), none]) (st1 := ⟨_, []⟩) rfl (ev_sRet (ev_eB (c1 := []) (xs := [.lst ((dueT a).map D.str)]) (ev_aCons (c1 := []) (ev_eB (c1 := []) (xs := [.lst ((asc3.filter fun z => letsM z a).map fun z => D.str (txt z))]) (ev_aCons (c1 := []) he rfl) hs) rfl) rfl))) rfl ?_
  exact outD_low (by show belows 0 _ = true; exact lows _ _) (fun m z => by cases z)
theorem pick_at (gs : List Int) (hg : gs.length ≤ 63) (s n : Int) : ∃ (z : Z) (gs' : List Int) (s' n' : Int), z ∈ all3 ∧ gs'.length ≤ 63 ∧ callV 2 pickF [.loc 1, .loc 2] (cE gs s n) = .ok (tp z) (cE gs' s' n') := by
  obtain ⟨d, g2, s2, n2, h1, h2, h3⟩ := pick_ok gs hg s n (all3.map tp) (by decide +kernel) (by decide +kernel) (lows_tp _ _) (fun d hd => by
    obtain ⟨z, hz, rfl⟩ := List.mem_map.mp hd
    exact ⟨fun m e => (by cases e), nol_tp z hz⟩)
  obtain ⟨z, hz, rfl⟩ := List.mem_map.mp h2
  exact ⟨z, g2, s2, n2, hz, h1, h3⟩
theorem if1 : all3.map (fun z => fun (d0 : D) (e4 e5 e6 e7 e9 e11 e12 e13 : Option D) (cs : List Cell) => p_law_0_2 ⟨ev14 d0 e4 e5 e6 e7 (some (tp z)) e9 (some (ob z)) e11 e12 e13, cs⟩) = all3.map (fun z => fun (d0 : D) (e4 e5 e6 e7 e9 e11 e12 e13 : Option D) (cs : List Cell) => .nx ⟨ev14 d0 e4 e5 e6 e7 (some (tp z)) e9 (some (ob z)) e11 e12 e13, cs⟩) := by kernel_rfl
theorem if2 : all3.map (fun z => fun (d0 : D) (e4 e5 e6 e7 e9 e11 e12 e13 : Option D) (cs : List Cell) => p_law_0_3 ⟨ev14 d0 e4 e5 e6 e7 (some (tp z)) e9 (some (ob z)) e11 e12 e13, cs⟩) = all3.map (fun z => fun (d0 : D) (e4 e5 e6 e7 e9 e11 e12 e13 : Option D) (cs : List Cell) => .nx ⟨ev14 d0 e4 e5 e6 e7 (some (tp z)) e9 (some (ob z)) e11 e12 e13, cs⟩) := by kernel_rfl
theorem if3 : all3.map (fun z => fun (d0 : D) (e4 e5 e6 e7 e9 e11 e12 e13 : Option D) (cs : List Cell) => p_law_0_4 ⟨ev14 d0 e4 e5 e6 e7 (some (tp z)) e9 (some (ob z)) e11 e12 e13, cs⟩) = all3.map (fun z => fun (d0 : D) (e4 e5 e6 e7 e9 e11 e12 e13 : Option D) (cs : List Cell) => .nx ⟨ev14 d0 e4 e5 e6 e7 (some (tp z)) e9 (some (ob z)) e11 e12 e13, cs⟩) := by kernel_rfl
theorem if8 : all3.map (fun z => fun (d0 : D) (e4 e5 e6 e7 e9 e11 e12 e13 : Option D) (cs : List Cell) => p_law_0_8 ⟨ev14 d0 e4 e5 e6 e7 (some (tp z)) e9 (some (ob z)) e11 e12 e13, cs⟩) = all3.map (fun z => fun (d0 : D) (e4 e5 e6 e7 e9 e11 e12 e13 : Option D) (cs : List Cell) => .nx ⟨ev14 d0 e4 e5 e6 e7 (some (tp z)) e9 (some (ob z)) e11 e12 e13, cs⟩) := by kernel_rfl
theorem letsSelf : ∀ z ∈ all3, letsM z z = true := by decide +kernel
theorem reprB (b : Bool) (cs : List Cell) : hRepr cs [.bl b] = .ok (.str (if b then "True" else "False")) cs := by cases b <;> kernel_rfl
theorem eqB (b : Bool) (cs : List Cell) : gEqB true cs (.str (if b then "True" else "False")) (.str (if b then "True" else "False")) = .ok (.bl false) cs := by cases b <;> kernel_rfl
theorem rep_at {a : Z} (ha : a ∈ all3) (cs : List Cell) : hRepr cs [.tup ((dueT a).map D.str)] = .ok (.str (repT a)) cs := by
  have e : hRepr cs [.tup ((dueT a).map D.str)] = if showOk (.tup ((dueT a).map D.str)) then .ok (.str (repT a)) cs else .no := rfl
  rw [e, show showOk (.tup ((dueT a).map D.str)) = true from (reps a).1]
  rfl
theorem eqSameS {x : Str} (hx : PyData.strOk x = true) (cs : List Cell) : gEqB true cs (.str x) (.str x) = .ok (.bl false) cs := by
  have e : SeqAt.shaped (.str x) = true := by
    unfold SeqAt.shaped
    rw [show (PyData.str x).canLay0 = PyData.strOk x by simp [PyData.canLay0], hx]
    rfl
  have e1 : VL.plain (.str x) = true := by simp [VL.plain]
  have e3 : py (.str x) = .str x := by simp [py]
  have e4 : PyData.eqv (.str x) (.str x) = true := SeqAt.eqv_refl _ (by simpa [PyData.canLay0] using hx)
  simp only [gEqB, norm, e1, e3, e, e4, Bool.and_self, if_true]
  rfl
theorem turn_ok (d0 : D) (e4 e5 e6 e7 e8 e9 e10 e11 e12 e13 : Option D) (gs : List Int) (hg : gs.length ≤ 63) (s n : Int) : ∃ f8 f9 f10 f11 f12 f13 gs' s' n', gs'.length ≤ 63 ∧ l_law_2 ⟨ev14 d0 e4 e5 e6 e7 e8 e9 e10 e11 e12 e13, cE gs s n⟩ = .nx ⟨ev14 d0 e4 e5 e6 e7 f8 f9 f10 f11 f12 f13, cE gs' s' n'⟩ := by
  obtain ⟨a, g1, s1, n1, ha, hg1, p1⟩ := pick_at gs hg s n
  obtain ⟨b, g2, s2, n2, hb, hg2, p2⟩ := pick_at g1 hg1 s1 n1
  have hlow := low_cE g2 s2 n2
  have st0 : p_law_0_0 ⟨ev14 d0 e4 e5 e6 e7 e8 e9 e10 e11 e12 e13, cE gs s n⟩ = .nx ⟨ev14 d0 e4 e5 e6 e7 (some (tp a)) (some (tp b)) e10 e11 e12 e13, cE g2 s2 n2⟩ :=
    ev_sAsg (ev_eTup (ev_aCons (ev_eCall (c1 := cE gs s n) (xs := [.loc 1, .loc 2]) rfl p1) (ev_aCons (ev_eCall (c1 := cE g1 s1 n1) (xs := [.loc 1, .loc 2]) rfl p2) rfl)) rfl) rfl
  have st1 : p_law_0_1 ⟨ev14 d0 e4 e5 e6 e7 (some (tp a)) (some (tp b)) e10 e11 e12 e13, cE g2 s2 n2⟩ = .nx ⟨ev14 d0 e4 e5 e6 e7 (some (tp a)) (some (tp b)) (some (ob a)) (some (ob b)) e12 e13, cE g2 s2 n2⟩ :=
    ev_sPar (ev_aCons (ev_eMake (c1 := cE g2 s2 n2) (xs := [.str (seesS a.1), lotD a.2.1, lotD a.2.2]) rfl (make_at ha hlow)) (ev_aCons (ev_eMake (c1 := cE g2 s2 n2) (xs := [.str (seesS b.1), lotD b.2.1, lotD b.2.2]) rfl (make_at hb hlow)) rfl)) rfl
  have t1 := congrFun (congrFun (congrFun (congrFun (congrFun (congrFun (congrFun (congrFun (congrFun (congrFun (map_at if1 ha) d0) e4) e5) e6) e7) (some (tp b))) (some (ob b))) e12) e13) (cE g2 s2 n2)
  have t2 := congrFun (congrFun (congrFun (congrFun (congrFun (congrFun (congrFun (congrFun (congrFun (congrFun (map_at if2 ha) d0) e4) e5) e6) e7) (some (tp b))) (some (ob b))) e12) e13) (cE g2 s2 n2)
  have t3 := congrFun (congrFun (congrFun (congrFun (congrFun (congrFun (congrFun (congrFun (congrFun (congrFun (map_at if3 ha) d0) e4) e5) e6) e7) (some (tp b))) (some (ob b))) e12) e13) (cE g2 s2 n2)
  have t8 := congrFun (congrFun (congrFun (congrFun (congrFun (congrFun (congrFun (congrFun (congrFun (congrFun (map_at if8 ha) d0) e4) e5) e6) e7) (some (tp b))) (some (ob b))) (some (.lst ((dueT a).map D.str)))) e13) (cE g2 s2 n2)
  have st5 : p_law_0_5 ⟨ev14 d0 e4 e5 e6 e7 (some (tp a)) (some (tp b)) (some (ob a)) (some (ob b)) e12 e13, cE g2 s2 n2⟩ = .nx ⟨ev14 d0 e4 e5 e6 e7 (some (tp a)) (some (tp b)) (some (ob a)) (some (ob b)) e12 e13, cE g2 s2 n2⟩ := by
    have l1 := call2_at (cE g2 s2 n2) (pr_at ha hb).1
    have l2 := call2t_at (cE g2 s2 n2) (pr_at ha hb).2
    have l3 := call2_at (cE g2 s2 n2) (pr_at ha ha).1
    rw [letsSelf a ha] at l3
    refine ev_sIfF (c1 := cE g2 s2 n2) (ev_tOrF (c1 := cE g2 s2 n2) (ev_tCmp (ev_eOp (c1 := cE g2 s2 n2) (c2 := cE g2 s2 n2) (ev_eB (c1 := cE g2 s2 n2) (xs := [.bl (letsM a b)]) (ev_aCons (c1 := cE g2 s2 n2) (ev_eCall (c1 := cE g2 s2 n2) (xs := [ob a, ob b]) rfl l1) rfl) (reprB _ _)) (ev_eB (c1 := cE g2 s2 n2) (xs := [.bl (letsM a b)]) (ev_aCons (c1 := cE g2 s2 n2) (ev_eCall (c1 := cE g2 s2 n2) (xs := [tp a, tp b]) rfl l2) rfl) (reprB _ _)) (eqB _ _)))
      (ev_tCmp (ev_eOp (c1 := cE g2 s2 n2) (c2 := cE g2 s2 n2) (x := .bl true) (y := .bl true) (ev_eCall (c1 := cE g2 s2 n2) (xs := [ob a, ob a]) rfl l3) rfl rfl))) rfl
  have hz := strs_txt (all3.filter fun z => letsM z a)
  have hlen := few all3 (by decide +kernel) a
  have st6 : p_law_0_6 ⟨ev14 d0 e4 e5 e6 e7 (some (tp a)) (some (tp b)) (some (ob a)) (some (ob b)) e12 e13, cE g2 s2 n2⟩ = .nx ⟨ev14 d0 e4 e5 e6 e7 (some (tp a)) (some (tp b)) (some (ob a)) (some (ob b)) (some (.lst ((dueT a).map D.str))) e13, cE g2 s2 n2⟩ := by
    have he := ev_eLc (xs := all3) (fD := tp) (kp := keepD 2 (all3.map tp)) (c1 := cE g2 s2 n2) (g := gNm 13) (t := tTru (eCall 0 lletsF (aCons (eVar 13) (aCons (eVar 8) aNil)))) (f := eCall 0 ltextF (aCons (eVar 13) aNil)) (vs := [13]) (src := iLo (eVar 3)) (st := ⟨ev14 d0 e4 e5 e6 e7 (some (tp a)) (some (tp b)) (some (ob a)) (some (ob b)) e12 e13, cE g2 s2 n2⟩)
      (fun z => letsM z a) (fun z => .str (txt z)) rfl (fun acc => eqDs_refl_of keepE rfl) (by decide +kernel) (hlow _ (Nat.le_refl _)) (fun _ _ _ => rfl)
      (fun z hz acc _ => ⟨ev14 d0 e4 e5 e6 e7 (some (tp a)) (some (tp b)) (some (ob a)) (some (ob b)) e12 (some (tp z)), rfl, ev_tTru (ev_eCall (c1 := cE g2 s2 n2 ++ [.lst acc]) (xs := [tp z, tp a]) rfl (call2t_at _ (pr_at hz ha).2)) rfl, fun _ => ev_eCall (c1 := cE g2 s2 n2 ++ [.lst acc]) (xs := [tp z]) rfl (call1t_at _ (txt_at hz).2)⟩)
    have hs : hSortS (cE g2 s2 n2) [.lst ((all3.filter fun z => letsM z a).map fun z => D.str (txt z))] = .ok (.lst ((dueT a).map D.str)) (cE g2 s2 n2) := by
      unfold hSortS
      simp only [lstOf, hz]
      rw [if_pos (decide_eq_true hlen)]
      rfl
    exact ev_sAsg (ev_eB (c1 := cE g2 s2 n2) (xs := [.lst ((all3.filter fun z => letsM z a).map fun z => D.str (txt z))]) (ev_aCons (c1 := cE g2 s2 n2) he rfl) hs) rfl
  have st7 : p_law_0_7 ⟨ev14 d0 e4 e5 e6 e7 (some (tp a)) (some (tp b)) (some (ob a)) (some (ob b)) (some (.lst ((dueT a).map D.str))) e13, cE g2 s2 n2⟩ = .nx ⟨ev14 d0 e4 e5 e6 e7 (some (tp a)) (some (tp b)) (some (ob a)) (some (ob b)) (some (.lst ((dueT a).map D.str))) e13, cE g2 s2 n2⟩ :=
    ev_sIfF (c1 := cE g2 s2 n2) (ev_tCmp (ev_eOp (c1 := cE g2 s2 n2) (c2 := cE g2 s2 n2) (ev_eB (c1 := cE g2 s2 n2) (xs := [.tup ((dueT a).map D.str)]) (ev_aCons (c1 := cE g2 s2 n2) (ev_eCall (c1 := cE g2 s2 n2) (xs := [ob a]) rfl (call1_at _ (loosers ha))) rfl) (rep_at ha _)) (ev_eB (c1 := cE g2 s2 n2) (xs := [.tup ((dueT a).map D.str)]) (ev_aCons (c1 := cE g2 s2 n2) (ev_eB (c1 := cE g2 s2 n2) (xs := [.lst ((dueT a).map D.str)]) rfl rfl) rfl) (rep_at ha _)) (eqSameS (reps a).2 _))) rfl
  exact ⟨_, _, _, _, _, _, g2, s2, n2, hg2, ev_sSeq st0 (ev_sSeq st1 (ev_sSeq t1 (ev_sSeq t2 (ev_sSeq t3 (ev_sSeq st5 (ev_sSeq st6 (ev_sSeq st7 t8)))))))⟩
theorem q3_ok (d0 : D) (e4 e5 : Option D) (gs : List Int) (hg : gs.length ≤ 63) (s n : Int) : ∃ f7 f8 f9 f10 f11 f12 f13 gs' s' n', gs'.length ≤ 63 ∧ q_law_3 ⟨ev14 d0 e4 e5 none none none none none none none none, cE gs s n⟩ = .nx ⟨ev14 d0 e4 e5 none f7 f8 f9 f10 f11 f12 f13, cE gs' s' n'⟩ := by
  obtain ⟨a8, a9, a10, a11, a12, a13, g1, s1, n1, h1, k1⟩ := turn_ok d0 e4 e5 none (some (.int 0)) none none none none none none gs hg s n
  obtain ⟨b8, b9, b10, b11, b12, b13, g2, s2, n2, h2, k2⟩ := turn_ok d0 e4 e5 none (some (.int 1)) a8 a9 a10 a11 a12 a13 g1 h1 s1 n1
  obtain ⟨c8, c9, c10, c11, c12, c13, g3, s3, n3, h3, k3⟩ := turn_ok d0 e4 e5 none (some (.int 2)) b8 b9 b10 b11 b12 b13 g2 h2 s2 n2
  refine ⟨_, _, _, _, _, _, _, g3, s3, n3, h3, ev_sFor (w := ([.int 0, .int 1, .int 2], keepAll)) (c1 := cE gs s n) ?_ (ev_forNx (st1 := ⟨ev14 d0 e4 e5 none (some (.int 0)) none none none none none none, cE gs s n⟩) rfl rfl k1 (ev_forNx (st1 := ⟨ev14 d0 e4 e5 none (some (.int 1)) a8 a9 a10 a11 a12 a13, cE g1 s1 n1⟩) rfl rfl k2 (ev_forNx (st1 := ⟨ev14 d0 e4 e5 none (some (.int 2)) b8 b9 b10 b11 b12 b13, cE g2 s2 n2⟩) rfl rfl k3 (ev_forNil rfl))))⟩
  kernel_rfl
theorem cnt : (all3.filter plainM).length = 18 := by decide +kernel
theorem q4_ok (d0 : D) (e4 e5 e6 e7 e8 e9 e10 e11 e12 e13 : Option D) (gs : List Int) (s n : Int) : ∃ st, q_law_4 ⟨ev14 d0 e4 e5 e6 e7 e8 e9 e10 e11 e12 e13, cE gs s n⟩ = .rt (.bl true) st := by
  have hlow := low_cE gs s n
  have tst : ∀ z ∈ all3, ∀ acc : List D, belows 3 acc = true → tTru (eCall 0 plainF (aCons (eMake 0 initF (aCons (eOp gIx (eVar 8) (eC (.int 0))) (aCons (eOp gIx (eVar 8) (eC (.int 1))) (aCons (eOp gIx (eVar 8) (eC (.int 2))) aNil)))) aNil)) ⟨ev14 d0 e4 e5 e6 e7 (some (tp z)) e9 e10 e11 e12 e13, cE gs s n ++ [.lst acc]⟩ = .ok (plainM z) (cE gs s n ++ [.lst acc]) := fun z hz acc ha => by
    have hl : Low (cE gs s n ++ [.lst acc]) := fun k hk => by
      have hk : 4 ≤ k := hk
      rw [List.all_append, hlow k (by show 3 ≤ k; omega)]
      show (true && (belows k acc && true)) = true
      rw [belows_up (by omega) ha]
      rfl
    exact ev_tTru (ev_eCall (c1 := cE gs s n ++ [.lst acc]) (xs := [ob z]) (ev_aCons (ev_eMake (c1 := cE gs s n ++ [.lst acc]) (xs := [.str (seesS z.1), lotD z.2.1, lotD z.2.2]) rfl (make_at hz hl)) rfl) (call1_at _ (plain_at hz))) rfl
  have he := ev_eLc (xs := all3) (fD := tp) (kp := keepD 2 (all3.map tp)) (c1 := cE gs s n) (g := gNm 8) (t := tTru (eCall 0 plainF (aCons (eMake 0 initF (aCons (eOp gIx (eVar 8) (eC (.int 0))) (aCons (eOp gIx (eVar 8) (eC (.int 1))) (aCons (eOp gIx (eVar 8) (eC (.int 2))) aNil)))) aNil))) (f := eC (.int 1)) (vs := [8]) (src := iLo (eVar 3)) (st := ⟨ev14 d0 e4 e5 e6 e7 e8 e9 e10 e11 e12 e13, cE gs s n⟩)
    plainM (fun _ => .int 1) rfl (fun acc => eqDs_refl_of keepE rfl) (by decide +kernel) (hlow _ (Nat.le_refl _)) (fun _ _ _ => rfl)
    (fun z hz acc ha => ⟨ev14 d0 e4 e5 e6 e7 (some (tp z)) e9 e10 e11 e12 e13, rfl, tst z hz acc ha, fun _ => rfl⟩)
  have hn : ((all3.filter plainM).map fun _ => D.int 1).length = 18 := by rw [List.length_map]; exact cnt
  refine ⟨_, ev_sRet (ev_eOp (x := .int 18) (y := .int 18) (c1 := cE gs s n) (c2 := cE gs s n) (ev_eB (c1 := cE gs s n) (xs := [.lst ((all3.filter plainM).map fun _ => D.int 1)]) (ev_aCons (c1 := cE gs s n) he rfl) ?_) rfl eqII)⟩
  show Out.ok (D.int (((all3.filter plainM).map fun _ => D.int 1).length : Nat)) (cE gs s n) = _
  rw [hn]
  rfl
theorem law_true (ns : List Int) (hn : ns.length ≤ 63) : ∃ cs, runF 14 b_law [.frl (ns.map D.int)] [] = .ok (.bl true) cs := by
  obtain ⟨g0, s0, hg0, hd⟩ := deal_ok ns hn
  obtain ⟨e4, e5, h2⟩ := q2_ok (.frl (ns.map D.int)) g0 s0 0
  obtain ⟨f7, f8, f9, f10, f11, f12, f13, g3, s3, n3, hg3, h3⟩ := q3_ok (.frl (ns.map D.int)) e4 e5 g0 hg0 s0 0
  obtain ⟨st, h4⟩ := q4_ok (.frl (ns.map D.int)) e4 e5 none f7 f8 f9 f10 f11 f12 f13 g3 s3 n3
  have st0 : q_law_0 ⟨[some (.frl (ns.map D.int)), none, none, none, none, none, none, none, none, none, none, none, none, none], []⟩ = .nx ⟨[some (.frl (ns.map D.int)), some (.loc 1), none, none, none, none, none, none, none, none, none, none, none, none], dx g0 s0 0⟩ := ev_sAsg (ev_eCallAll (c1 := []) (xs := [.frl (ns.map D.int), .int 0]) rfl hd) rfl
  have st1 : q_law_1 ⟨[some (.frl (ns.map D.int)), some (.loc 1), none, none, none, none, none, none, none, none, none, none, none, none], dx g0 s0 0⟩ = .nx ⟨ev14 (.frl (ns.map D.int)) none none none none none none none none none none, dx g0 s0 0 ++ [.lst []]⟩ := by kernel_rfl
  have run : b_law ⟨[some (.frl (ns.map D.int)), none, none, none, none, none, none, none, none, none, none, none, none, none], []⟩ = .rt (.bl true) st := ev_sSeq st0 (ev_sSeq st1 (ev_sSeq h2 (ev_sSeq h3 h4)))
  exact ⟨_, ev_runRt (n := 14) (ds := [.frl (ns.map D.int)]) (env := [some (.frl (ns.map D.int)), none, none, none, none, none, none, none, none, none, none, none, none, none]) rfl run⟩
end K34

namespace K34
open PySem L2 PyProof.Rows VL
theorem all_mk {l : PySem.W.OpenLaw} {w : World} {K : PySem.W.Frag} {h : Heap} {mg : Str → Option Value} {fa : Addr} (X : K.In h) (G : h.Ns mainGlobals mg) (hfa : mg "law" = some (.ref fa))
    {C_Rule : Addr} {f_is_lot : Addr} {od_is_lot : Option Addr} {an_is_lot : Option Addr} {sl_is_lot : Array (Option Value)} {oc_is_lot : Value} {kV_is_lot : Value} {dc_is_lot : Value} {pm_is_lot : Value} {cd_is_lot : Value} {ct_is_lot : Value} {f_lot_text : Addr} {od_lot_text : Option Addr} {an_lot_text : Option Addr} {sl_lot_text : Array (Option Value)} {oc_lot_text : Value} {kV_lot_text : Value} {dc_lot_text : Value} {pm_lot_text : Value} {cd_lot_text : Value} {ct_lot_text : Value} {f_init : Addr} {od_init : Option Addr} {an_init : Option Addr} {sl_init : Array (Option Value)} {oc_init : Value} {kV_init : Value} {dc_init : Value} {pm_init : Value} {cd_init : Value} {ct_init : Value} {T_init : Addr} {oT_init : Value} {dT_init : Option Addr} {nT_init : Nat} {sT_init : Array (Option Value)} {d0_init : Value} {d1_init : Value} {f_str : Addr} {od_str : Option Addr} {an_str : Option Addr} {sl_str : Array (Option Value)} {oc_str : Value} {kV_str : Value} {dc_str : Value} {pm_str : Value} {cd_str : Value} {ct_str : Value} {f_every_rule : Addr} {od_every_rule : Option Addr} {an_every_rule : Option Addr} {sl_every_rule : Array (Option Value)} {oc_every_rule : Value} {kV_every_rule : Value} {dc_every_rule : Value} {pm_every_rule : Value} {cd_every_rule : Value} {ct_every_rule : Value} {f_takes_all : Addr} {od_takes_all : Option Addr} {an_takes_all : Option Addr} {sl_takes_all : Array (Option Value)} {oc_takes_all : Value} {kV_takes_all : Value} {dc_takes_all : Value} {pm_takes_all : Value} {cd_takes_all : Value} {ct_takes_all : Value} {f_can_refuse : Addr} {od_can_refuse : Option Addr} {an_can_refuse : Option Addr} {sl_can_refuse : Array (Option Value)} {oc_can_refuse : Value} {kV_can_refuse : Value} {dc_can_refuse : Value} {pm_can_refuse : Value} {cd_can_refuse : Value} {ct_can_refuse : Value} {f_can_wait : Addr} {od_can_wait : Option Addr} {an_can_wait : Option Addr} {sl_can_wait : Array (Option Value)} {oc_can_wait : Value} {kV_can_wait : Value} {dc_can_wait : Value} {pm_can_wait : Value} {cd_can_wait : Value} {ct_can_wait : Value} {f_isplain : Addr} {od_isplain : Option Addr} {an_isplain : Option Addr} {sl_isplain : Array (Option Value)} {oc_isplain : Value} {kV_isplain : Value} {dc_isplain : Value} {pm_isplain : Value} {cd_isplain : Value} {ct_isplain : Value} {f_lets_all : Addr} {od_lets_all : Option Addr} {an_lets_all : Option Addr} {sl_lets_all : Array (Option Value)} {oc_lets_all : Value} {kV_lets_all : Value} {dc_lets_all : Value} {pm_lets_all : Value} {cd_lets_all : Value} {ct_lets_all : Value} {f_looser : Addr} {od_looser : Option Addr} {an_looser : Option Addr} {sl_looser : Array (Option Value)} {oc_looser : Value} {kV_looser : Value} {dc_looser : Value} {pm_looser : Value} {cd_looser : Value} {ct_looser : Value} {f_deal : Addr} {od_deal : Option Addr} {an_deal : Option Addr} {sl_deal : Array (Option Value)} {oc_deal : Value} {kV_deal : Value} {dc_deal : Value} {pm_deal : Value} {cd_deal : Value} {ct_deal : Value} {f_draw : Addr} {od_draw : Option Addr} {an_draw : Option Addr} {sl_draw : Array (Option Value)} {oc_draw : Value} {kV_draw : Value} {dc_draw : Value} {pm_draw : Value} {cd_draw : Value} {ct_draw : Value} {f_pick : Addr} {od_pick : Option Addr} {an_pick : Option Addr} {sl_pick : Array (Option Value)} {oc_pick : Value} {kV_pick : Value} {dc_pick : Value} {pm_pick : Value} {cd_pick : Value} {ct_pick : Value} {f_llot : Addr} {od_llot : Option Addr} {an_llot : Option Addr} {sl_llot : Array (Option Value)} {oc_llot : Value} {kV_llot : Value} {dc_llot : Value} {pm_llot : Value} {cd_llot : Value} {ct_llot : Value} {f_ltext : Addr} {od_ltext : Option Addr} {an_ltext : Option Addr} {sl_ltext : Array (Option Value)} {oc_ltext : Value} {kV_ltext : Value} {dc_ltext : Value} {pm_ltext : Value} {cd_ltext : Value} {ct_ltext : Value} {f_ltakes : Addr} {od_ltakes : Option Addr} {an_ltakes : Option Addr} {sl_ltakes : Array (Option Value)} {oc_ltakes : Value} {kV_ltakes : Value} {dc_ltakes : Value} {pm_ltakes : Value} {cd_ltakes : Value} {ct_ltakes : Value} {f_llets : Addr} {od_llets : Option Addr} {an_llets : Option Addr} {sl_llets : Array (Option Value)} {oc_llets : Value} {kV_llets : Value} {dc_llets : Value} {pm_llets : Value} {cd_llets : Value} {ct_llets : Value} {f_law : Addr} {od_law : Option Addr} {an_law : Option Addr} {sl_law : Array (Option Value)} {oc_law : Value} {kV_law : Value} {dc_law : Value} {pm_law : Value} {cd_law : Value} {ct_law : Value} {tc_GETS : Tok} {tc_PUTS : Tok} {tc_NOW : Tok} {tS0 : Tok} {tS1 : Tok} {a_SIGHTS : Addr} {dd_SIGHTS : Option Addr} {nn_SIGHTS : Nat} {ss_SIGHTS : Array (Option Value)} {a_LOTS : Addr} {dd_LOTS : Option Addr} {nn_LOTS : Nat} {ss_LOTS : Array (Option Value)} {a_L0 : Addr} {dd_L0 : Option Addr} {nn_L0 : Nat} {ss_L0 : Array (Option Value)} {tL10 : Tok} {a_L1 : Addr} {dd_L1 : Option Addr} {nn_L1 : Nat} {ss_L1 : Array (Option Value)} {tL20 : Tok} {tL21 : Tok} {a_L2 : Addr} {dd_L2 : Option Addr} {nn_L2 : Nat} {ss_L2 : Array (Option Value)} {tL30 : Tok} {a_L3 : Addr} {dd_L3 : Option Addr} {nn_L3 : Nat} {ss_L3 : Array (Option Value)}
    (aC_Rule : PySem.W.nsIn K mainGlobals "Rule" = some (some (.ref C_Rule)))
    (pg_Rule : PySem.W.plainGet K C_Rule Str.empty = true)
    (hd_Rule : PySem.W.hasDictIn K C_Rule = true)
    (po_Rule : PySem.W.plainOver K C_Rule = true)
    (sa_Rule : PySem.W.findIn K (.ref C_Rule) "__setattr__" = some (some (.builtin "object.__setattr__")))
    (mk_Rule : PySem.W.makesIn K C_Rule = true)
    (kc_Rule : PySem.W.keepIn K (.ref C_Rule) = true)
    (nF_Rule_sees : PySem.W.findIn K (.ref C_Rule) "sees" = some none)
    (nF_Rule_looks : PySem.W.findIn K (.ref C_Rule) "looks" = some none)
    (nF_Rule_takes : PySem.W.findIn K (.ref C_Rule) "takes" = some none)
    (a_is_lot : PySem.W.nsIn K mainGlobals "is_lot" = some (some (.ref f_is_lot)))
    (l_is_lot : K.lookup f_is_lot = some ⟨oc_is_lot, od_is_lot, .func (PySem.W.fnOf "is_lot" "is_lot" (defArgs s_is_lot) (defBody s_is_lot) (defScope s_is_lot) .none kV_is_lot dc_is_lot pm_is_lot an_is_lot cd_is_lot ct_is_lot), sl_is_lot⟩)
    (c_is_lot : PySem.W.codeIn K cd_is_lot "is_lot" = true)
    (k_is_lot : PySem.W.keepIn K (.ref f_is_lot) = true)
    (a_lot_text : PySem.W.nsIn K mainGlobals "lot_text" = some (some (.ref f_lot_text)))
    (l_lot_text : K.lookup f_lot_text = some ⟨oc_lot_text, od_lot_text, .func (PySem.W.fnOf "lot_text" "lot_text" (defArgs s_lot_text) (defBody s_lot_text) (defScope s_lot_text) .none kV_lot_text dc_lot_text pm_lot_text an_lot_text cd_lot_text ct_lot_text), sl_lot_text⟩)
    (c_lot_text : PySem.W.codeIn K cd_lot_text "lot_text" = true)
    (k_lot_text : PySem.W.keepIn K (.ref f_lot_text) = true)
    (a_init : PySem.W.findIn K (.ref C_Rule) "__init__" = some (some (.ref f_init)))
    (i_init : PySem.W.isFn K (.ref f_init) = true)
    (l_init : K.lookup f_init = some ⟨oc_init, od_init, .func (PySem.W.fnOf "__init__" "Rule.__init__" (defArgs s_init) (defBody s_init) (defScope s_init) (.ref T_init) kV_init dc_init pm_init an_init cd_init ct_init), sl_init⟩)
    (c_init : PySem.W.codeIn K cd_init "Rule.__init__" = true)
    (k_init : PySem.W.keepIn K (.ref f_init) = true)
    (lT_init : K.lookup T_init = some ⟨oT_init, dT_init, .seq #[d0_init, d1_init] nT_init, sT_init⟩)
    (a_str : PySem.W.findIn K (.ref C_Rule) "__str__" = some (some (.ref f_str)))
    (i_str : PySem.W.isFn K (.ref f_str) = true)
    (l_str : K.lookup f_str = some ⟨oc_str, od_str, .func (PySem.W.fnOf "__str__" "Rule.__str__" (defArgs s_str) (defBody s_str) (defScope s_str) .none kV_str dc_str pm_str an_str cd_str ct_str), sl_str⟩)
    (c_str : PySem.W.codeIn K cd_str "Rule.__str__" = true)
    (k_str : PySem.W.keepIn K (.ref f_str) = true)
    (a_every_rule : PySem.W.nsIn K mainGlobals "every_rule" = some (some (.ref f_every_rule)))
    (l_every_rule : K.lookup f_every_rule = some ⟨oc_every_rule, od_every_rule, .func (PySem.W.fnOf "every_rule" "every_rule" (defArgs s_every_rule) (defBody s_every_rule) (defScope s_every_rule) .none kV_every_rule dc_every_rule pm_every_rule an_every_rule cd_every_rule ct_every_rule), sl_every_rule⟩)
    (c_every_rule : PySem.W.codeIn K cd_every_rule "every_rule" = true)
    (k_every_rule : PySem.W.keepIn K (.ref f_every_rule) = true)
    (a_takes_all : PySem.W.nsIn K mainGlobals "takes_all" = some (some (.ref f_takes_all)))
    (l_takes_all : K.lookup f_takes_all = some ⟨oc_takes_all, od_takes_all, .func (PySem.W.fnOf "takes_all" "takes_all" (defArgs s_takes_all) (defBody s_takes_all) (defScope s_takes_all) .none kV_takes_all dc_takes_all pm_takes_all an_takes_all cd_takes_all ct_takes_all), sl_takes_all⟩)
    (c_takes_all : PySem.W.codeIn K cd_takes_all "takes_all" = true)
    (k_takes_all : PySem.W.keepIn K (.ref f_takes_all) = true)
    (a_can_refuse : PySem.W.nsIn K mainGlobals "can_refuse" = some (some (.ref f_can_refuse)))
    (l_can_refuse : K.lookup f_can_refuse = some ⟨oc_can_refuse, od_can_refuse, .func (PySem.W.fnOf "can_refuse" "can_refuse" (defArgs s_can_refuse) (defBody s_can_refuse) (defScope s_can_refuse) .none kV_can_refuse dc_can_refuse pm_can_refuse an_can_refuse cd_can_refuse ct_can_refuse), sl_can_refuse⟩)
    (c_can_refuse : PySem.W.codeIn K cd_can_refuse "can_refuse" = true)
    (k_can_refuse : PySem.W.keepIn K (.ref f_can_refuse) = true)
    (a_can_wait : PySem.W.nsIn K mainGlobals "can_wait" = some (some (.ref f_can_wait)))
    (l_can_wait : K.lookup f_can_wait = some ⟨oc_can_wait, od_can_wait, .func (PySem.W.fnOf "can_wait" "can_wait" (defArgs s_can_wait) (defBody s_can_wait) (defScope s_can_wait) .none kV_can_wait dc_can_wait pm_can_wait an_can_wait cd_can_wait ct_can_wait), sl_can_wait⟩)
    (c_can_wait : PySem.W.codeIn K cd_can_wait "can_wait" = true)
    (k_can_wait : PySem.W.keepIn K (.ref f_can_wait) = true)
    (a_isplain : PySem.W.nsIn K mainGlobals "is_plain_rule" = some (some (.ref f_isplain)))
    (l_isplain : K.lookup f_isplain = some ⟨oc_isplain, od_isplain, .func (PySem.W.fnOf "is_plain_rule" "is_plain_rule" (defArgs s_isplain) (defBody s_isplain) (defScope s_isplain) .none kV_isplain dc_isplain pm_isplain an_isplain cd_isplain ct_isplain), sl_isplain⟩)
    (c_isplain : PySem.W.codeIn K cd_isplain "is_plain_rule" = true)
    (k_isplain : PySem.W.keepIn K (.ref f_isplain) = true)
    (a_lets_all : PySem.W.nsIn K mainGlobals "lets_all" = some (some (.ref f_lets_all)))
    (l_lets_all : K.lookup f_lets_all = some ⟨oc_lets_all, od_lets_all, .func (PySem.W.fnOf "lets_all" "lets_all" (defArgs s_lets_all) (defBody s_lets_all) (defScope s_lets_all) .none kV_lets_all dc_lets_all pm_lets_all an_lets_all cd_lets_all ct_lets_all), sl_lets_all⟩)
    (c_lets_all : PySem.W.codeIn K cd_lets_all "lets_all" = true)
    (k_lets_all : PySem.W.keepIn K (.ref f_lets_all) = true)
    (a_looser : PySem.W.nsIn K mainGlobals "looser" = some (some (.ref f_looser)))
    (l_looser : K.lookup f_looser = some ⟨oc_looser, od_looser, .func (PySem.W.fnOf "looser" "looser" (defArgs s_looser) (defBody s_looser) (defScope s_looser) .none kV_looser dc_looser pm_looser an_looser cd_looser ct_looser), sl_looser⟩)
    (c_looser : PySem.W.codeIn K cd_looser "looser" = true)
    (k_looser : PySem.W.keepIn K (.ref f_looser) = true)
    (a_deal : PySem.W.nsIn K mainGlobals "_law_deal" = some (some (.ref f_deal)))
    (l_deal : K.lookup f_deal = some ⟨oc_deal, od_deal, .func (PySem.W.fnOf "_law_deal" "_law_deal" (defArgs s_deal) (defBody s_deal) (defScope s_deal) .none kV_deal dc_deal pm_deal an_deal cd_deal ct_deal), sl_deal⟩)
    (c_deal : PySem.W.codeIn K cd_deal "_law_deal" = true)
    (k_deal : PySem.W.keepIn K (.ref f_deal) = true)
    (a_draw : PySem.W.nsIn K mainGlobals "_law_draw" = some (some (.ref f_draw)))
    (l_draw : K.lookup f_draw = some ⟨oc_draw, od_draw, .func (PySem.W.fnOf "_law_draw" "_law_draw" (defArgs s_draw) (defBody s_draw) (defScope s_draw) .none kV_draw dc_draw pm_draw an_draw cd_draw ct_draw), sl_draw⟩)
    (c_draw : PySem.W.codeIn K cd_draw "_law_draw" = true)
    (k_draw : PySem.W.keepIn K (.ref f_draw) = true)
    (a_pick : PySem.W.nsIn K mainGlobals "_law_pick" = some (some (.ref f_pick)))
    (l_pick : K.lookup f_pick = some ⟨oc_pick, od_pick, .func (PySem.W.fnOf "_law_pick" "_law_pick" (defArgs s_pick) (defBody s_pick) (defScope s_pick) .none kV_pick dc_pick pm_pick an_pick cd_pick ct_pick), sl_pick⟩)
    (c_pick : PySem.W.codeIn K cd_pick "_law_pick" = true)
    (k_pick : PySem.W.keepIn K (.ref f_pick) = true)
    (a_llot : PySem.W.nsIn K mainGlobals "_law_lot" = some (some (.ref f_llot)))
    (l_llot : K.lookup f_llot = some ⟨oc_llot, od_llot, .func (PySem.W.fnOf "_law_lot" "_law_lot" (defArgs s_llot) (defBody s_llot) (defScope s_llot) .none kV_llot dc_llot pm_llot an_llot cd_llot ct_llot), sl_llot⟩)
    (c_llot : PySem.W.codeIn K cd_llot "_law_lot" = true)
    (k_llot : PySem.W.keepIn K (.ref f_llot) = true)
    (a_ltext : PySem.W.nsIn K mainGlobals "_law_rule_text" = some (some (.ref f_ltext)))
    (l_ltext : K.lookup f_ltext = some ⟨oc_ltext, od_ltext, .func (PySem.W.fnOf "_law_rule_text" "_law_rule_text" (defArgs s_ltext) (defBody s_ltext) (defScope s_ltext) .none kV_ltext dc_ltext pm_ltext an_ltext cd_ltext ct_ltext), sl_ltext⟩)
    (c_ltext : PySem.W.codeIn K cd_ltext "_law_rule_text" = true)
    (k_ltext : PySem.W.keepIn K (.ref f_ltext) = true)
    (a_ltakes : PySem.W.nsIn K mainGlobals "_law_takes_all" = some (some (.ref f_ltakes)))
    (l_ltakes : K.lookup f_ltakes = some ⟨oc_ltakes, od_ltakes, .func (PySem.W.fnOf "_law_takes_all" "_law_takes_all" (defArgs s_ltakes) (defBody s_ltakes) (defScope s_ltakes) .none kV_ltakes dc_ltakes pm_ltakes an_ltakes cd_ltakes ct_ltakes), sl_ltakes⟩)
    (c_ltakes : PySem.W.codeIn K cd_ltakes "_law_takes_all" = true)
    (k_ltakes : PySem.W.keepIn K (.ref f_ltakes) = true)
    (a_llets : PySem.W.nsIn K mainGlobals "_law_lets" = some (some (.ref f_llets)))
    (l_llets : K.lookup f_llets = some ⟨oc_llets, od_llets, .func (PySem.W.fnOf "_law_lets" "_law_lets" (defArgs s_llets) (defBody s_llets) (defScope s_llets) .none kV_llets dc_llets pm_llets an_llets cd_llets ct_llets), sl_llets⟩)
    (c_llets : PySem.W.codeIn K cd_llets "_law_lets" = true)
    (k_llets : PySem.W.keepIn K (.ref f_llets) = true)
    (a_law : PySem.W.nsIn K mainGlobals "law" = some (some (.ref f_law)))
    (l_law : K.lookup f_law = some ⟨oc_law, od_law, .func (PySem.W.fnOf "law" "law" (defArgs s_law) (defBody s_law) (defScope s_law) .none kV_law dc_law pm_law an_law cd_law ct_law), sl_law⟩)
    (c_law : PySem.W.codeIn K cd_law "law" = true)
    (k_law : PySem.W.keepIn K (.ref f_law) = true)
    (cv_GETS : PySem.W.nsIn K mainGlobals "GETS" = some (some (.str "gets" tc_GETS)))
    (cv_PUTS : PySem.W.nsIn K mainGlobals "PUTS" = some (some (.str "puts" tc_PUTS)))
    (cv_NOW : PySem.W.nsIn K mainGlobals "NOW" = some (some (.str "now" tc_NOW)))
    (cv_SIGHTS : PySem.W.nsIn K mainGlobals "SIGHTS" = some (some (.ref a_SIGHTS)))
    (lk_SIGHTS : K.lookup a_SIGHTS = some ⟨.type "tuple", dd_SIGHTS, .seq #[.str "begin" tS0, .str "now" tS1] nn_SIGHTS, ss_SIGHTS⟩)
    (cv_LOTS : PySem.W.nsIn K mainGlobals "LOTS" = some (some (.ref a_LOTS)))
    (lk_LOTS : K.lookup a_LOTS = some ⟨.type "tuple", dd_LOTS, .seq #[.ref a_L0, .ref a_L1, .ref a_L2, .ref a_L3] nn_LOTS, ss_LOTS⟩)
    (lk_L0 : K.lookup a_L0 = some ⟨.type "tuple", dd_L0, .seq #[] nn_L0, ss_L0⟩)
    (lk_L1 : K.lookup a_L1 = some ⟨.type "tuple", dd_L1, .seq #[.str "gets" tL10] nn_L1, ss_L1⟩)
    (lk_L2 : K.lookup a_L2 = some ⟨.type "tuple", dd_L2, .seq #[.str "gets" tL20, .str "puts" tL21] nn_L2, ss_L2⟩)
    (lk_L3 : K.lookup a_L3 = some ⟨.type "tuple", dd_L3, .seq #[.str "puts" tL30] nn_L3, ss_L3⟩)
    (z_len : PySem.W.nsIn K mainGlobals "len" = some none)
    (z_int : PySem.W.nsIn K mainGlobals "int" = some none)
    (z_abs : PySem.W.nsIn K mainGlobals "abs" = some none)
    (z_isinstance : PySem.W.nsIn K mainGlobals "isinstance" = some none)
    (z_str : PySem.W.nsIn K mainGlobals "str" = some none)
    (z_all : PySem.W.nsIn K mainGlobals "all" = some none)
    (z_repr : PySem.W.nsIn K mainGlobals "repr" = some none)
    (z_list : PySem.W.nsIn K mainGlobals "list" = some none)
    (z_tuple : PySem.W.nsIn K mainGlobals "tuple" = some none)
    (z_set : PySem.W.nsIn K mainGlobals "set" = some none)
    (z_sorted : PySem.W.nsIn K mainGlobals "sorted" = some none)
    (z_range : PySem.W.nsIn K mainGlobals "range" = some none) :
    ∃ fd : FuncData, (∀ (s : Shared) (u : Value), BindsTo s fd ⟨[u], []⟩ [("_law_script", u)]) ∧ ∃ sp : Sp, (∀ base : Heap, K.In base → base.Ns mainGlobals mg → AtC l.prog w K mg base (L2.CX l.prog w) 10 fa fd ["_law_script"] sp) ∧
      ∀ (H : Hp) (a : Addr) (ns : List Int), ns.length ≤ 63 → Only H → SqL K H a (ns.map V.int) → sp [.ref a] H (fun v _ => v = .bl true) fun _ _ _ => False := by
  have e := hfa.symm.trans (PySem.W.mg_of X G a_law)
  cases e
  let κ : Nat → Addr := fun n => [C_Rule].getD n 0
  have F_is_lot : FunA (Kt.mk K κ).K "is_lot" "is_lot" s_is_lot .none f_is_lot _ := funA_mk (K := ⟨K, κ⟩) l_is_lot c_is_lot
  have B_is_lot := F_is_lot.binds (K := ⟨K, κ⟩) (ps := ["value"]) (fun _ _ _ _ _ _ us hl => match us, hl with | [_], _ => rfl)
  have F_lot_text : FunA (Kt.mk K κ).K "lot_text" "lot_text" s_lot_text .none f_lot_text _ := funA_mk (K := ⟨K, κ⟩) l_lot_text c_lot_text
  have B_lot_text := F_lot_text.binds (K := ⟨K, κ⟩) (ps := ["lot"]) (fun _ _ _ _ _ _ us hl => match us, hl with | [_], _ => rfl)
  have F_init : FunA (Kt.mk K κ).K "__init__" "Rule.__init__" s_init (.ref T_init) f_init _ := funA_mk (K := ⟨K, κ⟩) l_init c_init
  have B_init := F_init.bindsD (K := ⟨K, κ⟩) (ps := ["self", "sees", "looks", "takes"]) lT_init rfl (fun _ _ _ _ _ _ us hl => match us, hl with | [_, _, _, _], _ => ⟨_, rfl, rfl⟩)
  have F_str : FunA (Kt.mk K κ).K "__str__" "Rule.__str__" s_str .none f_str _ := funA_mk (K := ⟨K, κ⟩) l_str c_str
  have B_str := F_str.binds (K := ⟨K, κ⟩) (ps := ["self"]) (fun _ _ _ _ _ _ us hl => match us, hl with | [_], _ => rfl)
  have F_every_rule : FunA (Kt.mk K κ).K "every_rule" "every_rule" s_every_rule .none f_every_rule _ := funA_mk (K := ⟨K, κ⟩) l_every_rule c_every_rule
  have B_every_rule := F_every_rule.binds (K := ⟨K, κ⟩) (ps := []) (fun _ _ _ _ _ _ us hl => match us, hl with | [], _ => rfl)
  have F_takes_all : FunA (Kt.mk K κ).K "takes_all" "takes_all" s_takes_all .none f_takes_all _ := funA_mk (K := ⟨K, κ⟩) l_takes_all c_takes_all
  have B_takes_all := F_takes_all.binds (K := ⟨K, κ⟩) (ps := ["rule"]) (fun _ _ _ _ _ _ us hl => match us, hl with | [_], _ => rfl)
  have F_can_refuse : FunA (Kt.mk K κ).K "can_refuse" "can_refuse" s_can_refuse .none f_can_refuse _ := funA_mk (K := ⟨K, κ⟩) l_can_refuse c_can_refuse
  have B_can_refuse := F_can_refuse.binds (K := ⟨K, κ⟩) (ps := ["rule"]) (fun _ _ _ _ _ _ us hl => match us, hl with | [_], _ => rfl)
  have F_can_wait : FunA (Kt.mk K κ).K "can_wait" "can_wait" s_can_wait .none f_can_wait _ := funA_mk (K := ⟨K, κ⟩) l_can_wait c_can_wait
  have B_can_wait := F_can_wait.binds (K := ⟨K, κ⟩) (ps := ["rule"]) (fun _ _ _ _ _ _ us hl => match us, hl with | [_], _ => rfl)
  have F_isplain : FunA (Kt.mk K κ).K "is_plain_rule" "is_plain_rule" s_isplain .none f_isplain _ := funA_mk (K := ⟨K, κ⟩) l_isplain c_isplain
  have B_isplain := F_isplain.binds (K := ⟨K, κ⟩) (ps := ["rule"]) (fun _ _ _ _ _ _ us hl => match us, hl with | [_], _ => rfl)
  have F_lets_all : FunA (Kt.mk K κ).K "lets_all" "lets_all" s_lets_all .none f_lets_all _ := funA_mk (K := ⟨K, κ⟩) l_lets_all c_lets_all
  have B_lets_all := F_lets_all.binds (K := ⟨K, κ⟩) (ps := ["one", "other"]) (fun _ _ _ _ _ _ us hl => match us, hl with | [_, _], _ => rfl)
  have F_looser : FunA (Kt.mk K κ).K "looser" "looser" s_looser .none f_looser _ := funA_mk (K := ⟨K, κ⟩) l_looser c_looser
  have B_looser := F_looser.binds (K := ⟨K, κ⟩) (ps := ["rule"]) (fun _ _ _ _ _ _ us hl => match us, hl with | [_], _ => rfl)
  have F_deal : FunA (Kt.mk K κ).K "_law_deal" "_law_deal" s_deal .none f_deal _ := funA_mk (K := ⟨K, κ⟩) l_deal c_deal
  have B_deal := F_deal.binds (K := ⟨K, κ⟩) (ps := ["_law_script", "_law_base"]) (fun _ _ _ _ _ _ us hl => match us, hl with | [_, _], _ => rfl)
  have F_draw : FunA (Kt.mk K κ).K "_law_draw" "_law_draw" s_draw .none f_draw _ := funA_mk (K := ⟨K, κ⟩) l_draw c_draw
  have B_draw := F_draw.binds (K := ⟨K, κ⟩) (ps := ["_law_deal_here", "_law_wide"]) (fun _ _ _ _ _ _ us hl => match us, hl with | [_, _], _ => rfl)
  have F_pick : FunA (Kt.mk K κ).K "_law_pick" "_law_pick" s_pick .none f_pick _ := funA_mk (K := ⟨K, κ⟩) l_pick c_pick
  have B_pick := F_pick.binds (K := ⟨K, κ⟩) (ps := ["_law_deal_here", "_law_some"]) (fun _ _ _ _ _ _ us hl => match us, hl with | [_, _], _ => rfl)
  have F_llot : FunA (Kt.mk K κ).K "_law_lot" "_law_lot" s_llot .none f_llot _ := funA_mk (K := ⟨K, κ⟩) l_llot c_llot
  have B_llot := F_llot.binds (K := ⟨K, κ⟩) (ps := ["_law_words"]) (fun _ _ _ _ _ _ us hl => match us, hl with | [_], _ => rfl)
  have F_ltext : FunA (Kt.mk K κ).K "_law_rule_text" "_law_rule_text" s_ltext .none f_ltext _ := funA_mk (K := ⟨K, κ⟩) l_ltext c_ltext
  have B_ltext := F_ltext.binds (K := ⟨K, κ⟩) (ps := ["_law_told_rule"]) (fun _ _ _ _ _ _ us hl => match us, hl with | [_], _ => rfl)
  have F_ltakes : FunA (Kt.mk K κ).K "_law_takes_all" "_law_takes_all" s_ltakes .none f_ltakes _ := funA_mk (K := ⟨K, κ⟩) l_ltakes c_ltakes
  have B_ltakes := F_ltakes.binds (K := ⟨K, κ⟩) (ps := ["_law_told_rule"]) (fun _ _ _ _ _ _ us hl => match us, hl with | [_], _ => rfl)
  have F_llets : FunA (Kt.mk K κ).K "_law_lets" "_law_lets" s_llets .none f_llets _ := funA_mk (K := ⟨K, κ⟩) l_llets c_llets
  have B_llets := F_llets.binds (K := ⟨K, κ⟩) (ps := ["_law_one", "_law_other"]) (fun _ _ _ _ _ _ us hl => match us, hl with | [_, _], _ => rfl)
  have T : Tx ⟨K, κ⟩ mg := { b_len := PySem.W.mg_none_of X G z_len, b_int := PySem.W.mg_none_of X G z_int, b_abs := PySem.W.mg_none_of X G z_abs, b_isinstance := PySem.W.mg_none_of X G z_isinstance, b_str := PySem.W.mg_none_of X G z_str, b_all := PySem.W.mg_none_of X G z_all, b_repr := PySem.W.mg_none_of X G z_repr, b_list := PySem.W.mg_none_of X G z_list, b_tuple := PySem.W.mg_none_of X G z_tuple, b_set := PySem.W.mg_none_of X G z_set, b_sorted := PySem.W.mg_none_of X G z_sorted, b_range := PySem.W.mg_none_of X G z_range, f_Rule_sees := ⟨⟨pg_Rule, hd_Rule, po_Rule, sa_Rule⟩, nF_Rule_sees⟩, f_Rule_looks := ⟨⟨pg_Rule, hd_Rule, po_Rule, sa_Rule⟩, nF_Rule_looks⟩, f_Rule_takes := ⟨⟨pg_Rule, hd_Rule, po_Rule, sa_Rule⟩, nF_Rule_takes⟩, t_is_lot := ⟨f_is_lot, _, PySem.W.mg_of X G a_is_lot, k_is_lot, F_is_lot, B_is_lot⟩, t_lot_text := ⟨f_lot_text, _, PySem.W.mg_of X G a_lot_text, k_lot_text, F_lot_text, B_lot_text⟩, t_init := ⟨f_init, _, PySem.W.mg_of X G aC_Rule, ⟨mk_Rule, a_init, i_init, kc_Rule⟩, ⟨_, F_init⟩, B_init⟩, t_str := ⟨f_str, _, a_str, i_str, F_str, B_str⟩, t_every_rule := ⟨f_every_rule, _, PySem.W.mg_of X G a_every_rule, k_every_rule, F_every_rule, B_every_rule⟩, t_takes_all := ⟨f_takes_all, _, PySem.W.mg_of X G a_takes_all, k_takes_all, F_takes_all, B_takes_all⟩, t_can_refuse := ⟨f_can_refuse, _, PySem.W.mg_of X G a_can_refuse, k_can_refuse, F_can_refuse, B_can_refuse⟩, t_can_wait := ⟨f_can_wait, _, PySem.W.mg_of X G a_can_wait, k_can_wait, F_can_wait, B_can_wait⟩, t_isplain := ⟨f_isplain, _, PySem.W.mg_of X G a_isplain, k_isplain, F_isplain, B_isplain⟩, t_lets_all := ⟨f_lets_all, _, PySem.W.mg_of X G a_lets_all, k_lets_all, F_lets_all, B_lets_all⟩, t_looser := ⟨f_looser, _, PySem.W.mg_of X G a_looser, k_looser, F_looser, B_looser⟩, t_deal := ⟨f_deal, _, PySem.W.mg_of X G a_deal, k_deal, F_deal, B_deal⟩, t_draw := ⟨f_draw, _, PySem.W.mg_of X G a_draw, k_draw, F_draw, B_draw⟩, t_pick := ⟨f_pick, _, PySem.W.mg_of X G a_pick, k_pick, F_pick, B_pick⟩, t_llot := ⟨f_llot, _, PySem.W.mg_of X G a_llot, k_llot, F_llot, B_llot⟩, t_ltext := ⟨f_ltext, _, PySem.W.mg_of X G a_ltext, k_ltext, F_ltext, B_ltext⟩, t_ltakes := ⟨f_ltakes, _, PySem.W.mg_of X G a_ltakes, k_ltakes, F_ltakes, B_ltakes⟩, t_llets := ⟨f_llets, _, PySem.W.mg_of X G a_llets, k_llets, F_llets, B_llets⟩, c_GETS := ⟨.str "gets", _, PySem.W.mg_of X G cv_GETS, ⟨_, rfl⟩, fun _ _ => .str _⟩, c_PUTS := ⟨.str "puts", _, PySem.W.mg_of X G cv_PUTS, ⟨_, rfl⟩, fun _ _ => .str _⟩, c_NOW := ⟨.str "now", _, PySem.W.mg_of X G cv_NOW, ⟨_, rfl⟩, fun _ _ => .str _⟩, c_SIGHTS := ⟨.ref a_SIGHTS, _, PySem.W.mg_of X G cv_SIGHTS, rfl, fun _ _ => .tup (sqT_k (xs := [.str "begin", .str "now"]) lk_SIGHTS (Nat.le_of_ble_eq_true rfl) (.cons ⟨_, rfl⟩ (.cons ⟨_, rfl⟩ .nil))) (.cons (.str _) (.cons (.str _) .nil))⟩, c_LOTS := ⟨.ref a_LOTS, _, PySem.W.mg_of X G cv_LOTS, rfl, fun _ _ => .tup (sqT_k (xs := [.ref a_L0, .ref a_L1, .ref a_L2, .ref a_L3]) lk_LOTS (Nat.le_of_ble_eq_true rfl) (.cons rfl (.cons rfl (.cons rfl (.cons rfl .nil))))) (.cons (.tup (sqT_k (xs := []) lk_L0 (Nat.le_of_ble_eq_true rfl) .nil) .nil) (.cons (.tup (sqT_k (xs := [.str "gets"]) lk_L1 (Nat.le_of_ble_eq_true rfl) (.cons ⟨_, rfl⟩ .nil)) (.cons (.str _) .nil)) (.cons (.tup (sqT_k (xs := [.str "gets", .str "puts"]) lk_L2 (Nat.le_of_ble_eq_true rfl) (.cons ⟨_, rfl⟩ (.cons ⟨_, rfl⟩ .nil))) (.cons (.str _) (.cons (.str _) .nil))) (.cons (.tup (sqT_k (xs := [.str "puts"]) lk_L3 (Nat.le_of_ble_eq_true rfl) (.cons ⟨_, rfl⟩ .nil)) (.cons (.str _) .nil)) .nil))))⟩ }
  have Fl := fun_mk (st := s_law) l_law c_law k_law
  refine ⟨PySem.W.fnOf "law" "law" (defArgs s_law) (defBody s_law) (defScope s_law) .none kV_law dc_law pm_law an_law cd_law ct_law, fun s v => .of_eq rfl, spF ⟨K, κ⟩ 1 (runF 14 b_law), fun base _ _ => ?_, fun H a ns hl ho hs => law_pre (K := ⟨K, κ⟩) law_true H a ns hl ho hs⟩
  have D_is_lot := fun base : Heap => ok1_is_lot (P := l.prog) (w := w) (base := base) T 
  have D_lot_text := fun base : Heap => ok1_lot_text (P := l.prog) (w := w) (base := base) T 
  have D_init := fun base : Heap => ok1_init (P := l.prog) (w := w) (base := base) T (D_is_lot base)
  have D_str := fun base : Heap => ok1_str (P := l.prog) (w := w) (base := base) T (D_lot_text base)
  have D_every_rule := fun base : Heap => ok1_every_rule (P := l.prog) (w := w) (base := base) T (D_init base) (D_str base)
  have D_takes_all := fun base : Heap => ok1_takes_all (P := l.prog) (w := w) (base := base) T 
  have D_can_refuse := fun base : Heap => ok1_can_refuse (P := l.prog) (w := w) (base := base) T (D_takes_all base)
  have D_can_wait := fun base : Heap => ok1_can_wait (P := l.prog) (w := w) (base := base) T 
  have D_isplain := fun base : Heap => ok1_isplain (P := l.prog) (w := w) (base := base) T (D_takes_all base)
  have D_lets_all := fun base : Heap => ok1_lets_all (P := l.prog) (w := w) (base := base) T (D_takes_all base)
  have D_looser := fun base : Heap => ok1_looser (P := l.prog) (w := w) (base := base) T (D_every_rule base) (D_lets_all base) (D_str base)
  have D_deal := fun base : Heap => ok1_deal (P := l.prog) (w := w) (base := base) T 
  have D_draw := fun base : Heap => ok1_draw (P := l.prog) (w := w) (base := base) T 
  have D_pick := fun base : Heap => ok1_pick (P := l.prog) (w := w) (base := base) T (D_draw base)
  have D_llot := fun base : Heap => ok1_llot (P := l.prog) (w := w) (base := base) T 
  have D_ltext := fun base : Heap => ok1_ltext (P := l.prog) (w := w) (base := base) T (D_llot base)
  have D_ltakes := fun base : Heap => ok1_ltakes (P := l.prog) (w := w) (base := base) T 
  have D_llets := fun base : Heap => ok1_llets (P := l.prog) (w := w) (base := base) T (D_ltakes base)
  exact ok_law T (D_deal base) (D_pick base) (D_init base) (D_isplain base) (D_ltakes base) (D_can_refuse base) (D_can_wait base) (D_lets_all base) (D_llets base) (D_ltext base) (D_looser base) Fl
end K34
open PySem PySem.W PyProof.Rows
set_option maxRecDepth 100000 in
set_option maxHeartbeats 0 in
theorem PySem.Challenge.cw_plainroads_k34_rules_that_are_plain_holds : PySem.Challenge.rw_plainroads_k34_rules_that_are_plain.Holds := by
  w_on; o_law; k_head; (case hw => w_witness2)
  k_fill
  refine VL.walkC (l := PySem.Challenge.rw_plainroads_k34_rules_that_are_plain) (n := 63) (k := 10) (x := "_law_script") (CX := fun w => L2.CX (PySem.Challenge.rw_plainroads_k34_rules_that_are_plain).prog w) rfl (by decide) rfl ⟨rfl, by decide, by decide⟩ (fun w h Y => PySem.W.kIn_of Y) ?F (fun w H s e s1 => VL.noCX H s e s1)
  case F =>
    intro w mg fa h KX G hmg
    refine' K34.all_mk KX G hmg ?aC_Rule ?pg_Rule ?hd_Rule ?po_Rule ?sa_Rule ?mk_Rule ?kc_Rule ?nF_Rule_sees ?nF_Rule_looks ?nF_Rule_takes ?a_is_lot ?l_is_lot ?c_is_lot ?k_is_lot ?a_lot_text ?l_lot_text ?c_lot_text ?k_lot_text ?a_init ?i_init ?l_init ?c_init ?k_init ?lT_init ?a_str ?i_str ?l_str ?c_str ?k_str ?a_every_rule ?l_every_rule ?c_every_rule ?k_every_rule ?a_takes_all ?l_takes_all ?c_takes_all ?k_takes_all ?a_can_refuse ?l_can_refuse ?c_can_refuse ?k_can_refuse ?a_can_wait ?l_can_wait ?c_can_wait ?k_can_wait ?a_isplain ?l_isplain ?c_isplain ?k_isplain ?a_lets_all ?l_lets_all ?c_lets_all ?k_lets_all ?a_looser ?l_looser ?c_looser ?k_looser ?a_deal ?l_deal ?c_deal ?k_deal ?a_draw ?l_draw ?c_draw ?k_draw ?a_pick ?l_pick ?c_pick ?k_pick ?a_llot ?l_llot ?c_llot ?k_llot ?a_ltext ?l_ltext ?c_ltext ?k_ltext ?a_ltakes ?l_ltakes ?c_ltakes ?k_ltakes ?a_llets ?l_llets ?c_llets ?k_llets ?a_law ?l_law ?c_law ?k_law ?cv_GETS ?cv_PUTS ?cv_NOW ?cv_SIGHTS ?lk_SIGHTS ?cv_LOTS ?lk_LOTS ?lk_L0 ?lk_L1 ?lk_L2 ?lk_L3 ?z_len ?z_int ?z_abs ?z_isinstance ?z_str ?z_all ?z_repr ?z_list ?z_tuple ?z_set ?z_sorted ?z_range
    (case aC_Rule => k_is)
    (case pg_Rule => k_is)
    (case hd_Rule => k_is)
    (case po_Rule => k_is)
    (case sa_Rule => k_is)
    (case mk_Rule => k_is)
    (case kc_Rule => k_is)
    (case nF_Rule_sees => k_is)
    (case nF_Rule_looks => k_is)
    (case nF_Rule_takes => k_is)
    (case a_is_lot => k_is)
    (case l_is_lot => k_is)
    (case c_is_lot => k_is)
    (case k_is_lot => k_is)
    (case a_lot_text => k_is)
    (case l_lot_text => k_is)
    (case c_lot_text => k_is)
    (case k_lot_text => k_is)
    (case a_init => k_is)
    (case i_init => k_is)
    (case l_init => k_is)
    (case c_init => k_is)
    (case k_init => k_is)
    (case lT_init => k_is)
    (case a_str => k_is)
    (case i_str => k_is)
    (case l_str => k_is)
    (case c_str => k_is)
    (case k_str => k_is)
    (case a_every_rule => k_is)
    (case l_every_rule => k_is)
    (case c_every_rule => k_is)
    (case k_every_rule => k_is)
    (case a_takes_all => k_is)
    (case l_takes_all => k_is)
    (case c_takes_all => k_is)
    (case k_takes_all => k_is)
    (case a_can_refuse => k_is)
    (case l_can_refuse => k_is)
    (case c_can_refuse => k_is)
    (case k_can_refuse => k_is)
    (case a_can_wait => k_is)
    (case l_can_wait => k_is)
    (case c_can_wait => k_is)
    (case k_can_wait => k_is)
    (case a_isplain => k_is)
    (case l_isplain => k_is)
    (case c_isplain => k_is)
    (case k_isplain => k_is)
    (case a_lets_all => k_is)
    (case l_lets_all => k_is)
    (case c_lets_all => k_is)
    (case k_lets_all => k_is)
    (case a_looser => k_is)
    (case l_looser => k_is)
    (case c_looser => k_is)
    (case k_looser => k_is)
    (case a_deal => k_is)
    (case l_deal => k_is)
    (case c_deal => k_is)
    (case k_deal => k_is)
    (case a_draw => k_is)
    (case l_draw => k_is)
    (case c_draw => k_is)
    (case k_draw => k_is)
    (case a_pick => k_is)
    (case l_pick => k_is)
    (case c_pick => k_is)
    (case k_pick => k_is)
    (case a_llot => k_is)
    (case l_llot => k_is)
    (case c_llot => k_is)
    (case k_llot => k_is)
    (case a_ltext => k_is)
    (case l_ltext => k_is)
    (case c_ltext => k_is)
    (case k_ltext => k_is)
    (case a_ltakes => k_is)
    (case l_ltakes => k_is)
    (case c_ltakes => k_is)
    (case k_ltakes => k_is)
    (case a_llets => k_is)
    (case l_llets => k_is)
    (case c_llets => k_is)
    (case k_llets => k_is)
    (case a_law => k_is)
    (case l_law => k_is)
    (case c_law => k_is)
    (case k_law => k_is)
    (case cv_GETS => k_is)
    (case cv_PUTS => k_is)
    (case cv_NOW => k_is)
    (case cv_SIGHTS => k_is)
    (case lk_SIGHTS => k_is)
    (case cv_LOTS => k_is)
    (case lk_LOTS => k_is)
    (case lk_L0 => k_is)
    (case lk_L1 => k_is)
    (case lk_L2 => k_is)
    (case lk_L3 => k_is)
    (case z_len => k_is)
    (case z_int => k_is)
    (case z_abs => k_is)
    (case z_isinstance => k_is)
    (case z_str => k_is)
    (case z_all => k_is)
    (case z_repr => k_is)
    (case z_list => k_is)
    (case z_tuple => k_is)
    (case z_set => k_is)
    (case z_sorted => k_is)
    (case z_range => k_is)
