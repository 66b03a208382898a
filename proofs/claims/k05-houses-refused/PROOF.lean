import PyProof.Rows.All
import HandS.ForMost
import HandS.Exc
import HandS.ExcOwn
import HandS.Deep
import HandS.Lambda
import HandS.Flow
import HandS.TupAny
import HandS.Style
import HandS.Wide
import HandS.Conv
import HandS.IsInst
import HandS.RaiseMore
import HandS.Iter
import HandS.Comp
import HandS.WordsExc
import KE.GoesEnum
import HandS.Defaults
import HandS.MakeKwOnly
import HandS.Dict
import HandS.DictComp
import KE.KDictPairs
import HandS.ExcInit
import KE.KSuper
import KE.KExcSuper
import HandS.ExcField
import HandS.ExcIs
import KE.KExcIs
import HandS.TryMany
import HandS.EndTab
import KE.KNestM
import KE.KCallOwn
import HandS.Text
import HandS.Star
import HandS.ClsMeth
import HandS.Strs
import HandS.FStr
import HandS.SortKw
import HandS.Keys
import HandS.SetFor
import HandS.SetTxt0
import HandS.SetBool
import KE.KUnpack
import KE.KRevSl
import Wide.All
import OpenK.AllK
import Wide.FinOn
import KE.RegKSuper
import KE.RegKTryMore
import KE.RegKIsAll
import PySem.Challenge.RW_plainroads_k05_houses_refused
set_option Elab.async false
set_option linter.all false
set_option maxRecDepth 100000
set_option autoImplicit false
/-! VL0: the value layer: deep values, the relation of a plain state to the abstract heap, readings by plain functions. -/
namespace VL
open PySem L2

/-- a deep value: tuples, frozen lists and frozen objects by what they hold; loc n: the n-th own cell -/
inductive D where
  | non | bl (b : Bool) | int (i : Int) | str (x : Str)
  | tup (ds : List D) | lst (ds : List D) | frl (ds : List D)
  | obj (C : Nat) (ks : List Str) (ds : List D)
  | dct (ks : List Key) (ds : List D)
  | btp (ds : List D)
  | cls (C : Nat)
  | loc (n : Nat)

/-- an own cell, that the def may change -/
inductive Cell where
  | lst (ds : List D)
  | dk (ks : List Key) (ds : List D)
  | ins (C : Nat) (ks : List Str) (ds : List D)
  | tbl (n : Nat) (q : Str)

/-- an exception of an own class: its class, its own fields -/
structure Exn where
  C : Nat
  ks : List Str
  ds : List D

/-- a state: the slots, the cells -/
structure S where
  env : List (Option D)
  cs : List Cell

/-- the written part, and where the classes stand in it -/
structure Kt where
  K : PySem.W.Frag
  κ : Nat → Addr

section
variable (K : Kt) (ρ : List Addr) (F : Hp)
mutual
inductive RV : D → V → Prop
  | non : RV .non .non
  | bl (b : Bool) : RV (.bl b) (.bl b)
  | int (i : Int) : RV (.int i) (.int i)
  | str (x : Str) : RV (.str x) (.str x)
  | tup {a : Addr} {vs : List V} {ds : List D} : SqT K.K F a vs → RVs ds vs → RV (.tup ds) (.ref a)
  | lst {a : Addr} {vs : List V} {ds : List D} : F a = some (.lst vs) → RVs ds vs → RV (.lst ds) (.ref a)
  | frl {a : Addr} {vs : List V} {ds : List D} : SqL K.K F a vs → RVs ds vs → RV (.frl ds) (.ref a)
  | obj {a dx : Addr} {C : Nat} {ks : List Str} {vs : List V} {ds : List D} : F a = some (.ins (K.κ C) dx (ks.zip vs)) → ks.length = vs.length → RVs ds vs → RV (.obj C ks ds) (.ref a)
  | dct {a : Addr} {ks : List Key} {vs : List V} {ds : List D} : F a = some (.dK (ks.zip vs)) → ks.length = vs.length → RVs ds vs → RV (.dct ks ds) (.ref a)
  | btp {a : Addr} {o : Obj} {vs : List V} {ds : List D} : F a = some (.frz o (.tup vs)) → o.dict = none → RVs ds vs → RV (.btp ds) (.ref a)
  | cls (C : Nat) : RV (.cls C) (.ref (K.κ C))
  | loc {n : Nat} {a : Addr} : ρ[n]? = some a → RV (.loc n) (.ref a)
inductive RVs : List D → List V → Prop
  | nil : RVs [] []
  | cons {d : D} {ds : List D} {v : V} {vs : List V} : RV d v → RVs ds vs → RVs (d :: ds) (v :: vs)
end
end

theorem sqT_same {K : PySem.W.Frag} {H H' : Hp} {a : Addr} {xs : List V} (e : Same H H') (h : SqT K H a xs) : SqT K H' a xs := by
  rcases h with (h | ⟨o, h⟩) | h
  · exact .inl (.inl (e _ _ h))
  · exact .inl (.inr ⟨o, e _ _ h⟩)
  · exact .inr h

/-- the own cells go on, what is frozen goes on -/
structure Ext (ρ : List Addr) (F : Hp) (ρ' : List Addr) (F' : Hp) : Prop where
  pre : ρ <+: ρ'
  fz : Same F F'
theorem Ext.refl {ρ : List Addr} {F : Hp} : Ext ρ F ρ F := ⟨List.prefix_refl _, Same.refl _⟩
theorem Ext.trans {ρ ρ1 ρ2 : List Addr} {F F1 F2 : Hp} (a : Ext ρ F ρ1 F1) (b : Ext ρ1 F1 ρ2 F2) : Ext ρ F ρ2 F2 := ⟨a.pre.trans b.pre, a.fz.trans b.fz⟩
theorem Ext.at {ρ ρ' : List Addr} {F F' : Hp} (x : Ext ρ F ρ' F') {n : Nat} {a : Addr} (h : ρ[n]? = some a) : ρ'[n]? = some a := by
  obtain ⟨t, rfl⟩ := x.pre
  rw [List.getElem?_append_left (List.getElem?_eq_some_iff.mp h).1]
  exact h

mutual
theorem RV.ext {K : Kt} {ρ ρ' : List Addr} {F F' : Hp} (x : Ext ρ F ρ' F') : ∀ {d : D} {v : V}, RV K ρ F d v → RV K ρ' F' d v
  | _, _, .non => .non
  | _, _, .bl b => .bl b
  | _, _, .int i => .int i
  | _, _, .str z => .str z
  | _, _, .tup h r => .tup (sqT_same x.fz h) (RVs.ext x r)
  | _, _, .lst h r => .lst (x.fz _ _ h) (RVs.ext x r)
  | _, _, .frl h r => .frl (x.fz.seq h) (RVs.ext x r)
  | _, _, .obj h l r => .obj (x.fz _ _ h) l (RVs.ext x r)
  | _, _, .dct h l r => .dct (x.fz _ _ h) l (RVs.ext x r)
  | _, _, .btp h l r => .btp (x.fz _ _ h) l (RVs.ext x r)
  | _, _, .cls C => .cls C
  | _, _, .loc h => .loc (x.at h)
theorem RVs.ext {K : Kt} {ρ ρ' : List Addr} {F F' : Hp} (x : Ext ρ F ρ' F') : ∀ {ds : List D} {vs : List V}, RVs K ρ F ds vs → RVs K ρ' F' ds vs
  | _, _, .nil => .nil
  | _, _, .cons h r => .cons (RV.ext x h) (RVs.ext x r)
end

def CellAt (K : Kt) (ρ : List Addr) (F H : Hp) (a : Addr) : Cell → Prop
  | .lst ds => ∃ vs, H a = some (.lst vs) ∧ RVs K ρ F ds vs
  | .dk ks ds => ∃ vs, H a = some (.dK (ks.zip vs)) ∧ ks.length = vs.length ∧ RVs K ρ F ds vs
  | .ins C ks ds => ∃ dx vs, H a = some (.ins (K.κ C) dx (ks.zip vs)) ∧ ks.length = vs.length ∧ RVs K ρ F ds vs
  | .tbl n q => a = K.κ n ∧ ∃ ps : Array Value, H a = some (.tbl ps) ∧ TriplesOk ps.toList ∧ ∀ (pos : Pos) (cv : Value), codeAmong pos ps.toList = some cv → ∃ c, cv = .ref c ∧ F c = some (LamX.CodeO c q)
theorem CellAt.some {K : Kt} {ρ : List Addr} {F H : Hp} {a : Addr} : ∀ {c : Cell}, CellAt K ρ F H a c → ∃ o, H a = some o
  | .lst _, ⟨_, h, _⟩ => ⟨_, h⟩
  | .dk _ _, ⟨_, h, _⟩ => ⟨_, h⟩
  | .ins _ _ _, ⟨_, _, h, _⟩ => ⟨_, h⟩
  | .tbl _ _, ⟨_, _, h, _⟩ => ⟨_, h⟩
theorem CellAt.ext {K : Kt} {ρ ρ' : List Addr} {F F' H H' : Hp} {a : Addr} (x : Ext ρ F ρ' F') (e : H' a = H a) : ∀ {c : Cell}, CellAt K ρ F H a c → CellAt K ρ' F' H' a c
  | .lst _, ⟨_, h, r⟩ => ⟨_, e.trans h, r.ext x⟩
  | .dk _ _, ⟨_, h, l, r⟩ => ⟨_, e.trans h, l, r.ext x⟩
  | .ins _ _ _, ⟨_, _, h, l, r⟩ => ⟨_, _, e.trans h, l, r.ext x⟩
  | .tbl _ _, ⟨z, _, h, t, c⟩ => ⟨z, _, e.trans h, t, fun pos cv q => (c pos cv q).imp fun b ⟨w1, w2⟩ => ⟨w1, x.fz _ _ w2⟩⟩

/-- the entry of the def: the written part, the heap, what was frozen, the cells that were handed in -/
structure Gx where
  K : Kt
  H0 : Hp
  F0 : Hp
  A0 : List Addr

structure Rel (G : Gx) (ρ : List Addr) (F : Hp) (st : S) (σ : St) (H : Hp) : Prop where
  len : st.env.length = σ.length
  env : ∀ (i : Nat) (d : D), st.env[i]? = some (some d) → ∃ v : V, σ[i]? = some (some v) ∧ RV G.K ρ F d v
  cl : ρ.length = st.cs.length
  cell : ∀ (i : Nat) (c : Cell) (a : Addr), st.cs[i]? = some c → ρ[i]? = some a → CellAt G.K ρ F H a c
  nd : ρ.Nodup
  fz : Same F H
  sep : ∀ a ∈ ρ, F a = none
  fr : ∀ a o, G.H0 a = some o → a ∉ G.A0 → H a = some o
  own : ∀ a ∈ ρ, a ∈ G.A0 ∨ G.H0 a = none
  new : ∀ a o, F a = some o → G.F0 a = some o ∨ G.H0 a = none
  old : Same G.F0 F
  a0 : G.A0 <+: ρ

section
variable {G : Gx} {ρ ρ' : List Addr} {F F' : Hp} {st : S} {σ : St} {H H' : Hp}
theorem Rel.inρ (r : Rel G ρ F st σ H) {a : Addr} (h : a ∈ ρ) : ∃ o, H a = some o := by
  obtain ⟨i, hi, rfl⟩ := List.getElem_of_mem h
  have hc : i < st.cs.length := by rw [← r.cl]; exact hi
  exact (r.cell i st.cs[i] ρ[i] (List.getElem?_eq_getElem hc) (List.getElem?_eq_getElem hi)).some
theorem Rel.free (r : Rel G ρ F st σ H) {p : Addr} (h : H p = none) : p ∉ ρ := fun hm => by
  obtain ⟨o, e⟩ := r.inρ hm
  rw [h] at e; cases e
theorem Rel.free0 (r : Rel G ρ F st σ H) {p : Addr} (h : H p = none) : G.H0 p = none := by
  cases e : G.H0 p with
  | none => rfl
  | some o =>
    by_cases ha : p ∈ G.A0
    · exact absurd (r.a0.subset ha) (r.free h)
    · have := r.fr p o e ha
      rw [h] at this; cases this
theorem Rel.freeF (r : Rel G ρ F st σ H) {p : Addr} (h : H p = none) : F p = none := r.fz.free h
theorem same_upd' {H : Hp} {p : Addr} {o : HO} (h : H p = none) : Same H (upd H p o) := fun b x e => by
  rw [upd_ne (ne_of_none e h)]
  exact e
/-- something new that stays as it is -/
theorem Rel.fresh (r : Rel G ρ F st σ H) {p : Addr} {o : HO} (h : H p = none) : Ext ρ F ρ (upd F p o) ∧ Rel G ρ (upd F p o) st σ (upd H p o) := by
  have x : Ext ρ F ρ (upd F p o) := ⟨List.prefix_refl _, same_upd' (r.freeF h)⟩
  have hne : ∀ a ∈ ρ, a ≠ p := fun a ha e => r.free h (e ▸ ha)
  refine ⟨x, ⟨r.len, fun i d e => ?_, r.cl, fun i c a e1 e2 => ?_, r.nd, fun b u e => ?_, fun a ha => ?_, fun a u e1 e2 => ?_, r.own, fun a u e => ?_, r.old.trans x.fz, r.a0⟩⟩
  · obtain ⟨v, e1, e2⟩ := r.env i d e
    exact ⟨v, e1, e2.ext x⟩
  · exact (r.cell i c a e1 e2).ext x (upd_ne (hne a (List.mem_of_getElem? e2)))
  · by_cases hb : b = p
    · subst hb
      rw [upd_same] at e ⊢
      exact e
    · rw [upd_ne hb] at e ⊢
      exact r.fz b u e
  · rw [upd_ne (hne a ha)]
    exact r.sep a ha
  · rw [upd_ne (fun z => by rw [z, r.free0 h] at e1; cases e1)]
    exact r.fr a u e1 e2
  · by_cases hb : a = p
    · subst hb
      exact .inr (r.free0 h)
    · rw [upd_ne hb] at e
      exact r.new a u e
/-- a new own cell -/
theorem Rel.cellNew (r : Rel G ρ F st σ H) {p : Addr} {o : HO} {c : Cell} (h : H p = none) (hc : CellAt G.K (ρ ++ [p]) F (upd H p o) p c) : Ext ρ F (ρ ++ [p]) F ∧ Rel G (ρ ++ [p]) F ⟨st.env, st.cs ++ [c]⟩ σ (upd H p o) := by
  have x : Ext ρ F (ρ ++ [p]) F := ⟨List.prefix_append _ _, Same.refl _⟩
  have hne : ∀ a ∈ ρ, a ≠ p := fun a ha e => r.free h (e ▸ ha)
  refine ⟨x, ⟨r.len, fun i d e => ?_, ?_, fun i c' a e1 e2 => ?_, ?_, fun b u e => ?_, fun a ha => ?_, fun a u e1 e2 => ?_, fun a ha => ?_, r.new, r.old, r.a0.trans x.pre⟩⟩
  · obtain ⟨v, e1, e2⟩ := r.env i d e
    exact ⟨v, e1, e2.ext x⟩
  · show (ρ ++ [p]).length = (st.cs ++ [c]).length
    rw [List.length_append, List.length_append, r.cl]; rfl
  · by_cases hi : i < ρ.length
    · rw [List.getElem?_append_left hi] at e2
      rw [show (S.mk st.env (st.cs ++ [c])).cs = st.cs ++ [c] from rfl, List.getElem?_append_left (by rw [← r.cl]; exact hi)] at e1
      exact (r.cell i c' a e1 e2).ext x (upd_ne (hne a (List.mem_of_getElem? e2)))
    · have hi2 : i = ρ.length := by
        have := (List.getElem?_eq_some_iff.mp e2).1
        rw [List.length_append] at this
        have : i < ρ.length + 1 := this
        omega
      subst hi2
      have f2 : p = a := by
        rw [List.getElem?_append_right (Nat.le_refl _), Nat.sub_self] at e2
        exact Option.some.inj e2
      have f1 : c = c' := by
        rw [show (S.mk st.env (st.cs ++ [c])).cs = st.cs ++ [c] from rfl, List.getElem?_append_right (by rw [r.cl]; exact Nat.le_refl _), r.cl, Nat.sub_self] at e1
        exact Option.some.inj e1
      subst f1 f2
      exact hc
  · refine List.nodup_append.mpr ⟨r.nd, List.nodup_cons.mpr ⟨List.not_mem_nil, List.nodup_nil⟩, fun a ha b hb => ?_⟩
    rw [List.mem_singleton.mp hb]
    exact hne a ha
  · rw [upd_ne (ne_of_none (r.fz b u e) h)]
    exact r.fz b u e
  · rcases List.mem_append.mp ha with ha | ha
    · exact r.sep a ha
    · rw [List.mem_singleton.mp ha]
      exact r.freeF h
  · rw [upd_ne (fun z => by rw [z, r.free0 h] at e1; cases e1)]
    exact r.fr a u e1 e2
  · rcases List.mem_append.mp ha with ha | ha
    · exact r.own a ha
    · rw [List.mem_singleton.mp ha]
      exact .inr (r.free0 h)
/-- an own cell is changed -/
theorem Rel.cellSet (r : Rel G ρ F st σ H) {n : Nat} {a : Addr} {o : HO} {c : Cell} (ha : ρ[n]? = some a) (hc : CellAt G.K ρ F (upd H a o) a c) : Rel G ρ F ⟨st.env, st.cs.set n c⟩ σ (upd H a o) := by
  have hm : a ∈ ρ := List.mem_of_getElem? ha
  refine ⟨r.len, r.env, ?_, fun i c' b e1 e2 => ?_, r.nd, fun b u e => ?_, r.sep, fun b u e1 e2 => ?_, r.own, r.new, r.old, r.a0⟩
  · show ρ.length = (st.cs.set n c).length
    rw [List.length_set, r.cl]
  · by_cases hi : i = n
    · subst hi
      rw [ha] at e2
      cases e2
      have hl : i < st.cs.length := by rw [← r.cl]; exact (List.getElem?_eq_some_iff.mp ha).1
      rw [show (S.mk st.env (st.cs.set i c)).cs = st.cs.set i c from rfl, List.getElem?_set_self hl] at e1
      cases e1
      exact hc
    · rw [show (S.mk st.env (st.cs.set n c)).cs = st.cs.set n c from rfl, List.getElem?_set_ne (fun z => hi z.symm)] at e1
      have hb : b ≠ a := fun z => by
        subst z
        obtain ⟨h1, h1'⟩ := List.getElem?_eq_some_iff.mp e2
        obtain ⟨h2, h2'⟩ := List.getElem?_eq_some_iff.mp ha
        exact hi ((List.getElem_inj r.nd).mp (h1'.trans h2'.symm))
      exact (r.cell i c' b e1 e2).ext Ext.refl (upd_ne hb)
  · rw [upd_ne (fun z => by rw [z, r.sep a hm] at e; cases e)]
    exact r.fz b u e
  · have hb : b ≠ a := fun z => by
      subst z
      rcases r.own b hm with q | q
      · exact e2 q
      · rw [q] at e1; cases e1
    rw [upd_ne hb]
    exact r.fr b u e1 e2
/-- a slot is set -/
theorem Rel.slot (r : Rel G ρ F st σ H) {i : Nat} {d : D} {v : V} (h : RV G.K ρ F d v) : Rel G ρ F ⟨st.env.set i (some d), st.cs⟩ (σ.set i (some v)) H := by
  refine ⟨?_, fun j e h2 => ?_, r.cl, r.cell, r.nd, r.fz, r.sep, r.fr, r.own, r.new, r.old, r.a0⟩
  · show (st.env.set i (some d)).length = _
    rw [List.length_set, List.length_set, r.len]
  · by_cases hj : i = j
    · subst hj
      have hl : i < st.env.length := by
        have := (List.getElem?_eq_some_iff.mp h2).1
        rw [show (S.mk (st.env.set i (some d)) st.cs).env = st.env.set i (some d) from rfl, List.length_set] at this
        exact this
      rw [show (S.mk (st.env.set i (some d)) st.cs).env = st.env.set i (some d) from rfl, List.getElem?_set_self hl] at h2
      cases h2
      exact ⟨v, List.getElem?_set_self (by rw [← r.len]; exact hl), h⟩
    · rw [show (S.mk (st.env.set i (some d)) st.cs).env = st.env.set i (some d) from rfl, List.getElem?_set_ne hj] at h2
      obtain ⟨u, e1, e2⟩ := r.env j e h2
      exact ⟨u, by rw [List.getElem?_set_ne hj]; exact e1, e2⟩
/-- slots are forgotten -/
theorem Rel.forget (r : Rel G ρ F st σ H) {env' : List (Option D)} (hl : env'.length = st.env.length) (h : ∀ (i : Nat) (d : D), env'[i]? = some (some d) → st.env[i]? = some (some d)) : Rel G ρ F ⟨env', st.cs⟩ σ H :=
  ⟨hl.trans r.len, fun i d e => r.env i d (h i d e), r.cl, r.cell, r.nd, r.fz, r.sep, r.fr, r.own, r.new, r.old, r.a0⟩
end

/-! ### results and readings -/
inductive Out (α : Type) where
  | ok (a : α) (cs : List Cell)
  | ex (e : Exn) (cs : List Cell)
  | no
def Out.bind {α β : Type} : Out α → (α → List Cell → Out β) → Out β
  | .ok a cs, k => k a cs
  | .ex e cs, _ => .ex e cs
  | .no, _ => .no
/-- an exception e stands as the class cls with the own dict d -/
def XAt (K : Kt) (ρ : List Addr) (F : Hp) (e : Exn) (cls : Value) (d : Option Addr) : Prop :=
  cls = .ref (K.κ e.C) ∧ ∃ x vs, d = some x ∧ F x = some (.xd (e.ks.zip vs)) ∧ e.ks.length = vs.length ∧ RVs K ρ F e.ds vs
section
variable {α β γ δ : Type}
def Post (R : Kt → List Addr → Hp → α → β → Prop) (G : Gx) (W : WX) (ρ : List Addr) (F : Hp) (env : List (Option D)) (σ : St) (Q : β → Hp → Prop) : Out α → Prop
  | .ok d cs => ∀ ρ' F' H' v, Ext ρ F ρ' F' → Rel G ρ' F' ⟨env, cs⟩ σ H' → R G.K ρ' F' d v → Q v H'
  | .ex e cs => ∀ ρ' F' H' cls dx, Ext ρ F ρ' F' → Rel G ρ' F' ⟨env, cs⟩ σ H' → XAt G.K ρ' F' e cls dx → W cls dx σ H'
  | .no => False
def tX (R : Kt → List Addr → Hp → α → β → Prop) (G : Gx) (W : WX) (f : S → Out α) (σ : St) (H : Hp) (Q : β → Hp → Prop) : Prop :=
  ∃ ρ F st, Rel G ρ F st σ H ∧ Post R G W ρ F st.env σ Q (f st)
theorem Post.ext {R : Kt → List Addr → Hp → α → β → Prop} {G : Gx} {W : WX} {ρ ρ' : List Addr} {F F' : Hp} {env : List (Option D)} {σ : St} {Q : β → Hp → Prop} (x : Ext ρ F ρ' F') : ∀ {o : Out α}, Post R G W ρ F env σ Q o → Post R G W ρ' F' env σ Q o
  | .ok _ _, h => fun ρ2 F2 H2 v y r rv => h ρ2 F2 H2 v (x.trans y) r rv
  | .ex _ _, h => fun ρ2 F2 H2 c d y r rv => h ρ2 F2 H2 c d (x.trans y) r rv
  | .no, h => h
theorem seqX {R : Kt → List Addr → Hp → α → β → Prop} {R' : Kt → List Addr → Hp → γ → δ → Prop} {G : Gx} {W : WX} {ρ : List Addr} {F : Hp} {st : S} {σ : St} {H : Hp} {f : S → Out α} {k : α → List Cell → Out γ} {Q : δ → Hp → Prop} {Q' : β → Hp → Prop}
    (r : Rel G ρ F st σ H) (p : Post R' G W ρ F st.env σ Q ((f st).bind k))
    (h : ∀ ρ' F' H' a cs v, Ext ρ F ρ' F' → Rel G ρ' F' ⟨st.env, cs⟩ σ H' → R G.K ρ' F' a v → Post R' G W ρ' F' st.env σ Q (k a cs) → Q' v H') : tX R G W f σ H Q' := by
  refine ⟨ρ, F, st, r, ?_⟩
  cases e : f st with
  | ok a cs =>
    rw [e] at p
    exact fun ρ' F' H' v x r' rv => h ρ' F' H' a cs v x r' rv (Post.ext x p)
  | ex e' cs =>
    rw [e] at p
    exact p
  | no =>
    rw [e] at p
    exact p
theorem Post.here {R : Kt → List Addr → Hp → α → β → Prop} {G : Gx} {W : WX} {ρ : List Addr} {F : Hp} {st : S} {σ : St} {H : Hp} {Q : β → Hp → Prop} {d : α} {cs : List Cell} {v : β}
    (p : Post R G W ρ F st.env σ Q (.ok d cs)) (r : Rel G ρ F ⟨st.env, cs⟩ σ H) (h : R G.K ρ F d v) : Q v H := p ρ F H v Ext.refl r h
end
abbrev Ex := S → Out D
abbrev tE := @tX D V RV
abbrev tAs := @tX (List D) (List V) RVs
def RB (_ : Kt) (_ : List Addr) (_ : Hp) (a b : Bool) : Prop := a = b
abbrev tTs := @tX Bool Bool RB
theorem _root_.L2.PE.impV {X : Cx} {e : Expr} {t t' : TE} (h : PE X e t) (m : ∀ σ H Q, t' σ H Q → t σ H Q) : PE X e t' := ⟨fun pins s σ H Q I hw => h.run pins s σ H Q I (m _ _ _ hw)⟩
theorem _root_.L2.PT.impV {X : Cx} {e : Expr} {t t' : TT} (h : PT X e t) (m : ∀ σ H Q, t' σ H Q → t σ H Q) : PT X e t' := ⟨fun pins s σ H Q I hw => h.run pins s σ H Q I (m _ _ _ hw)⟩
theorem _root_.L2.PA.impV {X : Cx} {e : List Expr} {t t' : TA} (h : PA X e t) (m : ∀ σ H Q, t' σ H Q → t σ H Q) : PA X e t' := ⟨fun pos pins s σ H Q I hw => h.run pos pins s σ H Q I (m _ _ _ hw)⟩
theorem _root_.L2.PS.impV {X : Cx} {e : Stmt} {t t' : TS} (h : PS X e t) (m : ∀ D σ H, t' D σ H → t D σ H) : PS X e t' := ⟨fun pins s σ H D I hw => h.run pins s σ H D I (m _ _ _ hw)⟩
theorem _root_.L2.PSs.impV {X : Cx} {e : List Stmt} {t t' : TS} (h : PSs X e t) (m : ∀ D σ H, t' D σ H → t D σ H) : PSs X e t' := ⟨fun pins s σ H D I hw => h.run pins s σ H D I (m _ _ _ hw)⟩
end VL

namespace VL
open PySem L2

/-! ### lists of related values -/
section
variable {K : Kt} {ρ : List Addr} {F : Hp}
theorem RVs.length : ∀ {ds : List D} {vs : List V}, RVs K ρ F ds vs → ds.length = vs.length
  | _, _, .nil => rfl
  | _, _, .cons _ r => congrArg (· + 1) (RVs.length r)
theorem RVs.get : ∀ {ds : List D} {vs : List V} {i : Nat} {d : D}, RVs K ρ F ds vs → ds[i]? = some d → ∃ v, vs[i]? = some v ∧ RV K ρ F d v
  | _, _, _, _, .nil, e => by simp at e
  | _, _, 0, _, .cons h _, e => by
    simp only [List.getElem?_cons_zero, Option.some.injEq] at e
    subst e
    exact ⟨_, rfl, h⟩
  | _, _, i + 1, _, .cons _ r, e => by
    simp only [List.getElem?_cons_succ] at e ⊢
    exact RVs.get r e
theorem RVs.getV : ∀ {ds : List D} {vs : List V} {i : Nat} {v : V}, RVs K ρ F ds vs → vs[i]? = some v → ∃ d, ds[i]? = some d ∧ RV K ρ F d v
  | _, _, _, _, .nil, e => by simp at e
  | _, _, 0, _, .cons h _, e => by
    simp only [List.getElem?_cons_zero, Option.some.injEq] at e
    subst e
    exact ⟨_, rfl, h⟩
  | _, _, i + 1, _, .cons _ r, e => by
    simp only [List.getElem?_cons_succ] at e ⊢
    exact RVs.getV r e
theorem RVs.append : ∀ {ds es : List D} {vs ws : List V}, RVs K ρ F ds vs → RVs K ρ F es ws → RVs K ρ F (ds ++ es) (vs ++ ws)
  | _, _, _, _, .nil, s => s
  | _, _, _, _, .cons h r, s => .cons h (RVs.append r s)
theorem RVs.take : ∀ {ds : List D} {vs : List V} (n : Nat), RVs K ρ F ds vs → RVs K ρ F (ds.take n) (vs.take n)
  | _, _, 0, _ => .nil
  | _, _, _ + 1, .nil => .nil
  | _, _, n + 1, .cons h r => .cons h (RVs.take n r)
theorem RVs.drop : ∀ {ds : List D} {vs : List V} (n : Nat), RVs K ρ F ds vs → RVs K ρ F (ds.drop n) (vs.drop n)
  | _, _, 0, r => r
  | _, _, _ + 1, .nil => .nil
  | _, _, n + 1, .cons _ r => RVs.drop n r
theorem RVs.set {d : D} {v : V} (h : RV K ρ F d v) : ∀ {ds : List D} {vs : List V} (n : Nat), RVs K ρ F ds vs → RVs K ρ F (ds.set n d) (vs.set n v)
  | _, _, _, .nil => .nil
  | _, _, 0, .cons _ r => .cons h r
  | _, _, n + 1, .cons q r => .cons q (RVs.set h n r)
theorem RVs.reverse : ∀ {ds : List D} {vs : List V}, RVs K ρ F ds vs → RVs K ρ F ds.reverse vs.reverse
  | _, _, .nil => .nil
  | _, _, .cons h r => by
    rw [List.reverse_cons, List.reverse_cons]
    exact RVs.append (RVs.reverse r) (.cons h .nil)
theorem RVs.one {d : D} {v : V} (h : RV K ρ F d v) : RVs K ρ F [d] [v] := .cons h .nil
end

/-! ### what a sequence holds -/
def lstOf (cs : List Cell) : D → Option (List D)
  | .lst ds => some ds
  | .frl ds => some ds
  | .loc n => match cs[n]? with
    | some (.lst ds) => some ds
    | _ => none
  | _ => none
def tupOf : D → Option (List D)
  | .tup ds => some ds
  | _ => none
def seqOf (cs : List Cell) (d : D) : Option (List D) := match d with
  | .tup ds => some ds
  | .btp ds => some ds
  | d => lstOf cs d
section
variable {G : Gx} {ρ : List Addr} {F : Hp} {st : S} {σ : St} {H : Hp} {x : D} {v : V} {ds : List D}
theorem Rel.at (r : Rel G ρ F st σ H) {n : Nat} {c : Cell} {v : V} (h : RV G.K ρ F (.loc n) v) (e : st.cs[n]? = some c) : ∃ a, v = .ref a ∧ ρ[n]? = some a ∧ CellAt G.K ρ F H a c := by
  cases h with
  | loc h => exact ⟨_, rfl, h, r.cell n c _ e h⟩
theorem lst_read (r : Rel G ρ F st σ H) (h : RV G.K ρ F x v) (e : lstOf st.cs x = some ds) : ∃ a vs, v = .ref a ∧ SqL G.K.K H a vs ∧ RVs G.K ρ F ds vs := by
  cases h with
  | lst h1 h2 =>
    cases e
    exact ⟨_, _, rfl, SqL.of (r.fz _ _ h1), h2⟩
  | frl h1 h2 =>
    cases e
    exact ⟨_, _, rfl, r.fz.seq h1, h2⟩
  | loc h1 =>
    rename_i n a
    have e : (match st.cs[n]? with
      | some (.lst ds) => some ds
      | _ => none) = some ds := e
    cases q : st.cs[n]? with
    | none => rw [q] at e; cases e
    | some c =>
      rw [q] at e
      cases c with
      | lst es =>
        cases e
        obtain ⟨vs, h2, h3⟩ := r.cell n _ _ q h1
        exact ⟨_, _, rfl, SqL.of h2, h3⟩
      | _ => cases e
  | _ => cases e
theorem tup_read (r : Rel G ρ F st σ H) (h : RV G.K ρ F x v) (e : tupOf x = some ds) : ∃ a vs, v = .ref a ∧ SqT G.K.K H a vs ∧ RVs G.K ρ F ds vs := by
  cases h with
  | tup h1 h2 =>
    cases e
    exact ⟨_, _, rfl, sqT_same r.fz h1, h2⟩
  | _ => cases e
theorem seq_read (r : Rel G ρ F st σ H) (h : RV G.K ρ F x v) (e : seqOf st.cs x = some ds) : ∃ a vs, v = .ref a ∧ (SqL G.K.K H a vs ∨ SqT G.K.K H a vs) ∧ RVs G.K ρ F ds vs := by
  cases x with
  | tup es =>
    obtain ⟨a, vs, h1, h2, h3⟩ := tup_read r h (show tupOf (.tup es) = some ds from e)
    exact ⟨a, vs, h1, .inr h2, h3⟩
  | btp es =>
    cases e
    cases h with
    | btp h1 h2 h3 => exact ⟨_, _, rfl, .inr (.inl (.inr ⟨_, r.fz _ _ h1⟩)), h3⟩
  | _ =>
    obtain ⟨a, vs, h1, h2, h3⟩ := lst_read r h e
    exact ⟨a, vs, h1, .inl h2, h3⟩
end

/-! ### names and constants -/
section
variable {X : Cx} {G : Gx} {W : WX}
def eVar (i : Nat) : Ex := fun st => match st.env[i]? with
  | some (some d) => .ok d st.cs
  | _ => .no
theorem de_var {e : Expr} {i : Nat} (h : PE X e (tVar i)) : PE X e (tE G W (eVar i)) := h.impV fun σ H Q ⟨ρ, F, st, r, p⟩ => by
  unfold eVar at p
  cases q : st.env[i]? with
  | none => rw [q] at p; exact p.elim
  | some o =>
    rw [q] at p
    cases o with
    | none => exact p.elim
    | some d =>
      obtain ⟨v, e1, e2⟩ := r.env i d q
      exact ⟨v, e1, p.here r e2⟩
def eC (d : D) : Ex := fun st => .ok d st.cs
theorem de_c {e : Expr} {v : V} {d : D} (h : PE X e (tC v)) (hv : ∀ ρ F, RV G.K ρ F d v) : PE X e (tE G W (eC d)) := h.impV fun σ H Q ⟨ρ, F, st, r, p⟩ => p.here r (hv ρ F)
theorem de_int {i j pos} : PE X (.Constant (.int i) j pos) (tE G W (eC (.int i))) := de_c pe_int fun _ _ => .int _
theorem de_bl {b j pos} : PE X (.Constant (.bool b) j pos) (tE G W (eC (.bl b))) := de_c pe_bl fun _ _ => .bl _
theorem de_non {j pos} : PE X (.Constant .none j pos) (tE G W (eC .non)) := de_c pe_non fun _ _ => .non
theorem de_str {x j pos} : PE X (.Constant (.str x) j pos) (tE G W (eC (.str x))) := de_c pe_str fun _ _ => .str _

/-! ### operators -/
abbrev F2 := List Cell → D → D → Out D
abbrev F1 := List Cell → D → Out D
def V2 (G : Gx) (W : WX) (r : R2) (g : F2) : Prop := ∀ (ρ : List Addr) (F : Hp) (st : S) (σ : St) (H : Hp) (x y : D) (v w : V) (Q : VK), Rel G ρ F st σ H → RV G.K ρ F x v → RV G.K ρ F y w → Post RV G W ρ F st.env σ Q (g st.cs x y) → r v w H Q
def V1 (G : Gx) (W : WX) (r : V → Hp → VK → Prop) (g : F1) : Prop := ∀ (ρ : List Addr) (F : Hp) (st : S) (σ : St) (H : Hp) (x : D) (v : V) (Q : VK), Rel G ρ F st σ H → RV G.K ρ F x v → Post RV G W ρ F st.env σ Q (g st.cs x) → r v H Q
def eOp (g : F2) (fa fb : Ex) : Ex := fun st => (fa st).bind fun x c1 => (fb ⟨st.env, c1⟩).bind fun y c2 => g c2 x y
def eUn (g : F1) (fa : Ex) : Ex := fun st => (fa st).bind fun x c1 => g c1 x
variable {a b : Expr} {fa fb : Ex} {pos : Pos}
theorem tOp_of {r : R2} {g : F2} (hv : V2 G W r g) : ∀ σ H Q, tE G W (eOp g fa fb) σ H Q → tOp r (tE G W fa) (tE G W fb) σ H Q := fun σ H Q ⟨ρ, F, st, r, p⟩ =>
  seqX r p fun ρ1 F1 H1 x c1 v x1 r1 rv1 p1 => seqX (st := ⟨st.env, c1⟩) r1 p1 fun ρ2 F2 H2 y c2 w x2 r2 rv2 p2 => hv ρ2 F2 ⟨st.env, c2⟩ σ H2 x y v w Q r2 (rv1.ext x2) rv2 p2
theorem de_op {op : Operator} {r : R2} {g : F2} (ho : OpR X (binaryOp op) r) (hv : V2 G W r g) (ha : PE X a (tE G W fa)) (hb : PE X b (tE G W fb)) : PE X (.BinOp a op b pos) (tE G W (eOp g fa fb)) :=
  (pe_op ho ha hb).impV (tOp_of hv)
theorem de_cmp {op : CmpOp} {r : R2} {g : F2} (ho : OpR X (compareOp op) r) (hv : V2 G W r g) (ha : PE X a (tE G W fa)) (hb : PE X b (tE G W fb)) (hm : behindInMarks op b = false) : PE X (.Compare a [op] [b] pos) (tE G W (eOp g fa fb)) :=
  (pe_cmpR ho ha hb hm).impV (tOp_of hv)
theorem de_un {op : UnaryOp} {r : V → Hp → VK → Prop} {g : F1} (ho : UnR X (unaryOp op) r) (hv : V1 G W r g) (ha : PE X a (tE G W fa)) : PE X (.UnaryOp op a pos) (tE G W (eUn g fa)) :=
  (pe_un ho ha).impV fun σ H Q ⟨ρ, F, st, r, p⟩ => seqX r p fun ρ1 F1 H1 x c1 v x1 r1 rv1 p1 => hv ρ1 F1 ⟨st.env, c1⟩ σ H1 x v Q r1 rv1 p1
end
end VL

namespace VL
open PySem L2
section
variable {X : Cx} {G : Gx} {W : WX} {a b : Expr} {fa fb : Ex} {pos : Pos}
/-! ### arithmetic -/
def gInt (C : Int → Int → Bool) (g : Int → Int → Int) : F2 := fun cs x y => match x, y with
  | .int i, .int j => if C i j then .ok (.int (g i j)) cs else .no
  | _, _ => .no
theorem v2_int {C : Int → Int → Bool} {C' : Int → Int → Prop} {g : Int → Int → Int} (h : ∀ i j, C i j = true → C' i j) : V2 G W (rI C' fun i j => .int (g i j)) (gInt C g) := by
  intro ρ F st σ H x y v w Q r h1 h2 p
  unfold gInt at p
  split at p
  case h_2 => exact p.elim
  cases h1; cases h2
  rename_i i j
  by_cases c : C i j = true
  · simp only [c, if_true] at p
    exact ⟨i, j, rfl, rfl, h i j c, p.here r (.int _)⟩
  · simp only [c, if_false] at p
    exact p.elim
def gSub : F2 := gInt (fun _ _ => true) fun i j => i - j
theorem v2_sub : V2 G W (rI (fun _ _ => True) fun i j => .int (i - j)) gSub := v2_int fun _ _ _ => trivial
theorem op_sub' : OpR X (binaryOp .Sub) (rI (fun _ _ => True) fun i j => .int (i - j)) := fun pins s σ H x y v u Q I rx ry ⟨i, j, e1, e2, _, q⟩ => op_sub pins s σ H x y v u Q I rx ry ⟨i, j, e1, e2, q⟩
theorem de_sub (ha : PE X a (tE G W fa)) (hb : PE X b (tE G W fb)) : PE X (.BinOp a .Sub b pos) (tE G W (eOp gSub fa fb)) := de_op op_sub' v2_sub ha hb
def cMul (i j : Int) : Bool := decide (-(2 ^ 64) < i) && decide (i < 2 ^ 64) || decide (-(2 ^ 64) < j) && decide (j < 2 ^ 64)
def cDiv (_ j : Int) : Bool := decide (0 < j) && decide (j < 1073741824)
def cMod (_ j : Int) : Bool := decide (0 < j)
def cPow (i j : Int) : Bool := decide (0 ≤ j) && decide (j ≤ 1000000) && decide (i.natAbs < 2 ^ 64)
def gFdiv : F2 := gInt cDiv fun i j => i / j
theorem de_fdiv (ha : PE X a (tE G W fa)) (hb : PE X b (tE G W fb)) : PE X (.BinOp a .FloorDiv b pos) (tE G W (eOp gFdiv fa fb)) :=
  de_op op_fdiv (v2_int fun i j c => by simpa [cDiv, CDiv] using c) ha hb
def gPow : F2 := gInt cPow fun i j => i ^ j.toNat
theorem de_pow (ha : PE X a (tE G W fa)) (hb : PE X b (tE G W fb)) : PE X (.BinOp a .Pow b pos) (tE G W (eOp gPow fa fb)) :=
  de_op op_pow (v2_int fun i j c => by
    simp only [cPow, Bool.and_eq_true, decide_eq_true_eq] at c
    exact ⟨c.1.1, c.1.2, c.2⟩) ha hb
def gMod : F2 := gInt cMod fun i j => i % j
theorem de_mod (ha : PE X a (tE G W fa)) (hb : PE X b (tE G W fb)) : PE X (.BinOp a .Mod b pos) (tE G W (eOp gMod fa fb)) :=
  de_op op_mod (v2_int fun i j c => by simpa [cMod] using c) ha hb
def gNeg : F1 := fun cs x => match x with
  | .int i => .ok (.int (-i)) cs
  | _ => .no
theorem de_neg (ha : PE X a (tE G W fa)) : PE X (.UnaryOp .USub a pos) (tE G W (eUn gNeg fa)) := de_un un_neg (by
  intro ρ F st σ H x v Q r h1 p
  cases h1 <;> try exact p.elim
  exact ⟨_, rfl, p.here r (.int _)⟩) ha

/-! ### + and * of anything -/
/-- a list of one's own making -/
def ownOf (cs : List Cell) : D → Option (List D)
  | .lst ds => some ds
  | .loc n => match cs[n]? with
    | some (.lst ds) => some ds
    | _ => none
  | _ => none
theorem own_read {ρ : List Addr} {F : Hp} {st : S} {σ : St} {H : Hp} {x : D} {v : V} {ds : List D} (r : Rel G ρ F st σ H) (h : RV G.K ρ F x v) (e : ownOf st.cs x = some ds) : ∃ a vs, v = .ref a ∧ H a = some (.lst vs) ∧ RVs G.K ρ F ds vs := by
  cases h with
  | lst h1 h2 =>
    cases e
    exact ⟨_, _, rfl, r.fz _ _ h1, h2⟩
  | loc h1 =>
    rename_i n a
    have e : (match st.cs[n]? with
      | some (.lst ds) => some ds
      | _ => none) = some ds := e
    cases q : st.cs[n]? with
    | none => rw [q] at e; cases e
    | some c =>
      rw [q] at e
      cases c with
      | lst es =>
        cases e
        obtain ⟨vs, h2, h3⟩ := r.cell n _ _ q h1
        exact ⟨_, _, rfl, h2, h3⟩
      | _ => cases e
  | _ => cases e
def gCatL : F2 := fun cs x y => match ownOf cs x, ownOf cs y with
  | some xs, some ys => if xs.length + ys.length ≤ 16777216 then .ok (.lst (xs ++ ys)) cs else .no
  | _, _ => .no
def gAdd : F2 := fun cs x y => match x, y with
  | .int i, .int j => .ok (.int (i + j)) cs
  | .str i, .str j => if i.length + j.length ≤ 16777216 then .ok (.str (i ++ j)) cs else .no
  | .tup xs, .tup ys => if xs.length + ys.length ≤ 16777216 then .ok (.tup (xs ++ ys)) cs else .no
  | x, y => gCatL cs x y
theorem line_of {n : Nat} (h : n ≤ 16777216) : n ≤ sizeLine := by rw [sizeLine_eq]; exact h
theorem catL_of {ρ : List Addr} {F : Hp} {st : S} {σ : St} {H : Hp} {x y : D} {v w : V} {Q : VK} (r : Rel G ρ F st σ H) (h1 : RV G.K ρ F x v) (h2 : RV G.K ρ F y w) (p : Post RV G W ρ F st.env σ Q (gCatL st.cs x y)) : rCat v w H Q := by
  unfold gCatL at p
  cases e1 : ownOf st.cs x with
  | none => simp only [e1] at p; exact p.elim
  | some xs =>
    cases e2 : ownOf st.cs y with
    | none => simp only [e1, e2] at p; exact p.elim
    | some ys =>
      simp only [e1, e2] at p
      obtain ⟨a1, vs, rfl, s1, r1⟩ := own_read r h1 e1
      obtain ⟨a2, ws, rfl, s2, r2⟩ := own_read r h2 e2
      by_cases c : xs.length + ys.length ≤ 16777216
      · simp only [c, if_true] at p
        refine ⟨a1, a2, vs, ws, rfl, rfl, s1, s2, line_of (by rw [← r1.length, ← r2.length]; exact c), fun q hq => ?_⟩
        obtain ⟨x1, r3⟩ := r.fresh (o := .lst (vs ++ ws)) hq
        exact p _ _ _ _ x1 r3 (.lst upd_same ((r1.append r2).ext x1))
      · simp only [c, if_false] at p
        exact p.elim
def rAddA (K : PySem.W.Frag) : R2 := fun x y H Q => (rI0 (fun i j => .int (i + j)) x y H Q ∨ (∃ i j, x = .str i ∧ y = .str j ∧ i.length + j.length ≤ sizeLine ∧ Q (.str (i ++ j)) H)) ∨ (rCatA K x y H Q ∨ rCat x y H Q)
theorem op_addA : OpR X (binaryOp .Add) (rAddA X.K) := (op_add.or op_add_str).or (op_catA.or op_cat)
theorem v2_add : V2 G W (rAddA G.K.K) gAdd := by
  intro ρ F st σ H x y v w Q r h1 h2 p
  unfold gAdd at p
  split at p
  · cases h1; cases h2
    exact .inl (.inl ⟨_, _, rfl, rfl, p.here r (.int _)⟩)
  · cases h1; cases h2
    rename_i i j
    by_cases c : i.length + j.length ≤ 16777216
    · simp only [c, if_true] at p
      exact .inl (.inr ⟨_, _, rfl, rfl, line_of c, p.here r (.str _)⟩)
    · simp only [c, if_false] at p
      exact p.elim
  · rename_i xs ys
    by_cases c : xs.length + ys.length ≤ 16777216
    · simp only [c, if_true] at p
      obtain ⟨a1, vs, rfl, s1, r1⟩ := tup_read r h1 rfl
      obtain ⟨a2, ws, rfl, s2, r2⟩ := tup_read r h2 rfl
      refine .inr (.inl ⟨a1, a2, vs, ws, rfl, rfl, s1, s2, line_of (by rw [← r1.length, ← r2.length]; exact c), fun e => ?_, fun _ e => ?_, fun _ _ q hq => ?_⟩)
      · subst e
        cases r1
        exact p.here r h2
      · subst e
        cases r2
        rw [List.append_nil] at p
        exact p.here r h1
      · obtain ⟨x1, r3⟩ := r.fresh (o := .tup (vs ++ ws)) hq
        exact p _ _ _ _ x1 r3 (.tup (SqT.of upd_same) ((r1.append r2).ext x1))
    · simp only [c, if_false] at p
      exact p.elim
  · exact .inr (.inr (catL_of r h1 h2 p))
theorem de_add (hK : X.K = G.K.K) (ha : PE X a (tE G W fa)) (hb : PE X b (tE G W fb)) : PE X (.BinOp a .Add b pos) (tE G W (eOp gAdd fa fb)) := de_op op_addA (by rw [hK]; exact v2_add) ha hb
def gMul : F2 := fun cs x y => match x, y with
  | .int i, .int j => if cMul i j then .ok (.int (i * j)) cs else .no
  | x, .int k => match ownOf cs x with
    | some xs => if 0 ≤ k ∧ k ≤ 16777216 ∧ xs.length * k.toNat ≤ 16777216 then .ok (.lst (List.replicate k.toNat xs).flatten) cs else .no
    | none => .no
  | _, _ => .no
theorem RVs.rep {K : Kt} {ρ : List Addr} {F : Hp} {ds : List D} {vs : List V} (h : RVs K ρ F ds vs) : ∀ n : Nat, RVs K ρ F (List.replicate n ds).flatten (List.replicate n vs).flatten
  | 0 => .nil
  | n + 1 => by
    rw [List.replicate_succ, List.replicate_succ, List.flatten_cons, List.flatten_cons]
    exact h.append (RVs.rep h n)
theorem v2_mul : V2 G W (fun x y H Q => rI CMul (fun i j => .int (i * j)) x y H Q ∨ rRep x y H Q) gMul := by
  intro ρ F st σ H x y v w Q r h1 h2 p
  unfold gMul at p
  split at p
  · cases h1; cases h2
    rename_i i j
    by_cases c : cMul i j = true
    · simp only [c, if_true] at p
      refine .inl ⟨_, _, rfl, rfl, ?_, p.here r (.int _)⟩
      simp only [cMul, Bool.or_eq_true, Bool.and_eq_true, decide_eq_true_eq] at c
      exact c
    · simp only [c, if_false] at p
      exact p.elim
  · rename_i k _
    cases h2
    cases e1 : ownOf st.cs x with
    | none => simp only [e1] at p; exact p.elim
    | some xs =>
      simp only [e1] at p
      obtain ⟨a1, vs, rfl, s1, r1⟩ := own_read r h1 e1
      by_cases c : 0 ≤ k ∧ k ≤ 16777216 ∧ xs.length * k.toNat ≤ 16777216
      · simp only [c, if_true] at p
        refine .inr ⟨a1, k, vs, rfl, rfl, s1, by omega, by omega, line_of (by rw [← r1.length]; exact c.2.2), fun q hq => ?_⟩
        obtain ⟨x1, r3⟩ := r.fresh (o := .lst (List.replicate k.toNat vs).flatten) hq
        exact p _ _ _ _ x1 r3 (.lst upd_same ((r1.rep k.toNat).ext x1))
      · simp only [c, if_false] at p
        exact p.elim
  · exact p.elim
theorem de_mul (ha : PE X a (tE G W fa)) (hb : PE X b (tE G W fb)) : PE X (.BinOp a .Mult b pos) (tE G W (eOp gMul fa fb)) := de_op (op_mul.or op_rep) v2_mul ha hb

/-! ### deep == -/
mutual
def py : D → PyData
  | .non => .none
  | .bl b => .bool b
  | .int i => .int i
  | .str x => .str x
  | .tup ds => .tuple (pys ds)
  | .lst ds => .list (pys ds)
  | .frl ds => .list (pys ds)
  | .obj _ _ _ => .none
  | .dct _ _ => .none
  | .btp ds => .tuple (pys ds)
  | .cls _ => .none
  | .loc _ => .none
def pys : List D → List PyData
  | [] => []
  | d :: r => py d :: pys r
end
mutual
def plain : D → Bool
  | .non => true
  | .bl _ => true
  | .int _ => true
  | .str _ => true
  | .tup ds => plains ds
  | .lst ds => plains ds
  | .frl ds => plains ds
  | .obj _ _ _ => false
  | .dct _ _ => false
  | .btp ds => plains ds
  | .cls _ => false
  | .loc _ => false
def plains : List D → Bool
  | [] => true
  | d :: r => plain d && plains r
end
mutual
theorem dp_of {K : Kt} {ρ : List Addr} {F H : Hp} (s : Same F H) : ∀ {d : D} {v : V}, RV K ρ F d v → plain d = true → Dp K.K H v (py d)
  | _, _, .non, _ => .non
  | _, _, .bl b, _ => .bl b
  | _, _, .int i, _ => .int i
  | _, _, .str x, _ => .str x
  | _, _, .tup h r, e => .tup (sqT_same s h) (dps_of s r (by simpa [plain] using e))
  | _, _, .lst h r, e => .lst (SqL.of (s _ _ h)) (dps_of s r (by simpa [plain] using e))
  | _, _, .frl h r, e => .lst (s.seq h) (dps_of s r (by simpa [plain] using e))
  | _, _, .btp h _ r, e => .tup (.inl (.inr ⟨_, s _ _ h⟩)) (dps_of s r (by simpa [plain] using e))
  | _, _, .cls _, e => by simp [plain] at e
theorem dps_of {K : Kt} {ρ : List Addr} {F H : Hp} (s : Same F H) : ∀ {ds : List D} {vs : List V}, RVs K ρ F ds vs → plains ds = true → DpAll K.K H vs (pys ds)
  | _, _, .nil, _ => .nil
  | _, _, .cons h r, e => by
    simp only [plains, Bool.and_eq_true] at e
    exact .cons (dp_of s h e.1) (dps_of s r e.2)
end
/-- what stands there, a cell opened -/
def norm (cs : List Cell) : D → D
  | .loc n => match cs[n]? with
    | some (.lst ds) => .lst ds
    | _ => .loc n
  | d => d
theorem dp_norm {ρ : List Addr} {F : Hp} {st : S} {σ : St} {H : Hp} {x : D} {v : V} (r : Rel G ρ F st σ H) (h : RV G.K ρ F x v) (e : plain (norm st.cs x) = true) : Dp G.K.K H v (py (norm st.cs x)) := by
  cases h with
  | loc h1 =>
    rename_i n a
    unfold norm at e ⊢
    simp only at e ⊢
    cases q : st.cs[n]? with
    | none => simp only [q, plain] at e; cases e
    | some c =>
      cases c with
      | lst es =>
        obtain ⟨vs, h2, h3⟩ := r.cell n _ _ q h1
        simp only [q, plain, py] at e ⊢
        exact .lst (SqL.of h2) (dps_of r.fz h3 e)
      | dk _ _ => simp only [q, plain] at e; cases e
      | tbl _ _ => simp only [q, plain] at e; cases e
      | ins _ _ _ => simp only [q, plain] at e; cases e
  | non => exact .non
  | bl b => exact .bl b
  | int i => exact .int i
  | str x => exact .str x
  | tup h r' => exact dp_of r.fz (.tup h r') e
  | lst h r' => exact dp_of r.fz (.lst h r') e
  | frl h r' => exact dp_of r.fz (.frl h r') e
  | cls C => exact dp_of (ρ := ρ) r.fz (.cls C) e
  | obj => cases e
  | dct => cases e
  | btp h l r' => exact dp_of r.fz (.btp h l r') e
def gEqB (neg : Bool) : F2 := fun cs x y =>
  let p := norm cs x
  let q := norm cs y
  if plain p && plain q && SeqAt.shaped (py p) && SeqAt.shaped (py q) then .ok (.bl (if neg then !PyData.eqv (py p) (py q) else PyData.eqv (py p) (py q))) cs else .no
theorem v2_eq : V2 G W (rEqD G.K.K) (gEqB false) := by
  intro ρ F st σ H x y v w Q r h1 h2 p
  unfold gEqB at p
  by_cases c : (plain (norm st.cs x) && plain (norm st.cs y) && SeqAt.shaped (py (norm st.cs x)) && SeqAt.shaped (py (norm st.cs y))) = true
  · simp only [c, if_true] at p
    simp only [Bool.and_eq_true] at c
    exact ⟨_, _, dp_norm r h1 c.1.1.1, dp_norm r h2 c.1.1.2, c.1.2, c.2, p.here r (.bl _)⟩
  · simp only [c, if_false] at p
    exact p.elim
theorem v2_ne : V2 G W (rNeD G.K.K) (gEqB true) := by
  intro ρ F st σ H x y v w Q r h1 h2 p
  unfold gEqB at p
  by_cases c : (plain (norm st.cs x) && plain (norm st.cs y) && SeqAt.shaped (py (norm st.cs x)) && SeqAt.shaped (py (norm st.cs y))) = true
  · simp only [c, if_true] at p
    simp only [Bool.and_eq_true] at c
    exact ⟨_, _, dp_norm r h1 c.1.1.1, dp_norm r h2 c.1.1.2, c.1.2, c.2, p.here r (.bl _)⟩
  · simp only [c, if_false] at p
    exact p.elim
theorem de_eq (hK : X.K = G.K.K) (hu : X.A.units + 64 < cLine) (ha : PE X a (tE G W fa)) (hb : PE X b (tE G W fb)) : PE X (.Compare a [.Eq] [b] pos) (tE G W (eOp (gEqB false) fa fb)) := de_cmp (op_eqD hu) (by rw [hK]; exact v2_eq) ha hb (nomark _)
theorem de_ne (hK : X.K = G.K.K) (hu : X.A.units + 64 < cLine) (ha : PE X a (tE G W fa)) (hb : PE X b (tE G W fb)) : PE X (.Compare a [.NotEq] [b] pos) (tE G W (eOp (gEqB true) fa fb)) := de_cmp (op_neD hu) (by rw [hK]; exact v2_ne) ha hb (nomark _)

/-! ### order, is -/
def gOrd (g : Int → Int → Bool) (h : List Nat → List Nat → Bool) : F2 := fun cs x y => match x, y with
  | .int i, .int j => .ok (.bl (g i j)) cs
  | .str i, .str j => .ok (.bl (h i.cps.toList j.cps.toList)) cs
  | _, _ => .no
theorem v2_ord {g : Int → Int → Bool} {h : List Nat → List Nat → Bool} : V2 G W (fun x y H Q => rI0 (fun i j => .bl (g i j)) x y H Q ∨ ∃ i j, x = .str i ∧ y = .str j ∧ Q (.bl (h i.cps.toList j.cps.toList)) H) (gOrd g h) := by
  intro ρ F st σ H x y v w Q r h1 h2 p
  unfold gOrd at p
  split at p
  · cases h1; cases h2
    exact .inl ⟨_, _, rfl, rfl, p.here r (.bl _)⟩
  · cases h1; cases h2
    exact .inr ⟨_, _, rfl, rfl, p.here r (.bl _)⟩
  · exact p.elim
def gLt : F2 := gOrd (fun i j => decide (i < j)) fun i j => decide (i < j)
def gLe : F2 := gOrd (fun i j => decide (i ≤ j)) fun i j => !decide (j < i)
def gGt : F2 := gOrd (fun i j => decide (j < i)) fun i j => decide (j < i)
def gGe : F2 := gOrd (fun i j => decide (j ≤ i)) fun i j => !decide (i < j)
theorem de_lt (ha : PE X a (tE G W fa)) (hb : PE X b (tE G W fb)) : PE X (.Compare a [.Lt] [b] pos) (tE G W (eOp gLt fa fb)) := de_cmp (op_lt.or op_lt_str) v2_ord ha hb (nomark _)
theorem de_le (ha : PE X a (tE G W fa)) (hb : PE X b (tE G W fb)) : PE X (.Compare a [.LtE] [b] pos) (tE G W (eOp gLe fa fb)) := de_cmp (op_le.or op_le_str) v2_ord ha hb (nomark _)
theorem de_gt (ha : PE X a (tE G W fa)) (hb : PE X b (tE G W fb)) : PE X (.Compare a [.Gt] [b] pos) (tE G W (eOp gGt fa fb)) := de_cmp (op_gt.or op_gt_str) v2_ord ha hb (nomark _)
theorem de_ge (ha : PE X a (tE G W fa)) (hb : PE X b (tE G W fb)) : PE X (.Compare a [.GtE] [b] pos) (tE G W (eOp gGe fa fb)) := de_cmp (op_ge.or op_ge_str) v2_ord ha hb (nomark _)
def isNon : D → Bool
  | .non => true
  | _ => false
theorem isNon_of {K : Kt} {ρ : List Addr} {F : Hp} {d : D} {v : V} (h : RV K ρ F d v) : decide (v = .non) = isNon d := by
  cases h <;> first | rfl | (exact decide_eq_false (fun z => nomatch z))
def gIs (neg : Bool) : F2 := fun cs x y => match x, y with
  | x, .non => .ok (.bl (if neg then !isNon x else isNon x)) cs
  | .bl i, .bl j => .ok (.bl (if neg then !decide (i = j) else decide (i = j))) cs
  | _, _ => .no
theorem de_is (ha : PE X a (tE G W fa)) (hb : PE X b (tE G W fb)) : PE X (.Compare a [.Is] [b] pos) (tE G W (eOp (gIs false) fa fb)) := de_cmp (op_isN.or op_isBl) (by
  intro ρ F st σ H x y v w Q r h1 h2 p
  unfold gIs at p
  split at p
  · cases h2
    refine .inl ⟨rfl, ?_⟩
    rw [isNon_of h1]
    exact p.here r (.bl _)
  · cases h1; cases h2
    exact .inr ⟨_, _, rfl, rfl, p.here r (.bl _)⟩
  · exact p.elim) ha hb (nomark _)
theorem de_isnot (ha : PE X a (tE G W fa)) (hb : PE X b (tE G W fb)) : PE X (.Compare a [.IsNot] [b] pos) (tE G W (eOp (gIs true) fa fb)) := de_cmp (op_notN.or op_notBl) (by
  intro ρ F st σ H x y v w Q r h1 h2 p
  unfold gIs at p
  split at p
  · cases h2
    refine .inl ⟨rfl, ?_⟩
    rw [isNon_of h1]
    exact p.here r (.bl _)
  · cases h1; cases h2
    exact .inr ⟨_, _, rfl, rfl, p.here r (.bl _)⟩
  · exact p.elim) ha hb (nomark _)

/-! ### in -/
def flatD : D → Bool
  | .non => true
  | .bl _ => true
  | .int _ => true
  | .str _ => true
  | _ => false
def eqF : D → D → Bool
  | .non, .non => true
  | .bl a, .bl b => a == b
  | .bl a, .int b => (if a then 1 else 0) == b
  | .int a, .bl b => a == (if b then 1 else 0)
  | .int a, .int b => a == b
  | .str a, .str b => a == b
  | _, _ => false
theorem flat_of {K : Kt} {ρ : List Addr} {F : Hp} {d : D} {v : V} (h : RV K ρ F d v) (e : flatD d = true) : flatV v = true := by
  cases h <;> first | rfl | cases e
theorem eqF_of {K : Kt} {ρ : List Addr} {F : Hp} {d d' : D} {v v' : V} (h : RV K ρ F d v) (h' : RV K ρ F d' v') (e : flatD d = true) (e' : flatD d' = true) : eqV v v' = eqF d d' := by
  cases h with
  | non => cases h' with
    | non => rfl
    | bl => rfl
    | int => rfl
    | str => rfl
    | _ => exact Bool.noConfusion e'
  | bl => cases h' with
    | non => rfl
    | bl => rfl
    | int => rfl
    | str => rfl
    | _ => exact Bool.noConfusion e'
  | int => cases h' with
    | non => rfl
    | bl => rfl
    | int => rfl
    | str => rfl
    | _ => exact Bool.noConfusion e'
  | str => cases h' with
    | non => rfl
    | bl => rfl
    | int => rfl
    | str => rfl
    | _ => exact Bool.noConfusion e'
  | _ => exact Bool.noConfusion e
def inD (x : D) (ds : List D) : Bool := ds.any fun y => eqF y x
theorem inD_of {K : Kt} {ρ : List Addr} {F : Hp} {d : D} {v : V} (h : RV K ρ F d v) (e : flatD d = true) : ∀ {ds : List D} {vs : List V}, RVs K ρ F ds vs → ds.all flatD = true → vs.all flatV = true ∧ inV v vs = inD d ds
  | _, _, .nil, _ => ⟨rfl, rfl⟩
  | _, _, .cons h' r, f => by
    rw [List.all_cons, Bool.and_eq_true] at f
    obtain ⟨q1, q2⟩ := inD_of h e r f.2
    refine ⟨by rw [List.all_cons, flat_of h' f.1, q1]; rfl, ?_⟩
    unfold inV inD at q2 ⊢
    rw [List.any_cons, List.any_cons, eqF_of h' h f.1 e, q2]
/-- one sign -/
def sign1 (x : Str) : Option Nat := match x.cps.toList with
  | [c] => some c
  | _ => none
def gIn (neg : Bool) : F2 := fun cs x y => match x, y with
  | .str s, .str z => match sign1 s with
    | some c => .ok (.bl (if neg then !decide (c ∈ z.cps.toList) else decide (c ∈ z.cps.toList))) cs
    | none => .no
  | x, y => match seqOf cs y with
    | some ds => if flatD x && ds.all flatD then .ok (.bl (if neg then !inD x ds else inD x ds)) cs else .no
    | none => .no
theorem sign1_eq {x : Str} {c : Nat} (h : sign1 x = some c) : x = ⟨#[c]⟩ := by
  unfold sign1 at h
  obtain ⟨⟨l⟩⟩ := x
  cases l with
  | nil => cases h
  | cons a l =>
    cases l with
    | nil => cases h; rfl
    | cons b l => cases h
theorem in_of {neg : Bool} {ρ : List Addr} {F : Hp} {st : S} {σ : St} {H : Hp} {x y : D} {v w : V} {Q : VK} (r : Rel G ρ F st σ H) (h1 : RV G.K ρ F x v) (h2 : RV G.K ρ F y w) (p : Post RV G W ρ F st.env σ Q (gIn neg st.cs x y)) :
    (∃ (c : Nat) (z : Str), v = .str ⟨#[c]⟩ ∧ w = .str z ∧ Q (.bl (if neg then !decide (c ∈ z.cps.toList) else decide (c ∈ z.cps.toList))) H) ∨ rIn G.K.K neg v w H Q := by
  unfold gIn at p
  split at p
  · cases h1; cases h2
    rename_i s z
    cases e : sign1 s with
    | none => simp only [e] at p; exact p.elim
    | some c =>
      simp only [e] at p
      have := sign1_eq e
      subst this
      exact .inl ⟨c, z, rfl, rfl, p.here r (.bl _)⟩
  · cases e : seqOf st.cs y with
    | none => simp only [e] at p; exact p.elim
    | some ds =>
      simp only [e] at p
      by_cases c : (flatD x && ds.all flatD) = true
      · simp only [c, if_true] at p
        obtain ⟨a2, ws, rfl, s2, r2⟩ := seq_read r h2 e
        rw [Bool.and_eq_true] at c
        obtain ⟨q1, q2⟩ := inD_of h1 c.1 r2 c.2
        refine .inr ⟨a2, ws, rfl, s2, flat_of h1 c.1, q1, ?_⟩
        rw [q2]
        exact p.here r (.bl _)
      · simp only [c, if_false] at p
        exact p.elim
theorem de_in (hK : X.K = G.K.K) (ha : PE X a (tE G W fa)) (hb : PE X b (tE G W fb)) (hm : behindInMarks .In b = false := by rfl) : PE X (.Compare a [.In] [b] pos) (tE G W (eOp (gIn false) fa fb)) :=
  de_cmp (op_in_sign.or op_in_seq) (by rw [hK]; exact fun ρ F st σ H x y v w Q r h1 h2 p => in_of r h1 h2 p) ha hb hm
theorem de_notin (hK : X.K = G.K.K) (ha : PE X a (tE G W fa)) (hb : PE X b (tE G W fb)) (hm : behindInMarks .NotIn b = false := by rfl) : PE X (.Compare a [.NotIn] [b] pos) (tE G W (eOp (gIn true) fa fb)) :=
  de_cmp (op_notIn_sign.or op_notIn_seq) (by rw [hK]; exact fun ρ F st σ H x y v w Q r h1 h2 p => in_of r h1 h2 p) ha hb hm
end
end VL

namespace VL
open PySem L2
section
variable {X : Cx} {G : Gx} {W : WX} {a b c e : Expr} {es : List Expr} {fa fb fc : Ex} {pos : Pos}
/-! ### arguments, displays -/
abbrev Ax := S → Out (List D)
def aNil : Ax := fun st => .ok [] st.cs
def aCons (f : Ex) (g : Ax) : Ax := fun st => (f st).bind fun x c1 => (g ⟨st.env, c1⟩).bind fun xs c2 => .ok (x :: xs) c2
theorem da_nil : PA X [] (tAs G W aNil) := pa_nil.impV fun σ H Q ⟨ρ, F, st, r, p⟩ => p.here r .nil
theorem da_cons {g : Ax} (h : PE X e (tE G W fa)) (hr : PA X es (tAs G W g)) (hs : starEach (e :: es) X.env = (false, eval e X.env) :: starEach es X.env := by rfl) : PA X (e :: es) (tAs G W (aCons fa g)) :=
  (pa_cons h hr hs).impV fun σ H Q ⟨ρ, F, st, r, p⟩ => seqX r p fun ρ1 F1 H1 x c1 v x1 r1 rv1 p1 => seqX (st := ⟨st.env, c1⟩) r1 p1 fun ρ2 F2 H2 xs c2 vs x2 r2 rv2 p2 => p2.here (st := ⟨st.env, c2⟩) r2 (.cons (rv1.ext x2) rv2)
def eTup (g : Ax) : Ex := fun st => (g st).bind fun xs c1 => if xs.length ≤ 16777216 then .ok (.tup xs) c1 else .no
theorem de_tup {g : Ax} {x1} (h : PA X es (tAs G W g)) : PE X (.Tuple es x1 pos) (tE G W (eTup g)) :=
  (pe_tup h).impV fun σ H Q ⟨ρ, F, st, r, p⟩ => seqX r p fun ρ1 F1 H1 xs c1 vs x1 r1 rv1 p1 => by
    by_cases c : xs.length ≤ 16777216
    · simp only [c, if_true] at p1
      refine ⟨line_of (by rw [← rv1.length]; exact c), fun q hq => ?_⟩
      obtain ⟨x2, r2⟩ := r1.fresh (o := .tup vs) hq
      exact p1 _ _ _ _ x2 r2 (.tup (SqT.of upd_same) (rv1.ext x2))
    · simp only [c, if_false] at p1
      exact p1.elim
/-- a list that stays as it is -/
def eLst (g : Ax) : Ex := fun st => (g st).bind fun xs c1 => if xs.length ≤ 16777216 then .ok (.lst xs) c1 else .no
theorem de_lst {g : Ax} (h : PA X es (tAs G W g)) : PE X (.List es pos) (tE G W (eLst g)) :=
  (pe_lst h).impV fun σ H Q ⟨ρ, F, st, r, p⟩ => seqX r p fun ρ1 F1 H1 xs c1 vs x1 r1 rv1 p1 => by
    by_cases c : xs.length ≤ 16777216
    · simp only [c, if_true] at p1
      refine ⟨line_of (by rw [← rv1.length]; exact c), fun q hq => ?_⟩
      obtain ⟨x2, r2⟩ := r1.fresh (o := .lst vs) hq
      exact p1 _ _ _ _ x2 r2 (.lst upd_same (rv1.ext x2))
    · simp only [c, if_false] at p1
      exact p1.elim
/-- a new own cell -/
def newCell (ds : List D) (cs : List Cell) : Out D := .ok (.loc cs.length) (cs ++ [.lst ds])
theorem newCell_of {ρ : List Addr} {F : Hp} {st : S} {σ : St} {H : Hp} {ds : List D} {vs : List V} {q : Addr} {Q : VK} (r : Rel G ρ F st σ H) (rv : RVs G.K ρ F ds vs) (hq : H q = none) (p : Post RV G W ρ F st.env σ Q (newCell ds st.cs)) : Q (.ref q) (upd H q (.lst vs)) := by
  have y : Ext ρ F (ρ ++ [q]) F := ⟨List.prefix_append _ _, Same.refl _⟩
  obtain ⟨x2, r2⟩ := r.cellNew (p := q) (o := .lst vs) (c := .lst ds) hq ⟨vs, upd_same, rv.ext y⟩
  refine p _ _ _ _ x2 r2 (.loc ?_)
  rw [← r.cl, List.getElem?_append_right (Nat.le_refl _), Nat.sub_self]
  rfl
def eLoc (g : Ax) : Ex := fun st => (g st).bind fun xs c1 => if xs.length ≤ 16777216 then newCell xs c1 else .no
theorem de_loc {g : Ax} (h : PA X es (tAs G W g)) : PE X (.List es pos) (tE G W (eLoc g)) :=
  (pe_lst h).impV fun σ H Q ⟨ρ, F, st, r, p⟩ => seqX r p fun ρ1 F1 H1 xs c1 vs x1 r1 rv1 p1 => by
    by_cases c : xs.length ≤ 16777216
    · simp only [c, if_true] at p1
      exact ⟨line_of (by rw [← rv1.length]; exact c), fun q hq => newCell_of (st := ⟨st.env, c1⟩) r1 rv1 hq p1⟩
    · simp only [c, if_false] at p1
      exact p1.elim
/-! ### subscripts -/
def gIx : F2 := fun cs x y => match x, y with
  | .str z, .int i => if z.length ≤ 16777216 then (match atI z.cps.toList i with
    | some c => .ok (.str ⟨#[c]⟩) cs
    | none => .no) else .no
  | x, .int i => match seqOf cs x with
    | some ds => (match atI ds i with
      | some d => .ok d cs
      | none => .no)
    | none => .no
  | _, _ => .no
theorem atI_rel {K : Kt} {ρ : List Addr} {F : Hp} {ds : List D} {vs : List V} {i : Int} {d : D} (r : RVs K ρ F ds vs) (h : atI ds i = some d) : ∃ v, atI vs i = some v ∧ RV K ρ F d v := by
  unfold atI at h ⊢
  rw [← r.length]
  cases q : ixN ds.length i with
  | none => rw [q] at h; cases h
  | some j =>
    rw [q] at h
    exact r.get h
theorem v2_ix : V2 G W (rIx G.K.K) gIx := by
  intro ρ F st σ H x y v w Q r h1 h2 p
  unfold gIx at p
  split at p
  · cases h1; cases h2
    rename_i z i
    by_cases c : z.length ≤ 16777216
    · simp only [c, if_true] at p
      cases q : atI z.cps.toList i with
      | none => simp only [q] at p; exact p.elim
      | some k =>
        simp only [q] at p
        exact .inr (.inr ⟨_, _, k, rfl, rfl, line_of c, q, p.here r (.str _)⟩)
    · simp only [c, if_false] at p
      exact p.elim
  · cases h2
    rename_i i _
    cases q : seqOf st.cs x with
    | none => simp only [q] at p; exact p.elim
    | some ds =>
      simp only [q] at p
      cases q2 : atI ds i with
      | none => simp only [q2] at p; exact p.elim
      | some d =>
        simp only [q2] at p
        obtain ⟨a2, ws, rfl, s2, r2⟩ := seq_read r h1 q
        obtain ⟨u, e1, e2⟩ := atI_rel r2 q2
        rcases s2 with s2 | s2
        · exact .inl ⟨_, _, _, u, rfl, rfl, s2, e1, p.here r e2⟩
        · exact .inr (.inl ⟨_, _, _, u, rfl, rfl, s2, e1, p.here r e2⟩)
  · exact p.elim
theorem de_ix (hK : X.K = G.K.K) (ha : PE X a (tE G W fa)) (hb : PE X b (tE G W fb)) (hs : PlainIx b := by intro _ _; rfl) : PE X (.Subscript a b pos) (tE G W (eOp gIx fa fb)) := by
  refine (pe_ix ix_seq ha hb hs).impV (tOp_of ?_)
  rw [hK]
  exact v2_ix
/-! ### slices -/
def cutD (xs : List D) (lo hi : Option Int) : List D := (xs.drop (HT.sIx xs.length 0 lo)).take (HT.sIx xs.length xs.length hi - HT.sIx xs.length 0 lo)
theorem cut_rel {K : Kt} {ρ : List Addr} {F : Hp} {ds : List D} {vs : List V} {lo hi : Option Int} (r : RVs K ρ F ds vs) : RVs K ρ F (cutD ds lo hi) (cutV vs lo hi) := by
  unfold cutD cutV
  rw [r.length]
  exact (r.drop _).take _
def RO (_ : Kt) (_ : List Addr) (_ : Hp) (a b : Option Int) : Prop := a = b
abbrev tOs := @tX (Option Int) (Option Int) RO
abbrev Ox := S → Out (Option Int)
def oNone : Ox := fun st => .ok none st.cs
def oSome (f : Ex) : Ox := fun st => (f st).bind fun x c1 => match x with
  | .int i => .ok (some i) c1
  | _ => .no
theorem _root_.L2.PO.impV {X : Cx} {e : Option Expr} {t t' : TO} (h : PO X e t) (m : ∀ σ H Q, t' σ H Q → t σ H Q) : PO X e t' := ⟨fun pins s σ H Q I hw => h.run pins s σ H Q I (m _ _ _ hw)⟩
theorem do_none : PO X none (tOs G W oNone) := po_none.impV fun σ H Q ⟨ρ, F, st, r, p⟩ => p.here r rfl
theorem do_some (h : PE X e (tE G W fa)) : PO X (some e) (tOs G W (oSome fa)) := (po_some h).impV fun σ H Q ⟨ρ, F, st, r, p⟩ => seqX r p fun ρ1 F1 H1 x c1 v x1 r1 rv1 p1 => by
  cases rv1 <;> first
    | exact ⟨_, rfl, p1.here (st := ⟨st.env, c1⟩) r1 rfl⟩
    | exact p1.elim
/-- a slice; new: an own cell of a list's -/
def gSl (own : Bool) (cs : List Cell) (x : D) (lo hi : Option Int) : Out D := match x with
  | .str z => if z.length ≤ 16777216 then .ok (.str (cutS z lo hi)) cs else .no
  | .tup xs => .ok (.tup (cutD xs lo hi)) cs
  | x => match lstOf cs x with
    | some xs => if own then newCell (cutD xs lo hi) cs else .ok (.lst (cutD xs lo hi)) cs
    | none => .no
def eSl (own : Bool) (f : Ex) (l h : Ox) : Ex := fun st => (f st).bind fun x c1 => (l ⟨st.env, c1⟩).bind fun lo c2 => (h ⟨st.env, c2⟩).bind fun hi c3 => gSl own c3 x lo hi
def rSlAny (K : PySem.W.Frag) : V → Option Int → Option Int → Hp → VK → Prop := fun x lo hi H Q => rSlS x lo hi H Q ∨ (rSlA K x lo hi H Q ∨ rSlL K x lo hi H Q)
theorem sl_any : SlR X (rSlAny X.K) := SlR.or sl_str (SlR.or sl_tupA sl_list)
theorem cut_whole {K : PySem.W.Frag} {vs : List V} {lo hi : Option Int} (h : HT.sIx vs.length 0 lo = 0 ∧ HT.sIx vs.length vs.length hi = vs.length) : cutV vs lo hi = vs := by
  unfold cutV
  rw [h.1, h.2, List.drop_zero, Nat.sub_zero, List.take_length]
theorem sl_of {own : Bool} {ρ : List Addr} {F : Hp} {st : S} {σ : St} {H : Hp} {x : D} {v : V} {lo hi : Option Int} {Q : VK} (r : Rel G ρ F st σ H) (h1 : RV G.K ρ F x v) (p : Post RV G W ρ F st.env σ Q (gSl own st.cs x lo hi)) : rSlAny G.K.K v lo hi H Q := by
  unfold gSl at p
  split at p
  · cases h1
    rename_i z
    by_cases c : z.length ≤ 16777216
    · simp only [c, if_true] at p
      exact .inl ⟨_, rfl, line_of c, p.here r (.str _)⟩
    · simp only [c, if_false] at p
      exact p.elim
  · rename_i xs
    obtain ⟨a2, ws, rfl, s2, r2⟩ := tup_read r h1 rfl
    refine .inr (.inl ⟨a2, ws, rfl, s2, fun hw => ?_, fun hw q hq => ?_⟩)
    · have e1 : cutD xs lo hi = xs := by
        unfold cutD
        rw [r2.length, hw.1, hw.2, List.drop_zero, Nat.sub_zero, ← r2.length, List.take_length]
      rw [e1] at p
      exact p.here r h1
    · obtain ⟨x2, r3⟩ := r.fresh (o := .tup (cutV ws lo hi)) hq
      exact p _ _ _ _ x2 r3 (.tup (SqT.of upd_same) ((cut_rel r2).ext x2))
  · cases q : lstOf st.cs x with
    | none => simp only [q] at p; exact p.elim
    | some xs =>
      simp only [q] at p
      obtain ⟨a2, ws, rfl, s2, r2⟩ := lst_read r h1 q
      refine .inr (.inr ⟨a2, ws, rfl, s2, fun q hq => ?_⟩)
      cases own with
      | true =>
        exact newCell_of r (cut_rel r2) hq p
      | false =>
        obtain ⟨x2, r3⟩ := r.fresh (o := .lst (cutV ws lo hi)) hq
        exact p _ _ _ _ x2 r3 (.lst upd_same ((cut_rel r2).ext x2))
theorem de_slice {own : Bool} {lo hi : Option Expr} {fl fh : Ox} {p2 : Pos} (hK : X.K = G.K.K) (ha : PE X a (tE G W fa)) (hl : PO X lo (tOs G W fl)) (hh : PO X hi (tOs G W fh)) : PE X (.Subscript a (.Slice lo hi none p2) pos) (tE G W (eSl own fa fl fh)) :=
  (pe_slice sl_any ha hl hh).impV fun σ H Q ⟨ρ, F, st, r, p⟩ => seqX r p fun ρ1 F1 H1 x c1 v x1 r1 rv1 p1 => seqX (R := RO) (st := ⟨st.env, c1⟩) r1 p1 fun ρ2 F2 H2 lo c2 lo' x2 r2 e2 p2 => seqX (R := RO) (st := ⟨st.env, c2⟩) r2 p2 fun ρ3 F3 H3 hi c3 hi' x3 r3 e3 p3 => by
    have e2 : lo = lo' := e2
    have e3 : hi = hi' := e3
    subst e2 e3
    rw [hK]
    exact sl_of (st := ⟨st.env, c3⟩) r3 ((rv1.ext x2).ext x3) p3
/-- xs[::-1] -/
def gRev (cs : List Cell) (x : D) : Out D := match lstOf cs x with
  | some xs => .ok (.lst xs.reverse) cs
  | none => .no
def gRevLoc (cs : List Cell) (x : D) : Out D := match lstOf cs x with
  | some xs => newCell xs.reverse cs
  | none => .no
theorem de_rev {k : Nat} {p1 p2 p3 : Pos} (hK : X.K = G.K.K) (ha : PE X a (tE G W fa)) : PE X (.Subscript a (.Slice none none (some (.UnaryOp .USub (.Constant (.int 1) k p1) p2)) p3) pos) (tE G W (eUn gRev fa)) :=
  (pe_revL ha).impV fun σ H Q ⟨ρ, F, st, r, p⟩ => seqX r p fun ρ1 F1 H1 x c1 v x1 r1 rv1 p1 => by
    unfold gRev at p1
    cases q : lstOf c1 x with
    | none => simp only [q] at p1; exact p1.elim
    | some xs =>
      simp only [q] at p1
      obtain ⟨a2, ws, rfl, s2, r2⟩ := lst_read (st := ⟨st.env, c1⟩) r1 rv1 q
      rw [hK]
      refine ⟨a2, ws, rfl, s2, fun q hq => ?_⟩
      obtain ⟨x2, r3⟩ := r1.fresh (o := .lst ws.reverse) hq
      exact p1 _ _ _ _ x2 r3 (.lst upd_same (r2.reverse.ext x2))
/-! ### truth, tests -/
def truD (cs : List Cell) : D → Option Bool
  | .non => some false
  | .bl b => some b
  | .int i => some (i != 0)
  | .str y => if y.length ≤ 16777216 then some ((y.length : Int) != 0) else none
  | d => (seqOf cs d).map fun xs => !xs.isEmpty
theorem isEmpty_len {α β : Type} {xs : List α} {ys : List β} (h : xs.length = ys.length) : xs.isEmpty = ys.isEmpty := by
  cases xs <;> cases ys <;> simp_all
theorem tru_of {ρ : List Addr} {F : Hp} {st : S} {σ : St} {H : Hp} {x : D} {v : V} {k : Bool} (r : Rel G ρ F st σ H) (h : RV G.K ρ F x v) (e : truD st.cs x = some k) : TruV G.K.K v H k := by
  have main : ∀ {y : D}, RV G.K ρ F y v → (seqOf st.cs y).map (fun xs => !xs.isEmpty) = some k → TruV G.K.K v H k := fun {y} hy e => by
    cases q : seqOf st.cs y with
    | none => rw [q] at e; cases e
    | some xs =>
      rw [q] at e
      cases e
      obtain ⟨a2, ws, rfl, s2, r2⟩ := seq_read r hy q
      rcases s2 with s2 | s2
      · exact .inl ⟨ws, s2, by show (!xs.isEmpty) = _; rw [isEmpty_len r2.length]⟩
      · exact .inr (.inl ⟨ws, s2, by show (!xs.isEmpty) = _; rw [isEmpty_len r2.length]⟩)
  cases h with
  | non => exact (Option.some.inj e).symm
  | bl b => exact (Option.some.inj e).symm
  | int i => exact (Option.some.inj e).symm
  | str y =>
    unfold truD at e
    by_cases c : y.length ≤ 16777216
    · simp only [c, if_true] at e
      exact ⟨line_of c, (Option.some.inj e).symm⟩
    · simp only [c, if_false] at e
      cases e
  | tup h1 h2 => exact main (.tup h1 h2) e
  | lst h1 h2 => exact main (.lst h1 h2) e
  | frl h1 h2 => exact main (.frl h1 h2) e
  | obj h1 h2 h3 => cases e
  | dct h1 h2 h3 => cases e
  | btp h1 h2 h3 => exact main (.btp h1 h2 h3) e
  | cls C => cases e
  | loc h1 => exact main (.loc h1) e
abbrev Tx := S → Out Bool
def tTru (f : Ex) : Tx := fun st => (f st).bind fun x c1 => match truD c1 x with
  | some k => .ok k c1
  | none => .no
theorem truStep {ρ : List Addr} {F : Hp} {st : S} {σ : St} {H : Hp} {x : D} {v : V} {β γ : Type} {R : Kt → List Addr → Hp → β → γ → Prop} {Q : γ → Hp → Prop} {kk : Bool → Out β} (r : Rel G ρ F st σ H) (h : RV G.K ρ F x v)
    (p : Post R G W ρ F st.env σ Q (match truD st.cs x with
      | some k => kk k
      | none => .no)) : ∃ k, TruV G.K.K v H k ∧ Post R G W ρ F st.env σ Q (kk k) := by
  cases q : truD st.cs x with
  | none => simp only [q] at p; exact p.elim
  | some k =>
    simp only [q] at p
    exact ⟨k, tru_of r h q, p⟩
theorem dt_tru (hK : X.K = G.K.K) (ha : PE X a (tE G W fa)) (he : ∀ whole, isTrue a X.env whole = (do let v ← whole; standAt a.pos; holding [v] (truthy v)) := by intro _; rfl) : PT X a (tTs G W (tTru fa)) :=
  (pt_truth ha he).impV fun σ H Q ⟨ρ, F, st, r, p⟩ => seqX r p fun ρ1 F1 H1 x c1 v x1 r1 rv1 p1 => by
    obtain ⟨k, t, p2⟩ := truStep (st := ⟨st.env, c1⟩) (kk := fun k => .ok k c1) r1 rv1 p1
    rw [hK]
    exact ⟨k, t, p2.here (st := ⟨st.env, c1⟩) r1 rfl⟩
def tAnd' (f g : Tx) : Tx := fun st => (f st).bind fun k c1 => if k then g ⟨st.env, c1⟩ else .ok false c1
def tOr' (f g : Tx) : Tx := fun st => (f st).bind fun k c1 => if k then .ok true c1 else g ⟨st.env, c1⟩
def tNot' (f : Tx) : Tx := fun st => (f st).bind fun k c1 => .ok (!k) c1
theorem _root_.L2.PW.impV {X : Cx} {e : Expr} {t t' : TT} (h : PW X e t) (m : ∀ σ H Q, t' σ H Q → t σ H Q) : PW X e t' := ⟨fun wh pins s σ H Q I hw => h.run wh pins s σ H Q I (m _ _ _ hw)⟩
variable {f g : Tx} {rest : List Expr}
theorem tX_of {α β : Type} {R : Kt → List Addr → Hp → α → β → Prop} {ρ : List Addr} {F : Hp} {st : S} {σ : St} {H : Hp} {f : S → Out α} {Q : β → Hp → Prop} (r : Rel G ρ F st σ H) (p : Post R G W ρ F st.env σ Q (f st)) : tX R G W f σ H Q := ⟨ρ, F, st, r, p⟩
theorem dw_and1 (ha : PT X a (tTs G W f)) : PW X (.BoolOp .And [a] pos) (tTs G W f) := pw_and1 ha
theorem dw_or1 (ha : PT X a (tTs G W f)) : PW X (.BoolOp .Or [a] pos) (tTs G W f) := pw_or1 ha
theorem dw_and (ha : PT X a (tTs G W f)) (hb : PW X (.BoolOp .And (b :: rest) pos) (tTs G W g)) : PW X (.BoolOp .And (a :: b :: rest) pos) (tTs G W (tAnd' f g)) :=
  (pw_and ha hb).impV fun σ H Q ⟨ρ, F, st, r, p⟩ => seqX (R := RB) r p fun ρ1 F1 H1 k c1 k' x1 r1 e p1 => by
    have e : k = k' := e
    subst e
    cases k with
    | true =>
      rw [if_pos rfl] at p1 ⊢
      exact tX_of (st := ⟨st.env, c1⟩) r1 p1
    | false =>
      rw [if_neg (by decide)] at p1 ⊢
      exact p1.here (st := ⟨st.env, c1⟩) r1 rfl
theorem dw_or (ha : PT X a (tTs G W f)) (hb : PW X (.BoolOp .Or (b :: rest) pos) (tTs G W g)) : PW X (.BoolOp .Or (a :: b :: rest) pos) (tTs G W (tOr' f g)) :=
  (pw_or ha hb).impV fun σ H Q ⟨ρ, F, st, r, p⟩ => seqX (R := RB) r p fun ρ1 F1 H1 k c1 k' x1 r1 e p1 => by
    have e : k = k' := e
    subst e
    cases k with
    | true =>
      rw [if_pos rfl] at p1 ⊢
      exact p1.here (st := ⟨st.env, c1⟩) r1 rfl
    | false =>
      rw [if_neg (by decide)] at p1 ⊢
      exact tX_of (st := ⟨st.env, c1⟩) r1 p1
theorem dt_w (h : PW X a (tTs G W f)) : PT X a (tTs G W f) := h.pt
theorem dt_not (ha : PT X a (tTs G W f)) : PT X (.UnaryOp .Not a pos) (tTs G W (tNot' f)) :=
  (pt_not ha).impV fun σ H Q ⟨ρ, F, st, r, p⟩ => seqX (R := RB) r p fun ρ1 F1 H1 k c1 k' x1 r1 e p1 => by
    have e : k = k' := e
    subst e
    exact p1.here (st := ⟨st.env, c1⟩) r1 rfl
def eIf (t : Tx) (fa fb : Ex) : Ex := fun st => (t st).bind fun k c1 => if k then fa ⟨st.env, c1⟩ else fb ⟨st.env, c1⟩
theorem de_if (hc : PT X c (tTs G W f)) (ha : PE X a (tE G W fa)) (hb : PE X b (tE G W fb)) : PE X (.IfExp c a b pos) (tE G W (eIf f fa fb)) :=
  (pe_ifExp hc ha hb).impV fun σ H Q ⟨ρ, F, st, r, p⟩ => seqX (R := RB) r p fun ρ1 F1 H1 k c1 k' x1 r1 e p1 => by
    have e : k = k' := e
    subst e
    cases k with
    | true =>
      rw [if_pos rfl] at p1 ⊢
      exact tX_of (st := ⟨st.env, c1⟩) r1 p1
    | false =>
      rw [if_neg (by decide)] at p1 ⊢
      exact tX_of (st := ⟨st.env, c1⟩) r1 p1
/-- x and y, x or y, not x as values -/
def eAnd (fa fb : Ex) : Ex := fun st => (fa st).bind fun x c1 => match truD c1 x with
  | some k => if k then fb ⟨st.env, c1⟩ else .ok x c1
  | none => .no
def eOr (fa fb : Ex) : Ex := fun st => (fa st).bind fun x c1 => match truD c1 x with
  | some k => if k then .ok x c1 else fb ⟨st.env, c1⟩
  | none => .no
def eNot (fa : Ex) : Ex := fun st => (fa st).bind fun x c1 => match truD c1 x with
  | some k => .ok (.bl (!k)) c1
  | none => .no
theorem de_one {op} (h : PE X a (tE G W fa)) : PE X (.BoolOp op [a] pos) (tE G W fa) := pe_one h
theorem de_and (hK : X.K = G.K.K) (ha : PE X a (tE G W fa)) (hb : PE X (.BoolOp .And (b :: rest) pos) (tE G W fb)) : PE X (.BoolOp .And (a :: b :: rest) pos) (tE G W (eAnd fa fb)) :=
  (pe_andT ha hb).impV fun σ H Q ⟨ρ, F, st, r, p⟩ => seqX r p fun ρ1 F1 H1 x c1 v x1 r1 rv1 p1 => by
    obtain ⟨k, t, p2⟩ := truStep (st := ⟨st.env, c1⟩) (kk := fun k => if k then fb ⟨st.env, c1⟩ else .ok x c1) r1 rv1 p1
    rw [hK]
    refine ⟨k, t, ?_⟩
    cases k with
    | true => exact tX_of (st := ⟨st.env, c1⟩) r1 p2
    | false => exact p2.here (st := ⟨st.env, c1⟩) r1 rv1
theorem de_or (hK : X.K = G.K.K) (ha : PE X a (tE G W fa)) (hb : PE X (.BoolOp .Or (b :: rest) pos) (tE G W fb)) : PE X (.BoolOp .Or (a :: b :: rest) pos) (tE G W (eOr fa fb)) :=
  (pe_orT ha hb).impV fun σ H Q ⟨ρ, F, st, r, p⟩ => seqX r p fun ρ1 F1 H1 x c1 v x1 r1 rv1 p1 => by
    obtain ⟨k, t, p2⟩ := truStep (st := ⟨st.env, c1⟩) (kk := fun k => if k then .ok x c1 else fb ⟨st.env, c1⟩) r1 rv1 p1
    rw [hK]
    refine ⟨k, t, ?_⟩
    cases k with
    | true => exact p2.here (st := ⟨st.env, c1⟩) r1 rv1
    | false => exact tX_of (st := ⟨st.env, c1⟩) r1 p2
theorem de_not (hK : X.K = G.K.K) (ha : PE X a (tE G W fa)) : PE X (.UnaryOp .Not a pos) (tE G W (eNot fa)) :=
  (pe_notT ha).impV fun σ H Q ⟨ρ, F, st, r, p⟩ => seqX r p fun ρ1 F1 H1 x c1 v x1 r1 rv1 p1 => by
    obtain ⟨k, t, p2⟩ := truStep (st := ⟨st.env, c1⟩) (kk := fun k => Out.ok (D.bl (!k)) c1) r1 rv1 p1
    rw [hK]
    exact ⟨k, t, p2.here (st := ⟨st.env, c1⟩) r1 (.bl _)⟩
/-! ### an attribute of a frozen object, of an own one -/
def lookD (f : Str) : List Str → List D → Option D
  | k :: ks, d :: ds => if f = k then some d else lookD f ks ds
  | _, _ => none
theorem look_rel {K : Kt} {ρ : List Addr} {F : Hp} {f : Str} : ∀ {ks : List Str} {ds : List D} {vs : List V} {d : D}, RVs K ρ F ds vs → lookD f ks ds = some d → ∃ v, (ks.zip vs).lookup f = some v ∧ RV K ρ F d v
  | [], _, _, _, _, e => by cases e
  | _ :: _, _, _, _, .nil, e => by cases e
  | k :: ks, _, _, _, .cons h r, e => by
    unfold lookD at e
    rw [List.zip_cons_cons, List.lookup_cons]
    by_cases c : f = k
    · rw [if_pos c] at e
      cases e
      rw [show (f == k) = true from beq_iff_eq.mpr c]
      exact ⟨_, rfl, h⟩
    · rw [if_neg c] at e
      rw [show (f == k) = false from beq_eq_false_iff_ne.mpr c]
      exact look_rel r e
/-- the class at c tells nothing of f: it is a field of its instances -/
structure FldOk (K : Kt) (c : Nat) (f : Str) : Prop where
  cl : Cls K.K (K.κ c)
  no : NoAttr K.K (K.κ c) f
def gFldC (cn : Nat) (f : Str) : F1 := fun cs x => match x with
  | .obj C ks ds => if C = cn then (match lookD f ks ds with
    | some d => .ok d cs
    | none => .no) else .no
  | .loc n => (match cs[n]? with
    | some (.ins C ks ds) => if C = cn then (match lookD f ks ds with
      | some d => .ok d cs
      | none => .no) else .no
    | _ => .no)
  | _ => .no
theorem de_fld {cn : Nat} {f : Str} (hK : X.K = G.K.K) (hf : FldOk G.K cn f) (ha : PE X a (tE G W fa)) (hb : attributeBase a f X.env (eval a X.env) = eval a X.env := by rfl) : PE X (.Attribute a f pos) (tE G W (eUn (gFldC cn f) fa)) :=
  (pe_fld ha hb).impV fun σ H Q ⟨ρ, F, st, r, p⟩ => seqX r p fun ρ1 F1 H1 x c1 v x1 r1 rv1 p1 => by
    rw [hK]
    have fin : ∀ {C : Nat} {a2 dx : Addr} {ks : List Str} {ds : List D} {vs : List V}, v = .ref a2 → H1 a2 = some (.ins (G.K.κ C) dx (ks.zip vs)) → RVs G.K ρ1 F1 ds vs → Post RV G W ρ1 F1 st.env σ Q (if C = cn then (match lookD f ks ds with
        | some d => .ok d c1
        | none => .no) else .no) →
        ∃ a C dx fs v_1, v = .ref a ∧ H1 a = some (.ins C dx fs) ∧ Cls G.K.K C ∧ NoAttr G.K.K C f ∧ fs.lookup f = some v_1 ∧ Q v_1 H1 := fun {C a2 dx ks ds vs} e1 e2 rr pp => by
      by_cases c : C = cn
      · subst c
        simp only [if_true] at pp
        cases q : lookD f ks ds with
        | none => simp only [q] at pp; exact pp.elim
        | some d =>
          simp only [q] at pp
          obtain ⟨u, e3, e4⟩ := look_rel rr q
          exact ⟨a2, _, dx, _, u, e1, e2, hf.cl, hf.no, e3, pp.here (st := ⟨st.env, c1⟩) r1 e4⟩
      · simp only [c, if_false] at pp
        exact pp.elim
    cases rv1 with
    | obj h1 h2 h3 => exact fin rfl (r1.fz _ _ h1) h3 p1
    | loc h1 =>
      rename_i n a2
      unfold gFldC at p1
      simp only at p1
      cases q : c1[n]? with
      | none => simp only [q] at p1; exact p1.elim
      | some c0 =>
        cases c0 with
        | ins C ks ds =>
          simp only [q] at p1
          obtain ⟨dx, vs, h2, h3, h4⟩ := r1.cell n _ _ q h1
          exact fin rfl h2 h4 p1
        | lst _ => simp only [q] at p1; exact p1.elim
        | dk _ _ => simp only [q] at p1; exact p1.elim
        | tbl _ _ => simp only [q] at p1; exact p1.elim
    | _ => exact p1.elim
end
end VL

namespace VL
open PySem L2
/-! ### statements -/
inductive SOut where
  | nx (st : S) | rt (d : D) (st : S) | bk (st : S) | ct (st : S) | ex (e : Exn) (st : S) | no
def SPost (G : Gx) (W : WX) (ρ : List Addr) (F : Hp) (E : Ends) : SOut → Prop
  | .nx st => ∀ ρ' F' σ' H', Ext ρ F ρ' F' → Rel G ρ' F' st σ' H' → E.nx σ' H'
  | .rt d st => ∀ ρ' F' σ' H' v, Ext ρ F ρ' F' → Rel G ρ' F' st σ' H' → RV G.K ρ' F' d v → E.rt v H'
  | .bk st => ∀ ρ' F' σ' H', Ext ρ F ρ' F' → Rel G ρ' F' st σ' H' → E.bk σ' H'
  | .ct st => ∀ ρ' F' σ' H', Ext ρ F ρ' F' → Rel G ρ' F' st σ' H' → E.ct σ' H'
  | .ex e st => ∀ ρ' F' σ' H' cls dx, Ext ρ F ρ' F' → Rel G ρ' F' st σ' H' → XAt G.K ρ' F' e cls dx → W cls dx σ' H'
  | .no => False
abbrev Sx := S → SOut
def tS (G : Gx) (W : WX) (f : Sx) : TS := fun E σ H => ∃ ρ F st, Rel G ρ F st σ H ∧ SPost G W ρ F E (f st)
section
variable {X : Cx} {G : Gx} {W : WX} {E : Ends} {ρ ρ' : List Addr} {F F' : Hp} {st : S} {σ : St} {H : Hp}
theorem SPost.ext (x : Ext ρ F ρ' F') : ∀ {o : SOut}, SPost G W ρ F E o → SPost G W ρ' F' E o
  | .nx _, h => fun ρ2 F2 s2 H2 y r => h ρ2 F2 s2 H2 (x.trans y) r
  | .rt _ _, h => fun ρ2 F2 s2 H2 v y r q => h ρ2 F2 s2 H2 v (x.trans y) r q
  | .bk _, h => fun ρ2 F2 s2 H2 y r => h ρ2 F2 s2 H2 (x.trans y) r
  | .ct _, h => fun ρ2 F2 s2 H2 y r => h ρ2 F2 s2 H2 (x.trans y) r
  | .ex _ _, h => fun ρ2 F2 s2 H2 c d y r q => h ρ2 F2 s2 H2 c d (x.trans y) r q
  | .no, h => h
def thenS {α : Type} (o : Out α) (env : List (Option D)) (k : α → S → SOut) : SOut := match o with
  | .ok a cs => k a ⟨env, cs⟩
  | .ex e cs => .ex e ⟨env, cs⟩
  | .no => .no
theorem seqS {α β : Type} {R : Kt → List Addr → Hp → α → β → Prop} {f : S → Out α} {k : α → S → SOut} {Q' : β → Hp → Prop} (r : Rel G ρ F st σ H) (p : SPost G W ρ F E (thenS (f st) st.env k))
    (h : ∀ ρ' F' H' a cs v, Ext ρ F ρ' F' → Rel G ρ' F' ⟨st.env, cs⟩ σ H' → R G.K ρ' F' a v → SPost G W ρ' F' E (k a ⟨st.env, cs⟩) → Q' v H') : tX R G W f σ H Q' := by
  refine ⟨ρ, F, st, r, ?_⟩
  cases e : f st with
  | ok a cs =>
    rw [e] at p
    exact fun ρ' F' H' v x r' rv => h ρ' F' H' a cs v x r' rv (SPost.ext x p)
  | ex e' cs =>
    rw [e] at p
    exact fun ρ' F' H' c d x r' q => p ρ' F' σ H' c d x r' q
  | no =>
    rw [e] at p
    exact p
theorem tS_of {f : Sx} (r : Rel G ρ F st σ H) (p : SPost G W ρ F E (f st)) : tS G W f E σ H := ⟨ρ, F, st, r, p⟩
variable {a b c e : Expr} {s : Stmt} {ss : List Stmt} {f g : Sx} {fa fb : Ex} {t : Tx} {pos : Pos}
def sSeq (f g : Sx) : Sx := fun st => match f st with
  | .nx st' => g st'
  | o => o
def sNil : Sx := fun st => .nx st
theorem ds_nil : PSs X [] (tS G W sNil) := pss_nil.impV fun D σ H ⟨ρ, F, st, r, p⟩ => p ρ F σ H Ext.refl r
theorem ds_one (h : PS X s (tS G W f)) : PSs X [s] (tS G W f) := pss_one h
theorem ds_cons (h : PS X s (tS G W f)) (h2 : PSs X ss (tS G W g)) : PSs X (s :: ss) (tS G W (sSeq f g)) := (pss_cons h h2).impV fun D σ H ⟨ρ, F, st, r, p⟩ => by
  refine ⟨ρ, F, st, r, ?_⟩
  unfold sSeq at p
  cases q : f st with
  | nx st' =>
    rw [q] at p
    exact fun ρ' F' σ' H' x r' => tS_of r' (SPost.ext x p)
  | rt d st' => rw [q] at p; exact p
  | bk st' => rw [q] at p; exact p
  | ct st' => rw [q] at p; exact p
  | ex e' st' => rw [q] at p; exact p
  | no => rw [q] at p; exact p
theorem ds_pass : PS X (.Pass pos) (tS G W sNil) := ps_pass.impV fun D σ H ⟨ρ, F, st, r, p⟩ => p ρ F σ H Ext.refl r
def sBrk : Sx := fun st => .bk st
def sCnt : Sx := fun st => .ct st
theorem ds_break : PS X (.Break pos) (tS G W sBrk) := ps_break.impV fun D σ H ⟨ρ, F, st, r, p⟩ => p ρ F σ H Ext.refl r
theorem ds_cont : PS X (.Continue pos) (tS G W sCnt) := ps_continue.impV fun D σ H ⟨ρ, F, st, r, p⟩ => p ρ F σ H Ext.refl r
/-- a way that is never gone -/
def sNever : Sx := fun _ => .no
theorem ds_never : PS X s (tS G W sNever) := ps_never.impV fun D σ H ⟨ρ, F, st, r, p⟩ => p
theorem dss_never : PSs X ss (tS G W sNever) := pss_never.impV fun D σ H ⟨ρ, F, st, r, p⟩ => p
def sExpr (f : Ex) : Sx := fun st => thenS (f st) st.env fun _ st' => .nx st'
theorem ds_expr (h : PE X e (tE G W fa)) (hs : swapsWith e none pos.line X.env = pure false := by rfl) : PS X (.Expr e pos) (tS G W (sExpr fa)) :=
  (ps_expr h hs).impV fun D σ H ⟨ρ, F, st, r, p⟩ => seqS (f := fa) r p fun ρ1 F1 H1 x c1 v x1 r1 rv1 p1 => p1 ρ1 F1 σ H1 Ext.refl r1
def sRet (f : Ex) : Sx := fun st => thenS (f st) st.env fun d st' => .rt d st'
theorem ds_ret (h : PE X e (tE G W fa)) : PS X (.Return (some e) pos) (tS G W (sRet fa)) :=
  (ps_ret h).impV fun D σ H ⟨ρ, F, st, r, p⟩ => seqS (f := fa) r p fun ρ1 F1 H1 x c1 v x1 r1 rv1 p1 => p1 ρ1 F1 σ H1 v Ext.refl r1 rv1
def sRetN : Sx := fun st => .rt .non st
theorem ds_retN : PS X (.Return none pos) (tS G W sRetN) := ps_retN.impV fun D σ H ⟨ρ, F, st, r, p⟩ => p ρ F σ H .non Ext.refl r .non
def sIf (t : Tx) (f g : Sx) : Sx := fun st => thenS (t st) st.env fun k st' => if k then f st' else g st'
theorem ds_if {A B : List Stmt} (hc : PT X c (tTs G W t)) (ha : PSs X A (tS G W f)) (hb : PSs X B (tS G W g)) : PS X (.If c A B pos) (tS G W (sIf t f g)) :=
  (ps_if hc ha hb).impV fun D σ H ⟨ρ, F, st, r, p⟩ => seqS (R := RB) (f := t) r p fun ρ1 F1 H1 k c1 k' x1 r1 e p1 => by
    have e : k = k' := e
    subst e
    cases k with
    | true => exact tS_of r1 p1
    | false => exact tS_of r1 p1
/-! ### targets -/
abbrev Gt := D → S → Option S
abbrev Gts := List D → S → Option S
def gNm (i : Nat) : Gt := fun d st => some ⟨st.env.set i (some d), st.cs⟩
def gsNil : Gts := fun ds st => match ds with
  | [] => some st
  | _ => none
def gsCons (g : Gt) (gs : Gts) : Gts := fun ds st => match ds with
  | d :: r => (g d st).bind (gs r)
  | [] => none
def gTp (n : Nat) (gs : Gts) : Gt := fun d st => match d with
  | .tup ds => if ds.length = n then gs ds st else none
  | _ => none
/-- σ' is σ but at the slots sl -/
def But (sl : List Nat) (σ σ' : St) : Prop := σ'.length = σ.length ∧ ∀ j : Nat, j ∉ sl → σ'[j]? = σ[j]?
theorem But.refl {sl : List Nat} {σ : St} : But sl σ σ := ⟨rfl, fun _ _ => rfl⟩
theorem But.set {i : Nat} {σ : St} {v : Option V} : But [i] σ (σ.set i v) := ⟨List.length_set, fun j hj => List.getElem?_set_ne (fun z => hj (by rw [z]; exact List.mem_singleton.mpr rfl))⟩
theorem But.trans {s1 s2 : List Nat} {σ σ1 σ2 : St} (a : But s1 σ σ1) (b : But s2 σ1 σ2) : But (s1 ++ s2) σ σ2 :=
  ⟨b.1.trans a.1, fun j hj => (b.2 j fun z => hj (List.mem_append_right _ z)).trans (a.2 j fun z => hj (List.mem_append_left _ z))⟩
def tG (G : Gx) (sl : List Nat) (g : Gt) : TG := fun v σ H Q => ∃ ρ F st d st', Rel G ρ F st σ H ∧ RV G.K ρ F d v ∧ g d st = some st' ∧ ∀ σ', Rel G ρ F st' σ' H → But sl σ σ' → Q σ' H
def tGs (G : Gx) (sl : List Nat) (g : Gts) : TGs := fun vs σ H Q => ∃ ρ F st ds st', Rel G ρ F st σ H ∧ RVs G.K ρ F ds vs ∧ g ds st = some st' ∧ ∀ σ', Rel G ρ F st' σ' H → But sl σ σ' → Q σ' H
theorem _root_.L2.PG.impV {X : Cx} {e : Expr} {t t' : TG} (h : PG X e t) (m : ∀ v σ H Q, t' v σ H Q → t v σ H Q) : PG X e t' := ⟨fun pins s σ H v u Q I r hw => h.run pins s σ H v u Q I r (m _ _ _ _ hw)⟩
theorem _root_.L2.PGs.impV {X : Cx} {e : List Expr} {t t' : TGs} (h : PGs X e t) (m : ∀ v σ H Q, t' v σ H Q → t v σ H Q) : PGs X e t' := ⟨fun pins s σ H v u Q I r hw => h.run pins s σ H v u Q I r (m _ _ _ _ hw)⟩
variable {es : List Expr} {i : Nat} {x : Str}
theorem dg_name (hN : X.N.Nodup) (hi : X.N[i]? = some x := by rfl) (hx : Loc X.env.scope x := by first | exact Or.inl rfl | exact Or.inr rfl) (hf : X.fn x = true ∨ X.env.scope.names.lookup x = some .local := by first | exact .inl rfl | exact .inr rfl) : PG X (.Name x pos) (tG G [i] (gNm i)) :=
  (pg_name (i := i) hN hi hx hf).impV fun v σ H Q ⟨ρ, F, st, d, st', r, rv, e, q⟩ => by
    cases e
    exact q _ (r.slot rv) But.set
theorem dgs_nil : PGs X [] (tGs G [] gsNil) := pgs_nil.impV fun v σ H Q ⟨ρ, F, st, ds, st', r, rv, e, q⟩ => by
  cases rv with
  | nil => cases e; exact ⟨rfl, q _ r But.refl⟩
  | cons => cases e
theorem dgs_cons {s1 s2 : List Nat} {g : Gt} {gs : Gts} (h : PG X e (tG G s1 g)) (h2 : PGs X es (tGs G s2 gs)) (hs : (assignEach (e :: es) X.env).map (·.2) = assign e X.env :: (assignEach es X.env).map (·.2) := by rfl) : PGs X (e :: es) (tGs G (s1 ++ s2) (gsCons g gs)) :=
  (pgs_cons h h2 hs).impV fun v σ H Q ⟨ρ, F, st, ds, st', r, rv, e, q⟩ => by
    cases rv with
    | nil => cases e
    | @cons d ds v vs h1 h3 =>
      refine ⟨v, vs, rfl, ?_⟩
      have e : (g d st).bind (gs ds) = some st' := e
      cases q1 : g d st with
      | none => rw [q1] at e; cases e
      | some st1 =>
        rw [q1] at e
        exact ⟨ρ, F, st, d, st1, r, h1, q1, fun σ1 r1 b1 => ⟨ρ, F, st1, ds, st', r1, h3, e, fun σ2 r2 b2 => q σ2 r2 (b1.trans b2)⟩⟩
theorem dg_tup {n k : Nat} {sl : List Nat} {gs : Gts} (hK : X.K = G.K.K) (hc : X.calm = true) (h : PGs X es (tGs G sl gs)) (hn : (assignEach es X.env).length = n := by rfl) (hst : (assignEach es X.env).findIdx? (·.1) = none := by rfl) : PG X (.Tuple es k pos) (tG G sl (gTp n gs)) :=
  (pg_tup hc h hn hst).impV fun v σ H Q ⟨ρ, F, st, d, st', r, rv, e, q⟩ => by
    unfold gTp at e
    cases rv with
    | @tup a vs ds h1 h2 =>
      simp only at e
      by_cases c : ds.length = n
      · rw [if_pos c] at e
        rw [hK]
        exact ⟨a, vs, rfl, sqT_same r.fz h1, by rw [← h2.length]; exact c, ρ, F, st, ds, st', r, h2, e, q⟩
      · rw [if_neg c] at e
        cases e
    | _ => cases e
def asg (g : Gt) (d : D) (st : S) : SOut := match g d st with
  | some st' => .nx st'
  | none => .no
def sAsg (f : Ex) (g : Gt) : Sx := fun st => thenS (f st) st.env (asg g)
theorem asg_of {sl : List Nat} {g : Gt} {d : D} {v : V} (r : Rel G ρ F st σ H) (rv : RV G.K ρ F d v) (p : SPost G W ρ F E (asg g d st)) : tG G sl g v σ H E.nx := by
  unfold asg at p
  cases q : g d st with
  | none => rw [q] at p; exact p.elim
  | some st' =>
    rw [q] at p
    exact ⟨ρ, F, st, d, st', r, rv, q, fun σ' r' _ => p ρ F σ' H Ext.refl r'⟩
theorem ds_set {pos' : Pos} (hN : X.N.Nodup) (h : PE X e (tE G W fa)) (hi : X.N[i]? = some x := by rfl) (hx : Loc X.env.scope x := by first | exact Or.inl rfl | exact Or.inr rfl) (hs : swapsWith e (some (.Name x pos')) pos.line X.env = pure false := by rfl) (hf : X.fn x = true ∨ X.env.scope.names.lookup x = some .local := by first | exact .inl rfl | exact .inr rfl) : PS X (.Assign [.Name x pos'] e pos) (tS G W (sAsg fa (gNm i))) :=
  (ps_set (i := i) hN hi hx h hs hf).impV fun D σ H ⟨ρ, F, st, r, p⟩ => seqS (f := fa) r p fun ρ1 F1 H1 x c1 v x1 r1 rv1 p1 => p1 ρ1 F1 _ H1 Ext.refl (r1.slot rv1)
theorem ds_asg {tg : Expr} {sl : List Nat} {g : Gt} (h : PE X e (tE G W fa)) (hg : PG X tg (tG G sl g)) (hs : swapsWithSole [tg] e pos.line X.env = pure false := by rfl) (hw : swappedStores [tg] e X.env = pure none := by rfl) (h1 : (assignEach [tg] X.env).map (·.2) = [assign tg X.env] := by rfl) : PS X (.Assign [tg] e pos) (tS G W (sAsg fa g)) :=
  (ps_asg h hg hs hw h1).impV fun D σ H ⟨ρ, F, st, r, p⟩ => seqS (f := fa) r p fun ρ1 F1 H1 x c1 v x1 r1 rv1 p1 => asg_of r1 rv1 p1
/-- a, b = x, y -/
def sPar (is : List Nat) (g : Ax) : Sx := fun st => thenS (g st) st.env fun ds st' => match is, ds with
  | [i, j], [d, e] => .nx ⟨(st'.env.set i (some d)).set j (some e), st'.cs⟩
  | [i, j, k], [d, e, f] => .nx ⟨((st'.env.set i (some d)).set j (some e)).set k (some f), st'.cs⟩
  | _, _ => .no
theorem ds_par {j : Nat} {y : Str} {px py pt : Pos} {kt k2 pt2} {ga : Ax} (hc : X.calm = true) (hN : X.N.Nodup) (ha : PA X [a, b] (tAs G W ga)) (hij : i ≠ j) (hi : X.N[i]? = some x := by rfl) (hj : X.N[j]? = some y := by rfl)
    (hx : X.env.scope.names.lookup x = some .local := by rfl) (hy : X.env.scope.names.lookup y = some .local := by rfl)
    (hw : swappedStores [.Tuple [.Name x px, .Name y py] kt pt] (.Tuple [a, b] k2 pt2) X.env = pure (some [x, y]) := by rfl)
    (hs : swapsWithSole [.Tuple [.Name x px, .Name y py] kt pt] (.Tuple [a, b] k2 pt2) pos.line X.env = pure false := by rfl) :
    PS X (.Assign [.Tuple [.Name x px, .Name y py] kt pt] (.Tuple [a, b] k2 pt2) pos) (tS G W (sPar [i, j] ga)) :=
  (ps_par hc hN hi hj hij hx hy ha hw hs).impV fun D σ H ⟨ρ, F, st, r, p⟩ => seqS (R := RVs) (f := ga) r p fun ρ1 F1 H1 ds c1 vs x1 r1 rv1 p1 => by
    cases rv1 with
    | nil => exact p1.elim
    | cons h1 rv1 =>
      cases rv1 with
      | nil => exact p1.elim
      | cons h2 rv1 =>
        cases rv1 with
        | nil => exact ⟨_, _, rfl, p1 ρ1 F1 _ H1 Ext.refl ((r1.slot h1).slot h2)⟩
        | cons h3 rv1 => exact p1.elim
theorem ds_par3 {j l : Nat} {y z : Str} {px py pz pt : Pos} {kt k2 pt2} {ga : Ax} (hc : X.calm = true) (hN : X.N.Nodup) (ha : PA X [a, b, c] (tAs G W ga)) (hij : i ≠ j) (hil : i ≠ l) (hjl : j ≠ l) (hi : X.N[i]? = some x := by rfl) (hj : X.N[j]? = some y := by rfl) (hl : X.N[l]? = some z := by rfl)
    (hx : X.env.scope.names.lookup x = some .local := by rfl) (hy : X.env.scope.names.lookup y = some .local := by rfl) (hz : X.env.scope.names.lookup z = some .local := by rfl)
    (hw : swappedStores [.Tuple [.Name x px, .Name y py, .Name z pz] kt pt] (.Tuple [a, b, c] k2 pt2) X.env = pure (some [x, y, z]) := by rfl)
    (hs : swapsWithSole [.Tuple [.Name x px, .Name y py, .Name z pz] kt pt] (.Tuple [a, b, c] k2 pt2) pos.line X.env = pure false := by rfl) :
    PS X (.Assign [.Tuple [.Name x px, .Name y py, .Name z pz] kt pt] (.Tuple [a, b, c] k2 pt2) pos) (tS G W (sPar [i, j, l] ga)) :=
  (ps_par3 hc hN hi hj hl hij hil hjl hx hy hz ha hw hs).impV fun D σ H ⟨ρ, F, st, r, p⟩ => seqS (R := RVs) (f := ga) r p fun ρ1 F1 H1 ds c1 vs x1 r1 rv1 p1 => by
    cases rv1 with
    | nil => exact p1.elim
    | cons h1 rv1 =>
      cases rv1 with
      | nil => exact p1.elim
      | cons h2 rv1 =>
        cases rv1 with
        | nil => exact p1.elim
        | cons h3 rv1 =>
          cases rv1 with
          | nil => exact ⟨_, _, _, rfl, p1 ρ1 F1 _ H1 Ext.refl (((r1.slot h1).slot h2).slot h3)⟩
          | cons h4 rv1 => exact p1.elim
/-- o[i] = v, o an own list -/
def setIx (o k v : D) (st : S) : SOut := match o, k with
  | .loc n, .int k => match st.cs[n]? with
    | some (.lst ds) => (match ixN ds.length k with
      | some j => .nx ⟨st.env, st.cs.set n (.lst (ds.set j v))⟩
      | none => .no)
    | _ => .no
  | _, _ => .no
theorem setIx_of {o k d : D} {ov kv v : V} (r : Rel G ρ F st σ H) (h1 : RV G.K ρ F o ov) (h2 : RV G.K ρ F k kv) (h3 : RV G.K ρ F d v) (p : SPost G W ρ F E (setIx o k d st)) : rSetL ov kv v H fun H3 => E.nx σ H3 := by
  unfold setIx at p
  cases h1 with
  | @loc n a0 h1 =>
    cases h2 with
    | int k =>
      simp only at p
      cases q : st.cs[n]? with
      | none => simp only [q] at p; exact p.elim
      | some c0 =>
        cases c0 with
        | lst ds =>
          simp only [q] at p
          cases q2 : ixN ds.length k with
          | none => simp only [q2] at p; exact p.elim
          | some j =>
            simp only [q2] at p
            obtain ⟨vs, h4, h5⟩ := r.cell n _ _ q h1
            refine ⟨a0, vs, k, j, rfl, rfl, h4, by rw [← h5.length]; exact q2, ?_⟩
            exact p ρ F σ _ Ext.refl (r.cellSet (c := .lst (ds.set j d)) h1 ⟨_, upd_same, h5.set h3 j⟩)
        | dk _ _ => simp only [q] at p; exact p.elim
        | tbl _ _ => simp only [q] at p; exact p.elim
        | ins _ _ _ => simp only [q] at p; exact p.elim
    | _ => exact p.elim
  | _ => exact p.elim
def sSetIx (fv fo fi : Ex) : Sx := fun st => thenS (fv st) st.env fun v st1 => thenS (fo st1) st1.env fun o st2 => thenS (fi st2) st2.env fun k st3 => setIx o k v st3
theorem ds_setIx {fv fo fi : Ex} {o k v : Expr} {spos : Pos} (hv : PE X v (tE G W fv)) (ho : PE X o (tE G W fo)) (hi : PE X k (tE G W fi))
    (ha : ∀ u, assign (.Subscript o k spos) X.env u = (do
      let ov ← holding [u] (eval o X.env)
      let iv ← holding [u, ov] (eval k X.env)
      standAt spos
      holding [u, ov, iv] (setItem ov iv u)
      release [u, ov, iv] []) := by intro _; rfl)
    (hs : swapsWithSole [.Subscript o k spos] v pos.line X.env = pure false := by rfl) (hw : swappedStores [.Subscript o k spos] v X.env = pure none := by rfl) (h1 : (assignEach [.Subscript o k spos] X.env).map (·.2) = [assign (.Subscript o k spos) X.env] := by rfl) :
    PS X (.Assign [.Subscript o k spos] v pos) (tS G W (sSetIx fv fo fi)) :=
  (ps_asg hv (pg_sub ho hi set_list ha) hs hw h1).impV fun D σ H ⟨ρ, F, st, r, p⟩ => seqS (f := fv) r p fun ρ1 F1 H1 x c1 v x1 r1 rv1 p1 => seqS (st := ⟨st.env, c1⟩) (f := fo) r1 p1 fun ρ2 F2 H2 o c2 ov x2 r2 rv2 p2 => seqS (st := ⟨st.env, c2⟩) (f := fi) r2 p2 fun ρ3 F3 H3 k c3 kv x3 r3 rv3 p3 => by
    exact setIx_of (st := ⟨st.env, c3⟩) r3 (rv2.ext x3) rv3 ((rv1.ext x2).ext x3) p3
/-- x += e, x -= e of ints -/
def sAug (i : Nat) (g : Int → Int → Int) (f : Ex) : Sx := fun st => match st.env[i]? with
  | some (some (.int k)) => thenS (f st) st.env fun d st' => match d with
    | .int j => .nx ⟨st'.env.set i (some (.int (g k j))), st'.cs⟩
    | _ => .no
  | _ => .no
theorem ds_aug {op : Operator} {g : Int → Int → Int} {pos' : Pos} (hN : X.N.Nodup) (h : PE X e (tE G W fa)) (ho : PIp X op (ipI g)) (hi : X.N[i]? = some x := by rfl) (hx : Loc X.env.scope x := by first | exact Or.inl rfl | exact Or.inr rfl) (hf : X.fn x = true ∨ X.env.scope.names.lookup x = some .local := by first | exact .inl rfl | exact .inr rfl) :
    PS X (.AugAssign (.Name x pos') op e pos) (tS G W (sAug i g fa)) :=
  (ps_aug (i := i) hN hi hx h ho hf).impV fun D σ H ⟨ρ, F, st, r, p⟩ => by
    unfold sAug at p
    split at p
    · rename_i k q
      obtain ⟨v, e1, e2⟩ := r.env i _ q
      cases e2
      refine ⟨_, e1, seqS (f := fa) r p fun ρ1 F1 H1 d c1 w x1 r1 rv1 p1 => ?_⟩
      cases rv1 with
      | int j => exact ⟨_, _, rfl, rfl, p1 ρ1 F1 _ H1 Ext.refl (r1.slot (.int _))⟩
      | _ => exact p1.elim
    · exact p.elim
end
end VL

namespace VL
open PySem L2
/-! ### what is walked -/
/-- J gives ds, one after the other, as long as keep holds of the cells -/
def Wk (G : Gx) (ρ0 : List Addr) (F0 : Hp) (J : It) (ds : List D) (keep : List Cell → Bool) : Prop :=
  ∀ (ρ : List Addr) (F : Hp) (st : S) (σ : St) (H : Hp) (i : Nat), Ext ρ0 F0 ρ F → Rel G ρ F st σ H → keep st.cs = true →
    (∀ d, ds[i]? = some d → J.go i H ∧ ∀ x H', J.yld i H x H' → ∃ ρ' F', Ext ρ F ρ' F' ∧ ρ' = ρ ∧ (∀ b o, H b = some o → H' b = some o) ∧ Rel G ρ' F' st σ H' ∧ RV G.K ρ' F' d x) ∧ (i = ds.length → J.stop i H)
abbrev Walk := List D × (List Cell → Bool)
abbrev Ix := S → Out Walk
def tI (G : Gx) (W : WX) (src : Ix) : TI := fun σ H R => ∃ ρ F st, Rel G ρ F st σ H ∧ (match src st with
  | .ok w cs => ∀ ρ' F' H' J, Ext ρ F ρ' F' → Rel G ρ' F' ⟨st.env, cs⟩ σ H' → Wk G ρ' F' J w.1 w.2 → R J H'
  | .ex e cs => ∀ ρ' F' H' cls dx, Ext ρ F ρ' F' → Rel G ρ' F' ⟨st.env, cs⟩ σ H' → XAt G.K ρ' F' e cls dx → W cls dx σ H'
  | .no => False)
def keepAll : List Cell → Bool := fun _ => true
/-- the cell n holds ds -/
def keepAt (cs0 : List Cell) : D → List Cell → Bool
  | .loc n => fun cs => match cs0[n]?, cs[n]? with
    | some (.lst _), some (.lst _) => true
    | _, _ => false
  | _ => fun _ => true
section
variable {X : Cx} {G : Gx} {W : WX} {ρ : List Addr} {F : Hp} {st : S} {σ : St} {H : Hp} {tg e : Expr} {es : List Expr} {fa : Ex} {pos : Pos}
theorem _root_.L2.PI.impV {X : Cx} {tg e : Expr} {t t' : TI} (h : PI X tg e t) (m : ∀ σ H R, t' σ H R → t σ H R) : PI X tg e t' := ⟨fun pins s σ H R I hw => h.run pins s σ H R I (m _ _ _ hw)⟩
/-- lists' items are locked by a test of the cell: it holds these very items -/
def iLst (f : Ex) : Ix := fun st => (f st).bind fun x c1 => match x with
  | .tup ds => .ok (ds, keepAll) c1
  | .lst ds => .ok (ds, keepAll) c1
  | .frl ds => .ok (ds, keepAll) c1
  | _ => .no
theorem tI_of {α β : Type} {R : Kt → List Addr → Hp → α → β → Prop} {f : S → Out α} {k : α → List Cell → Out Walk} {Q : It → Hp → Prop} {Q' : β → Hp → Prop} (r : Rel G ρ F st σ H)
    (p : match (f st).bind k with
      | .ok w cs => ∀ ρ' F' H' J, Ext ρ F ρ' F' → Rel G ρ' F' ⟨st.env, cs⟩ σ H' → Wk G ρ' F' J w.1 w.2 → Q J H'
      | .ex e cs => ∀ ρ' F' H' cls dx, Ext ρ F ρ' F' → Rel G ρ' F' ⟨st.env, cs⟩ σ H' → XAt G.K ρ' F' e cls dx → W cls dx σ H'
      | .no => False)
    (h : ∀ ρ' F' H' a cs v, Ext ρ F ρ' F' → Rel G ρ' F' ⟨st.env, cs⟩ σ H' → R G.K ρ' F' a v → (∀ w, k a cs = .ok w cs → ∀ J, Wk G ρ' F' J w.1 w.2 → Q J H') → (k a cs ≠ .no) → Q' v H') (hk : ∀ a cs, (∃ w, k a cs = .ok w cs) ∨ k a cs = .no) : tX R G W f σ H Q' := by
  refine ⟨ρ, F, st, r, ?_⟩
  cases e : f st with
  | ok a cs =>
    rw [e] at p
    have p : match k a cs with
      | .ok w cs => ∀ ρ' F' H' J, Ext ρ F ρ' F' → Rel G ρ' F' ⟨st.env, cs⟩ σ H' → Wk G ρ' F' J w.1 w.2 → Q J H'
      | .ex e cs => ∀ ρ' F' H' cls dx, Ext ρ F ρ' F' → Rel G ρ' F' ⟨st.env, cs⟩ σ H' → XAt G.K ρ' F' e cls dx → W cls dx σ H'
      | .no => False := p
    rcases hk a cs with ⟨w, hw⟩ | hw
    · rw [hw] at p
      refine fun ρ' F' H' v x r' rv => h ρ' F' H' a cs v x r' rv (fun w' hw' J wk => ?_) (fun z => by rw [hw] at z; cases z)
      rw [hw] at hw'
      cases hw'
      exact p ρ' F' H' J x r' wk
    · rw [hw] at p
      exact p.elim
  | ex e' cs => rw [e] at p; exact p
  | no => rw [e] at p; exact p
theorem wk_list {a : Addr} {ds : List D} {vs : List V} (hs : SqL G.K.K F a vs) (rv : RVs G.K ρ F ds vs) : Wk G ρ F (Itl G.K.K a) ds keepAll := fun ρ1 F1 st1 σ1 H1 i x r _ => by
  have hs1 : SqL G.K.K H1 a vs := r.fz.seq (x.fz.seq hs)
  refine ⟨fun d e => ?_, fun e => ⟨vs, hs1, ?_⟩⟩
  · obtain ⟨v, e1, e2⟩ := (rv.ext x).get e
    exact ⟨⟨vs, v, hs1, e1⟩, fun y H' ⟨e3, e4⟩ => by
      subst e3
      have := e4 vs hs1
      rw [e1] at this
      cases this
      exact ⟨ρ1, F1, Ext.refl, rfl, fun _ _ h => h, r, e2⟩⟩
  · rw [← rv.length, e]
    exact Nat.le_refl _
theorem wk_tup {a : Addr} {ds : List D} {vs : List V} (hs : SqT G.K.K F a vs) (rv : RVs G.K ρ F ds vs) : Wk G ρ F (Itt G.K.K a) ds keepAll := fun ρ1 F1 st1 σ1 H1 i x r _ => by
  have hs1 : SqT G.K.K H1 a vs := sqT_same r.fz (sqT_same x.fz hs)
  refine ⟨fun d e => ?_, fun e => ⟨vs, hs1, ?_⟩⟩
  · obtain ⟨v, e1, e2⟩ := (rv.ext x).get e
    exact ⟨⟨vs, v, hs1, e1⟩, fun y H' ⟨e3, e4⟩ => by
      subst e3
      have := e4 vs hs1
      rw [e1] at this
      cases this
      exact ⟨ρ1, F1, Ext.refl, rfl, fun _ _ h => h, r, e2⟩⟩
  · rw [← rv.length, e]
    exact Nat.le_refl _
/-- for over a frozen list -/
def iL (f : Ex) : Ix := fun st => (f st).bind fun x c1 => match x with
  | .lst ds => .ok (ds, keepAll) c1
  | .frl ds => .ok (ds, keepAll) c1
  | _ => .no
theorem di_list (hK : X.K = G.K.K) (h : PE X e (tE G W fa)) : PI X tg e (tI G W (iL fa)) := (pi_list h).impV fun σ H R ⟨ρ, F, st, r, p⟩ => by
  refine tI_of (R := RV) r p (fun ρ1 F1 H1 x c1 v x1 r1 rv1 q hn => ?_) (fun x c1 => ?_)
  · rw [hK]
    cases rv1 with
    | lst h1 h2 => exact ⟨_, rfl, ⟨_, SqL.of (r1.fz _ _ h1)⟩, q _ rfl _ (wk_list (SqL.of h1) h2)⟩
    | frl h1 h2 => exact ⟨_, rfl, ⟨_, r1.fz.seq h1⟩, q _ rfl _ (wk_list h1 h2)⟩
    | _ => exact absurd rfl hn
  · cases x <;> first | exact .inl ⟨_, rfl⟩ | exact .inr rfl
/-- for over a tuple -/
def iT (f : Ex) : Ix := fun st => (f st).bind fun x c1 => match x with
  | .tup ds => .ok (ds, keepAll) c1
  | .btp ds => .ok (ds, keepAll) c1
  | _ => .no
theorem di_tup (hK : X.K = G.K.K) (h : PE X e (tE G W fa)) : PI X tg e (tI G W (iT fa)) := (pi_tup h).impV fun σ H R ⟨ρ, F, st, r, p⟩ => by
  refine tI_of (R := RV) r p (fun ρ1 F1 H1 x c1 v x1 r1 rv1 q hn => ?_) (fun x c1 => ?_)
  · rw [hK]
    cases rv1 with
    | tup h1 h2 => exact ⟨_, rfl, ⟨_, sqT_same r1.fz h1⟩, q _ rfl _ (wk_tup h1 h2)⟩
    | btp h1 _ h2 => exact ⟨_, rfl, ⟨_, sqT_same r1.fz (.inl (.inr ⟨_, h1⟩))⟩, q _ rfl _ (wk_tup (.inl (.inr ⟨_, h1⟩)) h2)⟩
    | _ => exact absurd rfl hn
  · cases x <;> first | exact .inl ⟨_, rfl⟩ | exact .inr rfl
/-- range(n), range(a, b) -/
def rangeD (lo : Int) (n : Nat) : List D := (List.range n).map fun i => .int (lo + (i : Nat))
theorem wk_range {lo : Int} {n : Nat} : Wk G ρ F (Itr lo n) (rangeD lo n) keepAll := fun ρ1 F1 st1 σ1 H1 i x r _ => by
  refine ⟨fun d e => ?_, fun e => ?_⟩
  · unfold rangeD at e
    rw [List.getElem?_map] at e
    by_cases c : i < n
    · rw [List.getElem?_range c] at e
      cases e
      refine ⟨c, fun y H' ⟨e3, e4⟩ => ?_⟩
      subst e3 e4
      exact ⟨ρ1, F1, Ext.refl, rfl, fun _ _ h => h, r, .int _⟩
    · rw [List.getElem?_eq_none_iff.mpr (by rw [List.length_range]; omega)] at e
      cases e
  · unfold rangeD at e
    rw [List.length_map, List.length_range] at e
    show n ≤ i
    omega
def iR1 (g : Ax) : Ix := fun st => (g st).bind fun xs c1 => match xs with
  | [.int j] => if decide (-(2 ^ 62) ≤ j) && decide (j < 2 ^ 62) then .ok (rangeD 0 j.toNat, keepAll) c1 else .no
  | _ => .no
theorem di_range1 {a : Expr} {g : Ax} {p pos : Pos} (hg : Gl X "range") (hm : X.mg "range" = none) (ha : PA X [a] (tAs G W g)) (hs : starEach [a] X.env = [(false, eval a X.env)] := by rfl) : PI X tg (.Call (.Name "range" p) [a] [] pos) (tI G W (iR1 g)) :=
  (pi_range1 hg hm ha hs).impV fun σ H R ⟨ρ, F, st, r, p⟩ => by
    refine tI_of (R := RVs) r p (fun ρ1 F1 H1 xs c1 v x1 r1 rv1 q hn => ?_) (fun xs c1 => ?_)
    · split at hn
      · rename_i j
        by_cases c : (decide (-(2 ^ 62) ≤ j) && decide (j < 2 ^ 62)) = true
        · have q := q (rangeD 0 j.toNat, keepAll) (by simp only [c, if_true]) _ wk_range
          simp only [Bool.and_eq_true, decide_eq_true_eq] at c
          cases rv1 with
          | cons h1 h2 =>
            cases h1
            cases h2
            exact ⟨j, rfl, c.1, c.2, q⟩
        · simp only [c, if_false] at hn
          exact absurd rfl hn
      · exact absurd rfl hn
    · split
      · split
        · exact .inl ⟨_, rfl⟩
        · exact .inr rfl
      · exact .inr rfl
def iR2 (g : Ax) : Ix := fun st => (g st).bind fun xs c1 => match xs with
  | [.int i, .int j] => if decide (-(2 ^ 62) ≤ i) && decide (i < 2 ^ 62) && decide (-(2 ^ 62) ≤ j) && decide (j < 2 ^ 62) then .ok (rangeD i (j - i).toNat, keepAll) c1 else .no
  | _ => .no
theorem di_range2 {a b : Expr} {g : Ax} {p pos : Pos} (hg : Gl X "range") (hm : X.mg "range" = none) (ha : PA X [a, b] (tAs G W g)) (hs : starEach [a, b] X.env = [(false, eval a X.env), (false, eval b X.env)] := by rfl) (hs2 : starEach [b] X.env = [(false, eval b X.env)] := by rfl) : PI X tg (.Call (.Name "range" p) [a, b] [] pos) (tI G W (iR2 g)) :=
  (pi_range2 hg hm ha hs hs2).impV fun σ H R ⟨ρ, F, st, r, p⟩ => by
    refine tI_of (R := RVs) r p (fun ρ1 F1 H1 xs c1 v x1 r1 rv1 q hn => ?_) (fun xs c1 => ?_)
    · split at hn
      · rename_i i j
        by_cases c : (decide (-(2 ^ 62) ≤ i) && decide (i < 2 ^ 62) && decide (-(2 ^ 62) ≤ j) && decide (j < 2 ^ 62)) = true
        · have q := q (rangeD i (j - i).toNat, keepAll) (by simp only [c, if_true]) _ wk_range
          simp only [Bool.and_eq_true, decide_eq_true_eq] at c
          cases rv1 with
          | cons h1 h2 =>
            cases h1
            cases h2 with
            | cons h1 h2 =>
              cases h1
              cases h2
              exact ⟨i, j, rfl, ⟨c.1.1.1, c.1.1.2, c.1.2, c.2⟩, q⟩
        · simp only [c, if_false] at hn
          exact absurd rfl hn
      · exact absurd rfl hn
    · split
      · split
        · exact .inl ⟨_, rfl⟩
        · exact .inr rfl
      · exact .inr rfl
/-- a text sign by sign -/
def iS (f : Ex) : Ix := fun st => (f st).bind fun x c1 => match x with
  | .str z => .ok (z.cps.toList.map fun c => .str ⟨#[c]⟩, keepAll) c1
  | _ => .no
theorem di_str (h : PE X e (tE G W fa)) : PI X tg e (tI G W (iS fa)) := (pi_str h).impV fun σ H R ⟨ρ, F, st, r, p⟩ => by
  refine tI_of (R := RV) r p (fun ρ1 F1 H1 x c1 v x1 r1 rv1 q hn => ?_) (fun x c1 => ?_)
  · cases rv1 with
    | str z =>
      refine ⟨_, rfl, q _ rfl _ fun ρ2 F2 st2 σ2 H2 i x r _ => ⟨fun d e => ?_, fun e => ?_⟩⟩
      · rw [List.getElem?_map] at e
        cases q : z.cps.toList[i]? with
        | none => rw [q] at e; cases e
        | some c =>
          rw [q] at e
          cases e
          have q' : z.cps[i]? = some c := by rw [← Array.getElem?_toList]; exact q
          refine ⟨(Array.getElem?_eq_some_iff.mp q').1, fun y H' ⟨e3, c', e4, e5⟩ => ?_⟩
          rw [q'] at e4
          cases e4
          subst e3 e5
          exact ⟨ρ2, F2, Ext.refl, rfl, fun _ _ h => h, r, .str _⟩
      · rw [List.length_map, Array.length_toList] at e
        show z.cps.size ≤ i
        omega
    | _ => exact absurd rfl hn
  · cases x <;> first | exact .inl ⟨_, rfl⟩ | exact .inr rfl
/-- enumerate of a frozen list -/
def enumD (ds : List D) : List D := ds.mapIdx fun i d => .tup [.int (i : Nat), d]
theorem wk_enum {a : Addr} {ds : List D} {vs : List V} (hs : SqL G.K.K F a vs) (rv : RVs G.K ρ F ds vs) : Wk G ρ F (Ite G.K.K a) (enumD ds) keepAll := fun ρ1 F1 st1 σ1 H1 i x r _ => by
  have hs1 : SqL G.K.K H1 a vs := r.fz.seq (x.fz.seq hs)
  refine ⟨fun d e => ?_, fun e => ⟨vs, hs1, ?_⟩⟩
  · unfold enumD at e
    rw [List.getElem?_mapIdx] at e
    cases q : ds[i]? with
    | none => rw [q] at e; cases e
    | some d0 =>
      rw [q] at e
      cases e
      obtain ⟨v, e1, e2⟩ := (rv.ext x).get q
      refine ⟨⟨vs, v, hs1, e1⟩, fun y H' ⟨T, u, e3, e4, e5, e6⟩ => ?_⟩
      have := e6 vs hs1
      rw [e1] at this
      cases this
      subst e3 e5
      obtain ⟨x2, r2⟩ := r.fresh (o := .tup [.int (i : Nat), v]) e4
      exact ⟨ρ1, _, x2, rfl, same_upd' e4, r2, .tup (SqT.of upd_same) (.cons (.int _) (.cons (e2.ext x2) .nil))⟩
  · unfold enumD at e
    rw [List.length_mapIdx] at e
    rw [← rv.length]
    omega
def iEn (g : Ax) : Ix := fun st => (g st).bind fun xs c1 => match xs with
  | [.lst ds] => .ok (enumD ds, keepAll) c1
  | [.frl ds] => .ok (enumD ds, keepAll) c1
  | _ => .no
theorem di_enum {g : Ax} {p pos tpos : Pos} {elts : List Expr} {kk : Nat} (hK : X.K = G.K.K) (hg : Gl X "enumerate") (hm : X.mg "enumerate" = none) (ha : PA X [e] (tAs G W g)) (hs : starEach [e] X.env = [(false, eval e X.env)] := by rfl) :
    PI X (.Tuple elts kk tpos) (.Call (.Name "enumerate" p) [e] [] pos) (tI G W (iEn g)) :=
  (pi_enum hg hm ha hs).impV fun σ H R ⟨ρ, F, st, r, p⟩ => by
    refine tI_of (R := RVs) r p (fun ρ1 F1 H1 xs c1 v x1 r1 rv1 q hn => ?_) (fun xs c1 => ?_)
    · rw [hK]
      split at hn
      · cases rv1 with
        | cons h1 h2 =>
          cases h2
          cases h1 with
          | lst h1 h2 => exact ⟨_, _, rfl, SqL.of (r1.fz _ _ h1), q _ rfl _ (wk_enum (SqL.of h1) h2)⟩
      · cases rv1 with
        | cons h1 h2 =>
          cases h2
          cases h1 with
          | frl h1 h2 => exact ⟨_, _, rfl, r1.fz.seq h1, q _ rfl _ (wk_enum h1 h2)⟩
      · exact absurd rfl hn
    · split <;> first | exact .inl ⟨_, rfl⟩ | exact .inr rfl

/-! ### for -/
def forL (g : Gt) (body : Sx) (keep : List Cell → Bool) : List D → S → SOut
  | [], st => if keep st.cs then .nx st else .no
  | d :: ds, st => if keep st.cs then (match g d st with
    | some st1 => (match body st1 with
      | .nx st2 => forL g body keep ds st2
      | .ct st2 => forL g body keep ds st2
      | .bk st2 => .nx st2
      | o => o)
    | none => .no) else .no
def sFor (src : Ix) (g : Gt) (body : Sx) : Sx := fun st => thenS (src st) st.env fun w st' => forL g body w.2 w.1 st'
theorem ds_for {body : List Stmt} {src : Ix} {sl : List Nat} {g : Gt} {f : Sx} (hp : PassesOwn (model X.prog X.w) X.A X.env X.xe) (hc : X.calm = true) (hi : PI X tg e (tI G W src)) (hg : PG X tg (tG G sl g)) (hb : PSs X body (tS G W f)) (hs : ∀ x, foldedSetIterable e X.env x = pure x := by intro _; rfl) :
    PS X (.For tg e body [] pos) (tS G W (sFor src g f)) := (ps_for hp hc hi hg hb hs).impV fun D σ H ⟨ρ, F, st, r, p⟩ => by
  refine ⟨ρ, F, st, r, ?_⟩
  unfold sFor at p
  cases q : src st with
  | no => rw [q] at p; exact p
  | ex e' cs =>
    rw [q] at p
    exact fun ρ' F' H' c d x r' xa => p ρ' F' σ H' c d x r' xa
  | ok w cs =>
    rw [q] at p
    obtain ⟨ds, keep⟩ := w
    intro ρ' F' H' J x r' wk
    refine ⟨fun i m σ1 H1 => ∃ ρ1 F1 st1, Ext ρ' F' ρ1 F1 ∧ Rel G ρ1 F1 st1 σ1 H1 ∧ i + m = ds.length ∧ SPost G W ρ1 F1 D (forL g f keep (ds.drop i) st1), ⟨ds.length, ρ', F', _, Ext.refl, r', Nat.zero_add _, SPost.ext x p⟩, ?_⟩
    rintro i m σ1 H1 ⟨ρ1, F1, st1, x1, r1, em, p1⟩
    cases hd : ds.drop i with
    | nil =>
      rw [hd] at p1
      unfold forL at p1
      have hi : i = ds.length := by
        have := List.drop_eq_nil_iff.mp hd
        omega
      by_cases hk : keep st1.cs = true
      · rw [if_pos hk] at p1
        exact .inl ⟨(wk ρ1 F1 st1 σ1 H1 i x1 r1 hk).2 hi, p1 ρ1 F1 σ1 H1 Ext.refl r1⟩
      · rw [if_neg hk] at p1
        exact p1.elim
    | cons d rest =>
      rw [hd] at p1
      unfold forL at p1
      have hi : ds[i]? = some d := by
        have := List.getElem?_drop (xs := ds) (i := i) (j := 0)
        rw [hd, Nat.add_zero] at this
        exact this.symm
      have hr : ds.drop (i + 1) = rest := by
        rw [← List.drop_drop, hd]; rfl
      by_cases hk : keep st1.cs = true
      · rw [if_pos hk] at p1
        obtain ⟨go, yl⟩ := (wk ρ1 F1 st1 σ1 H1 i x1 r1 hk).1 d hi
        refine .inr ⟨go, fun σ2 H2 => ∃ ρ2 F2 st2, Ext ρ' F' ρ2 F2 ∧ Rel G ρ2 F2 st2 σ2 H2 ∧ SPost G W ρ2 F2 D (forL g f keep rest st2), fun σ2 H2 ⟨ρ2, F2, st2, x2, r2, p2⟩ => ⟨m - 1, ?_, ρ2, F2, st2, x2, r2, ?_, by rw [hr]; exact p2⟩, fun y H2 hy => ?_⟩
        · have := (List.getElem?_eq_some_iff.mp hi).1
          omega
        · have := (List.getElem?_eq_some_iff.mp hi).1
          omega
        · obtain ⟨ρ3, F3, x3, _, _, r3, rv3⟩ := yl y H2 hy
          have p3 := SPost.ext x3 p1
          cases q3 : g d st1 with
          | none => simp only [q3] at p3; exact p3.elim
          | some st3 =>
            simp only [q3] at p3
            refine ⟨ρ3, F3, st1, d, st3, r3, rv3, q3, fun σ4 r4 _ => ⟨ρ3, F3, st3, r4, ?_⟩⟩
            cases q4 : f st3 with
            | nx st4 =>
              simp only [q4] at p3
              exact fun ρ5 F5 σ5 H5 x5 r5 => ⟨ρ5, F5, st4, (x1.trans x3).trans x5, r5, SPost.ext x5 p3⟩
            | ct st4 =>
              simp only [q4] at p3
              exact fun ρ5 F5 σ5 H5 x5 r5 => ⟨ρ5, F5, st4, (x1.trans x3).trans x5, r5, SPost.ext x5 p3⟩
            | bk st4 =>
              simp only [q4] at p3
              exact p3
            | rt d4 st4 => simp only [q4] at p3; exact p3
            | ex e4 st4 => simp only [q4] at p3; exact p3
            | no => simp only [q4] at p3; exact p3
      · rw [if_neg hk] at p1
        exact p1.elim

/-! ### while -/
def whL (t : Tx) (body : Sx) : Nat → S → SOut
  | 0, _ => .no
  | n + 1, st => thenS (t st) st.env fun k st1 => if k then (match body st1 with
    | .nx st2 => whL t body n st2
    | .ct st2 => whL t body n st2
    | .bk st2 => .nx st2
    | o => o) else .nx st1
def sWhile (fuel : S → Nat) (t : Tx) (body : Sx) : Sx := fun st => whL t body (fuel st) st
theorem ds_while {c : Expr} {body : List Stmt} {fuel : S → Nat} {t : Tx} {f : Sx} (hp : PassesOwn (model X.prog X.w) X.A X.env X.xe) (hc : PT X c (tTs G W t)) (hb : PSs X body (tS G W f)) : PS X (.While c body [] pos) (tS G W (sWhile fuel t f)) :=
  (ps_while hp hc hb).impV fun D σ H ⟨ρ, F, st, r, p⟩ => by
    refine ⟨fun m σ1 H1 => ∃ ρ1 F1 st1, Rel G ρ1 F1 st1 σ1 H1 ∧ SPost G W ρ1 F1 D (whL t f m st1), ⟨fuel st, ρ, F, st, r, p⟩, ?_⟩
    rintro m σ1 H1 ⟨ρ1, F1, st1, r1, p1⟩
    cases m with
    | zero => exact p1.elim
    | succ n =>
      unfold whL at p1
      refine seqS (R := RB) (f := t) r1 p1 fun ρ2 F2 H2 k c2 k' x2 r2 e p2 => ?_
      have e : k = k' := e
      subst e
      cases k with
      | false => exact p2 ρ2 F2 σ1 H2 Ext.refl r2
      | true =>
        rw [if_pos rfl]
        rw [if_pos rfl] at p2
        refine ⟨fun σ3 H3 => ∃ ρ3 F3 st3, Rel G ρ3 F3 st3 σ3 H3 ∧ SPost G W ρ3 F3 D (whL t f n st3), fun σ3 H3 h3 => ⟨n, Nat.lt_succ_self n, h3⟩, ρ2, F2, _, r2, ?_⟩
        cases q4 : f ⟨st1.env, c2⟩ with
        | nx st4 =>
          simp only [q4] at p2
          exact fun ρ5 F5 σ5 H5 x5 r5 => ⟨ρ5, F5, st4, r5, SPost.ext x5 p2⟩
        | ct st4 =>
          simp only [q4] at p2
          exact fun ρ5 F5 σ5 H5 x5 r5 => ⟨ρ5, F5, st4, r5, SPost.ext x5 p2⟩
        | bk st4 => simp only [q4] at p2; exact p2
        | rt d4 st4 => simp only [q4] at p2; exact p2
        | ex e4 st4 => simp only [q4] at p2; exact p2
        | no => simp only [q4] at p2; exact p2
end
end VL

namespace VL
open PySem L2
/-- nothing is raised -/
abbrev W0 : WX := fun _ _ _ _ => False
def wipeD (env : List (Option D)) : List Nat → List (Option D)
  | [] => env
  | v :: vs => (wipeD env vs).set v none
theorem wipeD_length (env : List (Option D)) : ∀ vs : List Nat, (wipeD env vs).length = env.length
  | [] => rfl
  | v :: vs => by unfold wipeD; rw [List.length_set, wipeD_length env vs]
theorem wipeD_some {env : List (Option D)} {i : Nat} {x : D} : ∀ {vs : List Nat}, (wipeD env vs)[i]? = some (some x) → env[i]? = some (some x) ∧ i ∉ vs
  | [], h => ⟨h, by simp⟩
  | v :: vs, h => by
    unfold wipeD at h
    by_cases hi : v = i
    · subst hi
      by_cases hv : v < (wipeD env vs).length
      · rw [List.getElem?_set_self hv] at h; cases h
      · rw [List.getElem?_eq_none (by simpa using hv)] at h; cases h
    · rw [List.getElem?_set_ne hi] at h
      obtain ⟨h1, h2⟩ := wipeD_some h
      exact ⟨h1, by simp only [List.mem_cons, not_or]; exact ⟨fun e => hi e.symm, h2⟩⟩
theorem wipe_get {σ : St} {j : Nat} : ∀ {vs : List Nat}, (wipe σ vs)[j]? = if j ∈ vs then (if j < σ.length then some none else none) else σ[j]?
  | [] => by simp [wipe]
  | v :: vs => by
    unfold wipe
    by_cases hj : v = j
    · subst hj
      rw [if_pos List.mem_cons_self]
      by_cases hv : v < σ.length
      · rw [if_pos hv, List.getElem?_set_self (by rw [wipe_length]; exact hv)]
      · rw [if_neg hv, List.getElem?_eq_none (by rw [List.length_set, wipe_length]; omega)]
    · rw [List.getElem?_set_ne hj, wipe_get (vs := vs)]
      by_cases h : j ∈ vs
      · rw [if_pos h, if_pos (List.mem_cons_of_mem _ h)]
      · rw [if_neg h, if_neg (fun z => (List.mem_cons.mp z).elim (fun e => hj e.symm) h)]
theorem wipe_but {vs sl : List Nat} {σ σ' : St} (h : But sl (wipe σ vs) σ') (hs : ∀ i ∈ sl, i ∈ vs) : wipe σ' vs = wipe σ vs := by
  have hl : σ'.length = σ.length := by rw [h.1, wipe_length]
  refine List.ext_getElem? fun j => ?_
  rw [wipe_get, wipe_get]
  by_cases hj : j ∈ vs
  · rw [if_pos hj, if_pos hj, hl]
  · rw [if_neg hj, if_neg hj, h.2 j (fun z => hj (hs j z)), wipe_get, if_neg hj]
section
variable {X : Cx} {G : Gx} {ρ ρ' : List Addr} {F F' : Hp} {st : S} {σ σ' : St} {H H' : Hp}
theorem Rel.wiped (r : Rel G ρ F st σ H) (vs : List Nat) : Rel G ρ F ⟨wipeD st.env vs, st.cs⟩ (wipe σ vs) H :=
  ⟨by show (wipeD st.env vs).length = _; rw [wipeD_length, wipe_length, r.len], fun i d e => by
    obtain ⟨h1, h2⟩ := wipeD_some e
    obtain ⟨v, e1, e2⟩ := r.env i d h1
    exact ⟨v, by rw [wipe_get, if_neg h2]; exact e1, e2⟩, r.cl, r.cell, r.nd, r.fz, r.sep, r.fr, r.own, r.new, r.old, r.a0⟩
/-- back to elder slots -/
theorem Rel.back {env env' : List (Option D)} {cs cs' : List Cell} (r : Rel G ρ F ⟨env, cs⟩ σ H) (x : Ext ρ F ρ' F') (r' : Rel G ρ' F' ⟨env', cs'⟩ σ' H') : Rel G ρ' F' ⟨env, cs'⟩ σ H' :=
  ⟨r.len, fun i d e => let ⟨v, e1, e2⟩ := r.env i d e; ⟨v, e1, e2.ext x⟩, r'.cl, r'.cell, r'.nd, r'.fz, r'.sep, r'.fr, r'.own, r'.new, r'.old, r'.a0⟩
end
/-! ### the own cells that a value names lie below n -/
mutual
def below (n : Nat) : D → Bool
  | .non => true
  | .bl _ => true
  | .int _ => true
  | .str _ => true
  | .tup ds => belows n ds
  | .lst ds => belows n ds
  | .frl ds => belows n ds
  | .obj _ _ ds => belows n ds
  | .dct _ ds => belows n ds
  | .btp ds => belows n ds
  | .cls _ => true
  | .loc m => decide (m < n)
def belows (n : Nat) : List D → Bool
  | [] => true
  | d :: r => below n d && belows n r
end
def belowC (n : Nat) : Cell → Bool
  | .lst ds => belows n ds
  | .dk _ ds => belows n ds
  | .ins _ _ ds => belows n ds
  | .tbl _ _ => true
mutual
theorem RV.cut {K : Kt} {ρ : List Addr} {F F' : Hp} {n : Nat} (s : Same F F') : ∀ {d : D} {v : V}, RV K ρ F d v → below n d = true → RV K (ρ.take n) F' d v
  | _, _, .non, _ => .non
  | _, _, .bl b, _ => .bl b
  | _, _, .int i, _ => .int i
  | _, _, .str x, _ => .str x
  | _, _, .tup h r, e => .tup (sqT_same s h) (RVs.cut s r (by simpa [below] using e))
  | _, _, .lst h r, e => .lst (s _ _ h) (RVs.cut s r (by simpa [below] using e))
  | _, _, .frl h r, e => .frl (s.seq h) (RVs.cut s r (by simpa [below] using e))
  | _, _, .obj h l r, e => .obj (s _ _ h) l (RVs.cut s r (by simpa [below] using e))
  | _, _, .dct h l r, e => .dct (s _ _ h) l (RVs.cut s r (by simpa [below] using e))
  | _, _, .btp h l r, e => .btp (s _ _ h) l (RVs.cut s r (by simpa [below] using e))
  | _, _, .cls C, _ => .cls C
  | _, _, .loc h, e => .loc (by
    simp only [below, decide_eq_true_eq] at e
    rw [List.getElem?_take_of_lt e]
    exact h)
theorem RVs.cut {K : Kt} {ρ : List Addr} {F F' : Hp} {n : Nat} (s : Same F F') : ∀ {ds : List D} {vs : List V}, RVs K ρ F ds vs → belows n ds = true → RVs K (ρ.take n) F' ds vs
  | _, _, .nil, _ => .nil
  | _, _, .cons h r, e => by
    simp only [belows, Bool.and_eq_true] at e
    exact .cons (RV.cut s h e.1) (RVs.cut s r e.2)
end
theorem CellAt.cut {K : Kt} {ρ : List Addr} {F F' H : Hp} {a : Addr} {n : Nat} (s : Same F F') : ∀ {c : Cell}, CellAt K ρ F H a c → belowC n c = true → CellAt K (ρ.take n) F' H a c
  | .lst _, ⟨_, h, r⟩, e => ⟨_, h, r.cut s e⟩
  | .dk _ _, ⟨_, h, l, r⟩, e => ⟨_, h, l, r.cut s e⟩
  | .ins _ _ _, ⟨_, _, h, l, r⟩, e => ⟨_, _, h, l, r.cut s e⟩
  | .tbl _ _, ⟨z, _, h, t, c⟩, _ => ⟨z, _, h, t, fun pos cv q => (c pos cv q).imp fun b ⟨w1, w2⟩ => ⟨w1, s _ _ w2⟩⟩
/-- the last own cell, a list, becomes a frozen one: its place leaves the cells -/
theorem Rel.freeze {G : Gx} {ρ0 ρ : List Addr} {F0 F : Hp} {env0 env : List (Option D)} {cs0 cs : List Cell} {ds : List D} {σ0 σ : St} {H0 H : Hp} {a : Addr} {n : Nat} (r0 : Rel G ρ0 F0 ⟨env0, cs0⟩ σ0 H0) (hn : n = cs0.length) (x : Ext ρ0 F0 ρ F)
    (r : Rel G ρ F ⟨env, cs ++ [.lst ds]⟩ σ H) (hl : cs.length = n) (ha : ρ[n]? = some a) (b1 : belows n ds = true) (b2 : cs.all (belowC n) = true) :
    ∃ F', Ext ρ0 F0 ρ0 F' ∧ Rel G ρ0 F' ⟨env0, cs⟩ σ0 H ∧ RV G.K ρ0 F' (.lst ds) (.ref a) := by
  have hρ : ρ.take n = ρ0 := by
    obtain ⟨t, rfl⟩ := x.pre
    rw [hn, ← show ρ0.length = cs0.length from r0.cl, List.take_left]
  obtain ⟨vs, h1, h2⟩ := r.cell n (.lst ds) a (by
    show (cs ++ [Cell.lst ds])[n]? = _
    rw [List.getElem?_append_right (by omega), hl, Nat.sub_self]; rfl) ha
  have hm : a ∈ ρ := List.mem_of_getElem? ha
  have hFa : F a = none := r.sep a hm
  have s1 : Same F (upd F a (.lst vs)) := same_upd' hFa
  have hlen : ρ.length = n + 1 := by rw [show ρ.length = (cs ++ [Cell.lst ds]).length from r.cl, List.length_append, hl]; rfl
  have hna : a ∉ ρ0 := fun z => by
    rw [← hρ] at z
    obtain ⟨i, hi, e⟩ := List.getElem_of_mem z
    rw [List.length_take] at hi
    have hin : i < n := by omega
    rw [List.getElem_take] at e
    obtain ⟨h3, h3'⟩ := List.getElem?_eq_some_iff.mp ha
    have := (List.getElem_inj r.nd).mp (e.trans h3'.symm)
    omega
  have hA : a ∉ G.A0 := fun z => hna (r0.a0.subset z)
  have hH0 : G.H0 a = none := (r.own a hm).resolve_left hA
  refine ⟨upd F a (.lst vs), ⟨List.prefix_refl _, x.fz.trans s1⟩, ⟨r0.len, fun i d e => ?_, ?_, fun i c b e1 e2 => ?_, r0.nd, fun b o e => ?_, fun b hb => ?_, r.fr, fun b hb => r.own b (x.pre.subset hb), fun b o e => ?_, r.old.trans s1, r0.a0⟩, ?_⟩
  · obtain ⟨v, e1, e2⟩ := r0.env i d e
    exact ⟨v, e1, e2.ext ⟨List.prefix_refl _, x.fz.trans s1⟩⟩
  · show ρ0.length = cs.length
    rw [hl, hn]; exact r0.cl
  · have e1 : cs[i]? = some c := e1
    have hi : i < cs.length := (List.getElem?_eq_some_iff.mp e1).1
    have e3 : ρ[i]? = some b := x.at e2
    have := r.cell i c b (by show (cs ++ [Cell.lst ds])[i]? = _; rw [List.getElem?_append_left hi]; exact e1) e3
    have q := this.cut (n := n) s1 (List.all_eq_true.mp b2 c (List.mem_of_getElem? e1))
    rw [hρ] at q
    exact q
  · by_cases hb : b = a
    · subst hb
      rw [upd_same] at e
      cases e
      exact h1
    · rw [upd_ne hb] at e
      exact r.fz b o e
  · rw [upd_ne (show b ≠ a from fun z => hna (by rw [← z]; exact hb))]
    exact r.sep b (x.pre.subset hb)
  · by_cases hb : b = a
    · subst hb
      exact .inr hH0
    · rw [upd_ne hb] at e
      exact r.new b o e
  · have q := h2.cut (n := n) s1 b1
    rw [hρ] at q
    exact .lst upd_same q
/-! ### comprehensions -/
/-- the list is made in the cell n -/
def lcL (g : Gt) (t : Tx) (f : Ex) (keep : List Cell → Bool) (env : List (Option D)) (n : Nat) : List D → List Cell → Option (List Cell)
  | [], cs => if keep cs then some cs else none
  | d :: ds, cs => if keep cs then (match g d ⟨env, cs⟩ with
    | some st1 => (match t st1 with
      | .ok true c2 => (match f ⟨st1.env, c2⟩ with
        | .ok y c3 => (match c3[n]? with
          | some (.lst acc) => if acc.length < 16777216 then lcL g t f keep env n ds (c3.set n (.lst (acc ++ [y]))) else none
          | _ => none)
        | _ => none)
      | .ok false c2 => lcL g t f keep env n ds c2
      | _ => none)
    | none => none) else none
/-- split off the last cell -/
def lastCell (cs : List Cell) : Option (List Cell × List D) := match cs.reverse with
  | .lst ds :: r => some (r.reverse, ds)
  | _ => none
theorem lastCell_eq {cs c1 : List Cell} {ds : List D} (h : lastCell cs = some (c1, ds)) : cs = c1 ++ [.lst ds] := by
  unfold lastCell at h
  split at h
  · rename_i es r e
    cases h
    rw [← List.reverse_reverse cs, e, List.reverse_cons]
  · cases h
/-- a comprehension's list, frozen -/
def eLc (src : Ix) (g : Gt) (t : Tx) (f : Ex) (vs : List Nat) : Ex := fun st => (src st).bind fun w c1 => match lcL g t f w.2 (wipeD st.env vs) c1.length w.1 (c1 ++ [.lst []]) with
  | some c2 => (match lastCell c2 with
    | some (c3, ds) => if c3.length = c1.length ∧ belows c1.length ds = true ∧ c3.all (belowC c1.length) = true then .ok (.lst ds) c3 else .no
    | none => .no)
  | none => .no
/-- a comprehension's list, an own cell -/
def eLcLoc (src : Ix) (g : Gt) (t : Tx) (f : Ex) (vs : List Nat) : Ex := fun st => (src st).bind fun w c1 => match lcL g t f w.2 (wipeD st.env vs) c1.length w.1 (c1 ++ [.lst []]) with
  | some c2 => .ok (.loc c1.length) c2
  | none => .no
section
variable {X : Cx} {G : Gx} {W : WX} {tg iter elt : Expr} {ifs : List Expr}
theorem lc_of {src : Ix} {sl vs : List Nat} {g : Gt} {t : Tx} {f : Ex} (hsl : ∀ i ∈ sl, i ∈ vs) {k : S → Walk → List Cell → List Cell → Out D} {σ : St} {H : Hp} {Q : VK} {ρ : List Addr} {F : Hp} {st : S} (r : Rel G ρ F st σ H)
    (p : Post RV G W ρ F st.env σ Q ((src st).bind fun w c1 => match lcL g t f w.2 (wipeD st.env vs) c1.length w.1 (c1 ++ [.lst []]) with
      | some c2 => k st w c1 c2
      | none => .no))
    (fin : ∀ (w : Walk) (c1 c2 : List Cell) (ρ1 : List Addr) (F1 H1 : Hp) (ρ2 : List Addr) (F2 H2 : Hp) (a : Addr), Ext ρ F ρ1 F1 → Rel G ρ1 F1 ⟨st.env, c1⟩ σ H1 → Ext (ρ1 ++ [a]) F1 ρ2 F2 → Rel G ρ2 F2 ⟨st.env, c2⟩ σ H2 → ρ1.length = c1.length → Post RV G W ρ F st.env σ Q (k st w c1 c2) → Q (.ref a) H2) :
    tLc (tI G W src) (tG G sl g) (tTs G W0 t) (tE G W0 f) vs σ H Q := by
  refine ⟨ρ, F, st, r, ?_⟩
  cases q : src st with
  | no => rw [q] at p; exact p
  | ex e' cs =>
    rw [q] at p
    exact fun ρ' F' H' c d x r' xa => p ρ' F' H' c d x r' xa
  | ok w c1 =>
    rw [q] at p
    have p : Post RV G W ρ F st.env σ Q (match lcL g t f w.2 (wipeD st.env vs) c1.length w.1 (c1 ++ [.lst []]) with
      | some c2 => k st w c1 c2
      | none => .no) := p
    cases q2 : lcL g t f w.2 (wipeD st.env vs) c1.length w.1 (c1 ++ [.lst []]) with
    | none => rw [q2] at p; exact p.elim
    | some c2 =>
    rw [q2] at p
    obtain ⟨ds, keep⟩ := w
    have q2 : lcL g t f keep (wipeD st.env vs) c1.length ds (c1 ++ [.lst []]) = some c2 := q2
    intro ρ1 F1 H1 J x1 r1 wk D hD
    have hl1 : ρ1.length = c1.length := r1.cl
    have y0 : Ext ρ1 F1 (ρ1 ++ [D]) F1 := ⟨List.prefix_append _ _, Same.refl _⟩
    obtain ⟨_, r2⟩ := r1.cellNew (p := D) (o := .lst []) (c := .lst []) hD ⟨[], upd_same, .nil⟩
    refine ⟨fun i m H2 => ∃ ρ2 F2 cs, Ext (ρ1 ++ [D]) F1 ρ2 F2 ∧ Rel G ρ2 F2 ⟨st.env, cs⟩ σ H2 ∧ i + m = ds.length ∧ lcL g t f keep (wipeD st.env vs) c1.length (ds.drop i) cs = some c2, ⟨ds.length, ρ1 ++ [D], F1, _, Ext.refl, r2, Nat.zero_add _, q2⟩, ?_⟩
    rintro i m H2 ⟨ρ2, F2, cs, x2, r2, em, e2⟩
    cases hd : ds.drop i with
    | nil =>
      rw [hd] at e2
      unfold lcL at e2
      have hi : i = ds.length := by
        have := List.drop_eq_nil_iff.mp hd
        omega
      by_cases hk : keep cs = true
      · rw [if_pos hk] at e2
        cases e2
        exact .inl ⟨(wk ρ2 F2 _ σ H2 i (y0.trans x2) r2 hk).2 hi, fin _ _ _ _ _ _ _ _ _ _ x1 r1 x2 r2 hl1 p⟩
      · rw [if_neg hk] at e2
        cases e2
    | cons d rest =>
      rw [hd] at e2
      unfold lcL at e2
      have hi : ds[i]? = some d := by
        have := List.getElem?_drop (xs := ds) (i := i) (j := 0)
        rw [hd, Nat.add_zero] at this
        exact this.symm
      have hr : ds.drop (i + 1) = rest := by
        rw [← List.drop_drop, hd]; rfl
      by_cases hk : keep cs = true
      · rw [if_pos hk] at e2
        obtain ⟨go, yl⟩ := (wk ρ2 F2 _ σ H2 i (y0.trans x2) r2 hk).1 d hi
        refine .inr ⟨go, fun H3 => ∃ ρ3 F3 cs3, Ext (ρ1 ++ [D]) F1 ρ3 F3 ∧ Rel G ρ3 F3 ⟨st.env, cs3⟩ σ H3 ∧ lcL g t f keep (wipeD st.env vs) c1.length rest cs3 = some c2, fun H3 ⟨ρ3, F3, cs3, x3, r3, e3⟩ => ⟨m - 1, ?_, ρ3, F3, cs3, x3, r3, ?_, by rw [hr]; exact e3⟩, fun y H3 hy => ?_⟩
        · have := (List.getElem?_eq_some_iff.mp hi).1
          omega
        · have := (List.getElem?_eq_some_iff.mp hi).1
          omega
        · obtain ⟨ρ3, F3, x3, _, _, r3, rv3⟩ := yl y H3 hy
          have x23 := x2.trans x3
          cases q3 : g d ⟨wipeD st.env vs, cs⟩ with
          | none => simp only [q3] at e2; cases e2
          | some st1 =>
            simp only [q3] at e2
            refine ⟨ρ3, F3, _, d, st1, r3.wiped vs, rv3, q3, fun σ4 r4 b4 => ⟨wipe_but b4 hsl, ρ3, F3, st1, r4, ?_⟩⟩
            cases q4 : t st1 with
            | no => simp only [q4] at e2; cases e2
            | ex _ _ => simp only [q4] at e2; cases e2
            | ok b c4 =>
              intro ρ5 F5 H5 b' x5 r5 eb
              have eb : b = b' := eb
              subst eb
              cases b with
              | false =>
                simp only [q4] at e2
                exact ⟨ρ5, F5, c4, x23.trans x5, r3.back x5 r5, e2⟩
              | true =>
                simp only [q4] at e2
                rw [if_pos rfl]
                refine ⟨ρ5, F5, _, r5, ?_⟩
                cases q6 : f ⟨st1.env, c4⟩ with
                | no => simp only [q6] at e2; cases e2
                | ex _ _ => simp only [q6] at e2; cases e2
                | ok z c6 =>
                  simp only [q6] at e2
                  intro ρ7 F7 H7 v x7 r7 rv7
                  cases q7 : c6[c1.length]? with
                  | none => simp only [q7] at e2; cases e2
                  | some c0 =>
                    cases c0 with
                    | dk _ _ => simp only [q7] at e2; cases e2
                    | tbl _ _ => simp only [q7] at e2; cases e2
                    | ins _ _ _ => simp only [q7] at e2; cases e2
                    | lst acc =>
                      simp only [q7] at e2
                      by_cases hz : acc.length < 16777216
                      · rw [if_pos hz] at e2
                        have x27 := (x23.trans x5).trans x7
                        have hat : ρ7[c1.length]? = some D := x27.at (by
                          rw [← hl1, List.getElem?_append_right (Nat.le_refl _), Nat.sub_self]; rfl)
                        obtain ⟨ws, h8, h9⟩ := r7.cell _ _ _ q7 hat
                        refine ⟨ws, h8, by rw [← h9.length, sizeLine_eq]; exact hz, ρ7, F7, _, x27, ?_, e2⟩
                        have r8 := r3.back (x5.trans x7) r7
                        exact r8.cellSet (c := .lst (acc ++ [z])) hat ⟨_, upd_same, h9.append (RVs.one rv7)⟩
                      · rw [if_neg hz] at e2
                        cases e2
      · rw [if_neg hk] at e2
        cases e2
variable {scope : Scope} {own : List (Str × Nat)} {pos : Pos} {src : Ix} {sl : List Nat} {g : Gt} {t : Tx} {f : Ex}
theorem eLc_of (hsl : ∀ i ∈ sl, i ∈ own.map (·.2)) : ∀ σ H Q, tE G W (eLc src g t f (own.map (·.2))) σ H Q → tLc (tI G W src) (tG G sl g) (tTs G W0 t) (tE G W0 f) (own.map (·.2)) σ H Q := fun σ H Q ⟨ρ, F, st, r, p⟩ =>
  lc_of hsl (k := fun _ _ c1 c2 => match lastCell c2 with
    | some (c3, ds) => if c3.length = c1.length ∧ belows c1.length ds = true ∧ c3.all (belowC c1.length) = true then .ok (.lst ds) c3 else .no
    | none => .no) r p fun w c1 c2 ρ1 F1 H1 ρ2 F2 H2 a x1 r1 x2 r2 hl p2 => by
    cases q : lastCell c2 with
    | none => simp only [q] at p2; exact p2.elim
    | some z =>
      obtain ⟨c3, ds⟩ := z
      simp only [q] at p2
      have e := lastCell_eq q
      subst e
      by_cases c : c3.length = c1.length ∧ belows c1.length ds = true ∧ c3.all (belowC c1.length) = true
      · rw [if_pos c] at p2
        have y0 : Ext ρ1 F1 (ρ1 ++ [a]) F1 := ⟨List.prefix_append _ _, Same.refl _⟩
        obtain ⟨F', x3, r3, rv3⟩ := Rel.freeze (a := a) r1 rfl (y0.trans x2) r2 c.1 (x2.at (by rw [← hl, List.getElem?_append_right (Nat.le_refl _), Nat.sub_self]; rfl)) c.2.1 c.2.2
        exact p2 ρ1 F' H2 _ (x1.trans x3) r3 rv3
      · rw [if_neg c] at p2
        exact p2.elim
theorem eLcLoc_of (hsl : ∀ i ∈ sl, i ∈ own.map (·.2)) : ∀ σ H Q, tE G W (eLcLoc src g t f (own.map (·.2))) σ H Q → tLc (tI G W src) (tG G sl g) (tTs G W0 t) (tE G W0 f) (own.map (·.2)) σ H Q := fun σ H Q ⟨ρ, F, st, r, p⟩ =>
  lc_of hsl (k := fun _ _ c1 c2 => .ok (.loc c1.length) c2) r p fun w c1 c2 ρ1 F1 H1 ρ2 F2 H2 a x1 r1 x2 r2 hl p2 => by
    have y0 : Ext ρ1 F1 (ρ1 ++ [a]) F1 := ⟨List.prefix_append _ _, Same.refl _⟩
    exact p2 ρ2 F2 H2 _ (x1.trans (y0.trans x2)) r2 (.loc (x2.at (by rw [← hl, List.getElem?_append_right (Nat.le_refl _), Nat.sub_self]; rfl)))
theorem de_lc (hc : X.calm = true) (hN : X.N.Nodup) (hi : PI X tg iter (tI G W src)) (ok : BlkOk X.N X.env.scope scope own) (hsl : ∀ i ∈ sl, i ∈ own.map (·.2))
    (hg : ∀ (s : Shared) (H : Hp) (C : Addr) (cl : List (Str × Addr)) (fp : List Addr), PG (X.blk s H scope (compEnvC scope cl C X.env) fp) tg (tG G sl g)) (ht : ∀ (s : Shared) (H : Hp) (C : Addr) (cl : List (Str × Addr)) (fp : List Addr), PTs (X.blk s H scope (compEnvC scope cl C X.env) fp) ifs (tTs G W0 t))
    (he : ∀ (s : Shared) (H : Hp) (C : Addr) (cl : List (Str × Addr)) (fp : List Addr), PE (X.blk s H scope (compEnvC scope cl C X.env) fp) elt (tE G W0 f)) (hs : ∀ x, foldedSetIterable iter X.env x = pure x := by intro _; rfl) :
    PE X (.ListComp elt [⟨tg, iter, ifs, 0⟩] scope pos) (tE G W (eLc src g t f (own.map (·.2)))) := (pe_lc hc hN hi ok hg ht he hs).impV (eLc_of hsl)
theorem de_lcLoc (hc : X.calm = true) (hN : X.N.Nodup) (hi : PI X tg iter (tI G W src)) (ok : BlkOk X.N X.env.scope scope own) (hsl : ∀ i ∈ sl, i ∈ own.map (·.2))
    (hg : ∀ (s : Shared) (H : Hp) (C : Addr) (cl : List (Str × Addr)) (fp : List Addr), PG (X.blk s H scope (compEnvC scope cl C X.env) fp) tg (tG G sl g)) (ht : ∀ (s : Shared) (H : Hp) (C : Addr) (cl : List (Str × Addr)) (fp : List Addr), PTs (X.blk s H scope (compEnvC scope cl C X.env) fp) ifs (tTs G W0 t))
    (he : ∀ (s : Shared) (H : Hp) (C : Addr) (cl : List (Str × Addr)) (fp : List Addr), PE (X.blk s H scope (compEnvC scope cl C X.env) fp) elt (tE G W0 f)) (hs : ∀ x, foldedSetIterable iter X.env x = pure x := by intro _; rfl) :
    PE X (.ListComp elt [⟨tg, iter, ifs, 0⟩] scope pos) (tE G W (eLcLoc src g t f (own.map (·.2)))) := (pe_lc hc hN hi ok hg ht he hs).impV (eLcLoc_of hsl)
def tTrue : Tx := fun st => .ok true st.cs
theorem dts_nil : PTs X [] (tTs G W tTrue) := ⟨fun pins s σ H Q I ⟨ρ, F, st, r, p⟩ => pts_nil.run pins s σ H Q I (p.here r rfl)⟩
theorem dts_one {c : Expr} (h : PT X c (tTs G W t)) : PTs X [c] (tTs G W t) := pts_one h
end
end VL

namespace VL
open PySem L2
/-! ### a def's promise by a plain function -/
abbrev Fn := List D → List Cell → Out D
/-- the entry's facts: what is handed in and the cells that may be changed -/
def OPost (G : Gx) (Q : VK) (E : XK) : Out D → Prop
  | .ok d cs => ∀ ρ F H v, Ext G.A0 G.F0 ρ F → Rel G ρ F ⟨[], cs⟩ [] H → RV G.K ρ F d v → Q v H
  | .ex e cs => ∀ ρ F H cls dx, Ext G.A0 G.F0 ρ F → Rel G ρ F ⟨[], cs⟩ [] H → XAt G.K ρ F e cls dx → E cls dx H
  | .no => False
def spF (K : Kt) (n : Nat) (fn : Fn) : Sp := fun vs H Q E => ∃ (ρ0 : List Addr) (F0 : Hp) (ds : List D) (cs : List Cell), Rel ⟨K, H, F0, ρ0⟩ ρ0 F0 ⟨[], cs⟩ [] H ∧ RVs K ρ0 F0 ds vs ∧ ds.length = n ∧ OPost ⟨K, H, F0, ρ0⟩ Q E (fn ds cs)
theorem spF_len {K : Kt} {n : Nat} {fn : Fn} {vs : List V} {H : Hp} {Q : VK} {E : XK} (h : spF K n fn vs H Q E) : vs.length = n := by
  obtain ⟨ρ0, F0, ds, cs, _, r, e, _⟩ := h
  rw [← r.length, e]
def startD (n : Nat) (ds : List D) : List (Option D) := ds.map some ++ List.replicate (n - ds.length) none
/-- a body as a function; its own cells stay -/
def runF (n : Nat) (body : Sx) : Fn := fun ds cs => match body ⟨startD n ds, cs⟩ with
  | .rt d st => .ok d st.cs
  | .nx st => .ok .non st.cs
  | .ex e st => .ex e st.cs
  | _ => .no
theorem start_rel {G : Gx} {ρ : List Addr} {F H : Hp} {cs : List Cell} {ds : List D} {vs : List V} {N : List Str} (r : Rel G ρ F ⟨[], cs⟩ [] H) (rv : RVs G.K ρ F ds vs) : Rel G ρ F ⟨startD N.length ds, cs⟩ (start N vs) H := by
  refine ⟨?_, fun i d e => ?_, r.cl, r.cell, r.nd, r.fz, r.sep, r.fr, r.own, r.new, r.old, r.a0⟩
  · show (startD N.length ds).length = _
    unfold startD L2.start
    rw [List.length_append, List.length_append, List.length_map, List.length_map, List.length_replicate, List.length_replicate, rv.length]
  · have e : (startD N.length ds)[i]? = some (some d) := e
    unfold startD at e
    unfold L2.start
    by_cases hi : i < ds.length
    · rw [List.getElem?_append_left (by rw [List.length_map]; exact hi), List.getElem?_map] at e
      cases q : ds[i]? with
      | none => rw [q] at e; cases e
      | some d' =>
        rw [q] at e
        cases e
        obtain ⟨v, e1, e2⟩ := rv.get q
        refine ⟨v, ?_, e2⟩
        rw [List.getElem?_append_left (by rw [List.length_map, ← rv.length]; exact hi), List.getElem?_map, e1]
        rfl
    · rw [List.getElem?_append_right (by rw [List.length_map]; omega), List.getElem?_replicate] at e
      split at e <;> cases e
theorem Rel.noenv {G : Gx} {ρ : List Addr} {F H : Hp} {st : S} {σ : St} (r : Rel G ρ F st σ H) : Rel G ρ F ⟨[], st.cs⟩ [] H :=
  ⟨rfl, fun i d e => by simp at e, r.cl, r.cell, r.nd, r.fz, r.sep, r.fr, r.own, r.new, r.old, r.a0⟩
section
variable {P : Program} {w : World} {K : Kt} {mg : Str → Option Value} {base : Heap}
theorem body_of {N : List Str} {body : Sx} {vs : List V} {H : Hp} {Q : VK} {E : XK} {ps : Nat} (h : spF K ps (runF N.length body) vs H Q E) :
    ∃ G : Gx, G.K = K ∧ tS G (fun cls d _ H' => E cls d H') body { nx := fun _ H' => Q .non H', rt := Q } (start N vs) H := by
  obtain ⟨ρ0, F0, ds, cs, r, rv, _, p⟩ := h
  refine ⟨⟨K, H, F0, ρ0⟩, rfl, ρ0, F0, _, start_rel r rv, ?_⟩
  unfold runF at p
  cases q : body ⟨startD N.length ds, cs⟩ with
  | nx st => rw [q] at p; exact fun ρ F σ H x r' => p ρ F H .non x r'.noenv .non
  | rt d st => rw [q] at p; exact fun ρ F σ H v x r' rv' => p ρ F H v x r'.noenv rv'
  | ex e st => rw [q] at p; exact fun ρ F σ H c d x r' xa => p ρ F H c d x r'.noenv xa
  | bk st => rw [q] at p; exact p.elim
  | ct st => rw [q] at p; exact p.elim
  | no => rw [q] at p; exact p.elim
/-- THE RULE: a def by its body's plain function -/
theorem okV {x qual : Str} {st : Stmt} {f : Addr} {fd : FuncData} {N ps : List Str} {k : Nat} {body : Sx} (F : Fun K.K x qual st f fd) (S : FnScope N ps (defScope st))
    (hbody : ∀ (G : Gx), G.K = K → ∀ (cdv : Value) (A : Around) (outer : List Env) (s : Shared) (H : Hp) (E : XK), Room k (A.deeper (PyProof.Rows.envOfC qual (defScope st) s.heap.objs.size f cdv)) →
      PSs (cxOf (L2.CX P w) P w K.K mg base N qual (defScope st) f cdv A outer s H E) (defBody st) (tS G (fun cls d _ H' => E cls d H') body)) :
    FnOk P w K.K mg base (L2.CX P w) (k + 1) f fd ps (spF K ps.length (runF N.length body)) := by
  refine F.okX S (fun vs H Q E h => spF_len h) (fun cdv A outer s H vs Q E hr h => ?_)
  obtain ⟨G, e, t⟩ := body_of h
  exact ⟨_, hbody G e cdv A outer s H E hr, t⟩
end
/-! ### a call: all cells are handed on -/
section
variable {X : Cx} {G : Gx} {W : WX} {ρ : List Addr} {F : Hp} {st : S} {σ : St} {H : Hp} {e : Expr} {es : List Expr} {g : Ax} {pos : Pos}
/-- what a call leaves, seen from the caller -/
theorem Rel.after {ρ' : List Addr} {F' H' : Hp} {cs' : List Cell} (r : Rel G ρ F st σ H) (x : Ext ρ F ρ' F') (r' : Rel ⟨G.K, H, F, ρ⟩ ρ' F' ⟨[], cs'⟩ [] H') : Rel G ρ' F' ⟨st.env, cs'⟩ σ H' := by
  have old : ∀ a, a ∈ ρ → a ∈ G.A0 ∨ G.H0 a = none := r.own
  refine ⟨r.len, fun i d e => ?_, r'.cl, r'.cell, r'.nd, r'.fz, r'.sep, fun a o e1 e2 => ?_, fun a ha => ?_, fun a o e1 => ?_, r.old.trans x.fz, r.a0.trans x.pre⟩
  · obtain ⟨v, e1, e2⟩ := r.env i d e
    exact ⟨v, e1, e2.ext x⟩
  · refine r'.fr a o (r.fr a o e1 e2) fun z => ?_
    rcases old a z with q | q
    · exact e2 q
    · rw [q] at e1; cases e1
  · rcases r'.own a ha with q | q
    · exact old a q
    · exact .inr (r.free0 q)
  · rcases r'.new a o e1 with q | q
    · exact r.new a o q
    · exact .inr (r.free0 q)
theorem Rel.entry (r : Rel G ρ F st σ H) : Rel ⟨G.K, H, F, ρ⟩ ρ F ⟨[], st.cs⟩ [] H :=
  ⟨rfl, fun i d e => by simp at e, r.cl, r.cell, r.nd, r.fz, r.sep, fun _ _ h _ => h, fun _ h => .inl h, fun _ _ h => .inl h, Same.refl _, List.prefix_refl _⟩
def eCallAll (fn : Fn) (g : Ax) : Ex := fun st => (g st).bind fun ds c1 => fn ds c1
theorem callAll_of {fn : Fn} {ds : List D} {vs : List V} {Q : VK} {n : Nat} (r : Rel G ρ F st σ H) (rv : RVs G.K ρ F ds vs) (hn : ds.length = n) (p : Post RV G W ρ F st.env σ Q (fn ds st.cs)) : spF G.K n fn vs H Q (WE W σ) := by
  refine ⟨ρ, F, ds, st.cs, r.entry, rv, hn, ?_⟩
  cases q : fn ds st.cs with
  | ok d cs' => rw [q] at p; exact fun ρ' F' H' v x r' rv' => p ρ' F' H' v x (r.after x r') rv'
  | ex e cs' => rw [q] at p; exact fun ρ' F' H' c d x r' xa => p ρ' F' H' c d x (r.after x r') xa
  | no => rw [q] at p; exact p
/-! ### a call: the first n cells are handed on -/
/-- the cells from n on are lent as frozen lists -/
def lendD (n : Nat) (cs : List Cell) : D → D
  | .loc m => if m < n then .loc m else (match cs[m]? with
    | some (.lst ds) => .lst ds
    | _ => .loc m)
  | d => d
mutual
def noLst : D → Bool
  | .non => true
  | .bl _ => true
  | .int _ => true
  | .str _ => true
  | .tup ds => noLsts ds
  | .lst _ => false
  | .frl _ => false
  | .obj _ _ ds => noLsts ds
  | .dct _ ds => noLsts ds
  | .btp ds => noLsts ds
  | .cls _ => true
  | .loc _ => true
def noLsts : List D → Bool
  | [] => true
  | d :: r => noLst d && noLsts r
end
def noLstC : Cell → Bool
  | .lst ds => noLsts ds
  | .dk _ ds => noLsts ds
  | .ins _ _ ds => noLsts ds
  | .tbl _ _ => true
/-- a call that is handed the first n cells -/
def callV (n : Nat) (fn : Fn) (ds : List D) (cs : List Cell) : Out D :=
  if n ≤ cs.length ∧ belows n (ds.map (lendD n cs)) = true ∧ (cs.take n).all (belowC n) = true then
    match fn (ds.map (lendD n cs)) (cs.take n) with
    | .ok d cs' => if cs'.length = n ∧ (belows n ds = true ∨ (noLst d = true ∧ cs'.all noLstC = true)) then .ok d (cs' ++ cs.drop n) else .no
    | .ex e cs' => if cs'.length = n ∧ (belows n ds = true ∨ (noLsts e.ds = true ∧ cs'.all noLstC = true)) then .ex e (cs' ++ cs.drop n) else .no
    | .no => .no
  else .no
/-- the heap that is lent: the lists among the cells from n on are frozen -/
def lentF (ρ : List Addr) (n : Nat) (F H : Hp) : Hp := fun a => if a ∈ ρ.drop n then (match H a with
  | some (.lst vs) => some (.lst vs)
  | _ => none) else F a
/-- .. and taken back -/
def backF (ρ : List Addr) (n : Nat) (F' : Hp) : Hp := fun a => if a ∈ ρ.drop n then none else F' a

section
variable {n : Nat} {F' H' : Hp}
theorem drop_mem {a : Addr} (h : a ∈ ρ.drop n) : a ∈ ρ := List.mem_of_mem_drop h
theorem Rel.sameLent (r : Rel G ρ F st σ H) : Same F (lentF ρ n F H) := fun a o e => by
  unfold lentF
  by_cases h : a ∈ ρ.drop n
  · rw [r.sep a (drop_mem h)] at e; cases e
  · rw [if_neg h]; exact e
theorem lent_same (r : Rel G ρ F st σ H) : Same (lentF ρ n F H) H := fun a o e => by
  unfold lentF at e
  by_cases h : a ∈ ρ.drop n
  · rw [if_pos h] at e
    cases q : H a with
    | none => rw [q] at e; cases e
    | some u =>
      rw [q] at e
      cases u <;> first | cases e <;> rfl | cases e
  · rw [if_neg h] at e
    exact r.fz a o e
theorem take_drop_ne {a : Addr} (nd : ρ.Nodup) (h1 : a ∈ ρ.take n) (h2 : a ∈ ρ.drop n) : False := by
  have := List.take_append_drop n ρ
  rw [← this] at nd
  exact (List.nodup_append.mp nd).2.2 a h1 a h2 rfl
/-- the entry of such a call -/
theorem Rel.entryN (r : Rel G ρ F st σ H) (hn : n ≤ st.cs.length) (hb : (st.cs.take n).all (belowC n) = true) : Rel ⟨G.K, H, lentF ρ n F H, ρ.take n⟩ (ρ.take n) (lentF ρ n F H) ⟨[], st.cs.take n⟩ [] H := by
  refine ⟨rfl, fun i d e => by simp at e, ?_, fun i c a e1 e2 => ?_, r.nd.sublist (List.take_sublist _ _), lent_same r, fun a ha => ?_, fun _ _ h _ => h, fun _ h => .inl h, fun _ _ h => .inl h, Same.refl _, List.prefix_refl _⟩
  · show (ρ.take n).length = (st.cs.take n).length
    rw [List.length_take, List.length_take, r.cl]
  · have e1 : (st.cs.take n)[i]? = some c := e1
    have hi : i < n := by
      have := (List.getElem?_eq_some_iff.mp e1).1
      rw [List.length_take] at this
      omega
    have q := r.cell i c a (by rw [← List.getElem?_take_of_lt hi]; exact e1) (by rw [← List.getElem?_take_of_lt hi]; exact e2)
    exact q.cut r.sameLent (List.all_eq_true.mp hb c (List.mem_of_getElem? e1))
  · unfold lentF
    rw [if_neg fun z => take_drop_ne r.nd ha z]
    exact r.sep a (List.mem_of_mem_take ha)
theorem lend_rel (r : Rel G ρ F st σ H) : ∀ {ds : List D} {vs : List V}, RVs G.K ρ F ds vs → belows n (ds.map (lendD n st.cs)) = true → RVs G.K (ρ.take n) (lentF ρ n F H) (ds.map (lendD n st.cs)) vs
  | _, _, .nil, _ => .nil
  | d :: ds, v :: vs, .cons h t, e => by
    rw [List.map_cons] at e ⊢
    simp only [belows, Bool.and_eq_true] at e
    refine .cons ?_ (lend_rel r t e.2)
    have e := e.1
    cases h with
    | @loc m a h =>
      unfold lendD at e ⊢
      simp only at e ⊢
      by_cases c : m < n
      · rw [if_pos c] at e ⊢
        exact .loc (by rw [List.getElem?_take_of_lt c]; exact h)
      · rw [if_neg c] at e ⊢
        cases q : st.cs[m]? with
        | none => simp only [q, below, decide_eq_true_eq] at e; exact absurd e c
        | some c0 =>
          cases c0 with
          | lst es =>
            simp only [q, below] at e ⊢
            obtain ⟨vs, h1, h2⟩ := r.cell m _ _ q h
            have hm : a ∈ ρ.drop n := by
              refine List.mem_of_getElem? (i := m - n) ?_
              rw [List.getElem?_drop, Nat.add_sub_cancel' (by omega)]
              exact h
            refine .lst ?_ (h2.cut r.sameLent e)
            unfold lentF
            rw [if_pos hm, h1]
          | dk _ _ => simp only [q, below, decide_eq_true_eq] at e; exact absurd e c
          | tbl _ _ => simp only [q, below, decide_eq_true_eq] at e; exact absurd e c
          | ins _ _ _ => simp only [q, below, decide_eq_true_eq] at e; exact absurd e c
    | non => exact .non
    | bl b => exact .bl b
    | int i => exact .int i
    | str x => exact .str x
    | tup h1 h2 => exact RV.cut r.sameLent (.tup h1 h2) e
    | lst h1 h2 => exact RV.cut r.sameLent (.lst h1 h2) e
    | frl h1 h2 => exact RV.cut r.sameLent (.frl h1 h2) e
    | obj h1 h2 h3 => exact RV.cut r.sameLent (.obj h1 h2 h3) e
    | dct h1 h2 h3 => exact RV.cut r.sameLent (.dct h1 h2 h3) e
    | btp h1 h2 h3 => exact RV.cut r.sameLent (.btp h1 h2 h3) e
    | cls C => exact .cls C
/-- what is frozen behind the call and is no lent list stays behind -/
theorem lent_back {Fl : Hp} (r : Rel G ρ F st σ H) (hf : ∀ a o, Fl a = some o → lentF ρ n F H a = some o ∨ H a = none) {a : Addr} {o : HO} (e : Fl a = some o) (hno : ∀ vs, o ≠ .lst vs) : backF ρ n Fl a = some o := by
  unfold backF
  by_cases h : a ∈ ρ.drop n
  · rcases hf a o e with q | q
    · unfold lentF at q
      rw [if_pos h] at q
      cases z : H a with
      | none => rw [z] at q; cases q
      | some u =>
        rw [z] at q
        cases u <;> first | (cases q; exact absurd rfl (hno _)) | cases q
    · exact absurd (drop_mem h) (r.free q)
  · rw [if_neg h]; exact e
mutual
theorem RV.lentBack {Fl : Hp} (r : Rel G ρ F st σ H) (hf : ∀ a o, Fl a = some o → lentF ρ n F H a = some o ∨ H a = none) : ∀ {d : D} {v : V}, RV G.K (ρ.take n) Fl d v → noLst d = true → RV G.K ρ (backF ρ n Fl) d v
  | _, _, .non, _ => .non
  | _, _, .bl b, _ => .bl b
  | _, _, .int i, _ => .int i
  | _, _, .str x, _ => .str x
  | _, _, .tup h t, e => .tup (by
      rcases h with (h | ⟨o, h⟩) | h
      · exact .inl (.inl (lent_back r hf h fun vs z => nomatch z))
      · exact .inl (.inr ⟨o, lent_back r hf h fun vs z => nomatch z⟩)
      · exact .inr h) (RVs.lentBack r hf t (by simpa [noLst] using e))
  | _, _, .lst _ _, e => by simp [noLst] at e
  | _, _, .frl _ _, e => by simp [noLst] at e
  | _, _, .obj h l t, e => .obj (lent_back r hf h fun vs z => nomatch z) l (RVs.lentBack r hf t (by simpa [noLst] using e))
  | _, _, .dct h l t, e => .dct (lent_back r hf h fun vs z => nomatch z) l (RVs.lentBack r hf t (by simpa [noLst] using e))
  | _, _, .btp h l t, e => .btp (lent_back r hf h fun vs z => nomatch z) l (RVs.lentBack r hf t (by simpa [noLst] using e))
  | _, _, .cls C, _ => .cls C
  | _, _, .loc h, _ => .loc (by
      obtain ⟨h1, h2⟩ := List.getElem?_eq_some_iff.mp h
      rw [List.length_take] at h1
      rw [List.getElem?_take_of_lt (by omega)] at h
      exact h)
theorem RVs.lentBack {Fl : Hp} (r : Rel G ρ F st σ H) (hf : ∀ a o, Fl a = some o → lentF ρ n F H a = some o ∨ H a = none) : ∀ {ds : List D} {vs : List V}, RVs G.K (ρ.take n) Fl ds vs → noLsts ds = true → RVs G.K ρ (backF ρ n Fl) ds vs
  | _, _, .nil, _ => .nil
  | _, _, .cons h t, e => by
    simp only [noLsts, Bool.and_eq_true] at e
    exact .cons (RV.lentBack r hf h e.1) (RVs.lentBack r hf t e.2)
end
theorem cellLentBack {Fl : Hp} {a : Addr} (r : Rel G ρ F st σ H) (hf : ∀ a o, Fl a = some o → lentF ρ n F H a = some o ∨ H a = none) : ∀ {c : Cell}, CellAt G.K (ρ.take n) Fl H' a c → noLstC c = true → CellAt G.K ρ (backF ρ n Fl) H' a c
  | .lst _, ⟨_, h, t⟩, e => ⟨_, h, RVs.lentBack r hf t e⟩
  | .dk _ _, ⟨_, h, l, t⟩, e => ⟨_, h, l, RVs.lentBack r hf t e⟩
  | .ins _ _ _, ⟨_, _, h, l, t⟩, e => ⟨_, _, h, l, RVs.lentBack r hf t e⟩
  | .tbl _ _, ⟨z, _, h, t, c⟩, _ => ⟨z, _, h, t, fun pos cv q => (c pos cv q).imp fun b ⟨w1, w2⟩ => ⟨w1, lent_back r hf w2 fun vs z => by unfold LamX.CodeO at z; cases z⟩⟩
/-- behind the call: the caller's state again; ok: cells and value can be read without what was lent -/
theorem Rel.afterN {Fl : Hp} {ρ' : List Addr} {cs' : List Cell} (r : Rel G ρ F st σ H) (hn : n ≤ st.cs.length) (x : Ext (ρ.take n) (lentF ρ n F H) ρ' Fl) (r' : Rel ⟨G.K, H, lentF ρ n F H, ρ.take n⟩ ρ' Fl ⟨[], cs'⟩ [] H') (hl : cs'.length = n)
    (hc : ∀ c a, c ∈ cs' → CellAt G.K (ρ.take n) Fl H' a c → CellAt G.K ρ (backF ρ n Fl) H' a c) :
    ρ' = ρ.take n ∧ Ext ρ F ρ (backF ρ n Fl) ∧ Rel G ρ (backF ρ n Fl) ⟨st.env, cs' ++ st.cs.drop n⟩ σ H' := by
  have eρ : ρ' = ρ.take n := by
    obtain ⟨t, ht⟩ := x.pre
    have hlen : ρ'.length = n := by rw [show ρ'.length = cs'.length from r'.cl, hl]
    have : t = [] := by
      have := congrArg List.length ht
      rw [List.length_append, List.length_take, hlen, r.cl] at this
      exact List.length_eq_zero_iff.mp (by omega)
    rw [← ht, this, List.append_nil]
  subst eρ
  have hsF : Same F (backF ρ n Fl) := fun a o e => by
    unfold backF
    rw [if_neg fun z => by rw [r.sep a (drop_mem z)] at e; cases e]
    exact x.fz a o (r.sameLent a o e)
  have y : Ext ρ F ρ (backF ρ n Fl) := ⟨List.prefix_refl _, hsF⟩
  have hsH : Same (backF ρ n Fl) H' := fun a o e => by
    unfold backF at e
    by_cases h : a ∈ ρ.drop n
    · rw [if_pos h] at e; cases e
    · rw [if_neg h] at e
      exact r'.fz a o e
  have keepD : ∀ a ∈ ρ.drop n, H' a = H a := fun a ha => by
    obtain ⟨o, e⟩ := r.inρ (drop_mem ha)
    rw [e]
    exact r'.fr a o e fun z => take_drop_ne r.nd z ha
  refine ⟨rfl, y, ⟨r.len, fun i d e => ?_, ?_, fun i c a e1 e2 => ?_, r.nd, hsH, fun a ha => ?_, fun a o e1 e2 => ?_, r.own, fun a o e => ?_, r.old.trans hsF, r.a0⟩⟩
  · obtain ⟨v, e1, e2⟩ := r.env i d e
    exact ⟨v, e1, e2.ext y⟩
  · show ρ.length = (cs' ++ st.cs.drop n).length
    rw [List.length_append, List.length_drop, hl, r.cl]
    omega
  · have e1 : (cs' ++ st.cs.drop n)[i]? = some c := e1
    by_cases hi : i < n
    · rw [List.getElem?_append_left (by rw [hl]; exact hi)] at e1
      exact hc c a (List.mem_of_getElem? e1) (r'.cell i c a e1 (by rw [List.getElem?_take_of_lt hi]; exact e2))
    · rw [List.getElem?_append_right (by rw [hl]; omega), hl, List.getElem?_drop, Nat.add_sub_cancel' (by omega)] at e1
      have hm : a ∈ ρ.drop n := by
        refine List.mem_of_getElem? (i := i - n) ?_
        rw [List.getElem?_drop, Nat.add_sub_cancel' (by omega)]
        exact e2
      exact (r.cell i c a e1 e2).ext y (keepD a hm)
  · unfold backF
    by_cases h : a ∈ ρ.drop n
    · rw [if_pos h]
    · rw [if_neg h]
      have : a ∈ ρ.take n := by
        rw [← List.take_append_drop n ρ] at ha
        exact (List.mem_append.mp ha).resolve_right h
      exact r'.sep a this
  · refine r'.fr a o (r.fr a o e1 e2) fun z => ?_
    rcases r.own a (List.mem_of_mem_take z) with q | q
    · exact e2 q
    · rw [q] at e1; cases e1
  · unfold backF at e
    by_cases h : a ∈ ρ.drop n
    · rw [if_pos h] at e; cases e
    · rw [if_neg h] at e
      rcases r'.new a o e with q | q
      · have q : lentF ρ n F H a = some o := q
        unfold lentF at q
        rw [if_neg h] at q
        exact r.new a o q
      · exact .inr (r.free0 q)
end

section
variable {n m k : Nat} {fn : Fn} {Q : VK} {ds : List D} {vs : List V}
theorem below_cell_mono {c : Cell} {K : Kt} {ρ : List Addr} {F H : Hp} {a : Addr} (h : CellAt K (ρ.take n) F H a c) : CellAt K ρ F H a c := h.ext ⟨List.take_prefix _ _, Same.refl _⟩ rfl
theorem noLent {Fl : Hp} (r : Rel G ρ F st σ H) (hF : ∀ a ∈ ρ.drop n, Fl a = none) : backF ρ n Fl = Fl := by
  funext a
  unfold backF
  by_cases h : a ∈ ρ.drop n
  · rw [if_pos h, hF a h]
  · rw [if_neg h]
/-- nothing is lent: the entry with F itself -/
theorem Rel.entryP (r : Rel G ρ F st σ H) (hb : (st.cs.take n).all (belowC n) = true) : Rel ⟨G.K, H, F, ρ.take n⟩ (ρ.take n) F ⟨[], st.cs.take n⟩ [] H := by
  refine ⟨rfl, fun i d e => by simp at e, ?_, fun i c a e1 e2 => ?_, r.nd.sublist (List.take_sublist _ _), r.fz, fun a ha => r.sep a (List.mem_of_mem_take ha), fun _ _ h _ => h, fun _ h => .inl h, fun _ _ h => .inl h, Same.refl _, List.prefix_refl _⟩
  · show (ρ.take n).length = (st.cs.take n).length
    rw [List.length_take, List.length_take, r.cl]
  · have e1 : (st.cs.take n)[i]? = some c := e1
    have hi : i < n := by
      have := (List.getElem?_eq_some_iff.mp e1).1
      rw [List.length_take] at this
      omega
    have q := r.cell i c a (by rw [← List.getElem?_take_of_lt hi]; exact e1) (by rw [← List.getElem?_take_of_lt hi]; exact e2)
    exact q.cut (Same.refl _) (List.all_eq_true.mp hb c (List.mem_of_getElem? e1))
theorem lend_below : ∀ {ds : List D} {cs : List Cell}, belows n ds = true → ds.map (lendD n cs) = ds
  | [], _, _ => rfl
  | d :: ds, cs, e => by
    simp only [belows, Bool.and_eq_true] at e
    rw [List.map_cons, lend_below e.2]
    congr 1
    cases d with
    | loc m =>
      have h := e.1
      simp only [below, decide_eq_true_eq] at h
      unfold lendD
      simp only [h, if_true]
    | _ => rfl
theorem Rel.afterP {Fl : Hp} {ρ' : List Addr} {cs' : List Cell} {H' : Hp} (r : Rel G ρ F st σ H) (hn : n ≤ st.cs.length) (x : Ext (ρ.take n) F ρ' Fl) (r' : Rel ⟨G.K, H, F, ρ.take n⟩ ρ' Fl ⟨[], cs'⟩ [] H') (hl : cs'.length = n) :
    ρ' = ρ.take n ∧ Ext ρ F ρ Fl ∧ Rel G ρ Fl ⟨st.env, cs' ++ st.cs.drop n⟩ σ H' := by
  have eρ : ρ' = ρ.take n := by
    obtain ⟨t, ht⟩ := x.pre
    have hlen : ρ'.length = n := by rw [show ρ'.length = cs'.length from r'.cl, hl]
    have : t = [] := by
      have := congrArg List.length ht
      rw [List.length_append, List.length_take, hlen, r.cl] at this
      exact List.length_eq_zero_iff.mp (by omega)
    rw [← ht, this, List.append_nil]
  subst eρ
  have y : Ext ρ F ρ Fl := ⟨List.prefix_refl _, x.fz⟩
  have keepD : ∀ a ∈ ρ.drop n, H' a = H a := fun a ha => by
    obtain ⟨o, e⟩ := r.inρ (drop_mem ha)
    rw [e]
    exact r'.fr a o e fun z => take_drop_ne r.nd z ha
  refine ⟨rfl, y, ⟨r.len, fun i d e => ?_, ?_, fun i c a e1 e2 => ?_, r.nd, r'.fz, fun a ha => ?_, fun a o e1 e2 => ?_, r.own, fun a o e => ?_, r.old.trans x.fz, r.a0⟩⟩
  · obtain ⟨v, e1, e2⟩ := r.env i d e
    exact ⟨v, e1, e2.ext y⟩
  · show ρ.length = (cs' ++ st.cs.drop n).length
    rw [List.length_append, List.length_drop, hl, r.cl]
    omega
  · have e1 : (cs' ++ st.cs.drop n)[i]? = some c := e1
    by_cases hi : i < n
    · rw [List.getElem?_append_left (by rw [hl]; exact hi)] at e1
      exact below_cell_mono (r'.cell i c a e1 (by rw [List.getElem?_take_of_lt hi]; exact e2))
    · rw [List.getElem?_append_right (by rw [hl]; omega), hl, List.getElem?_drop, Nat.add_sub_cancel' (by omega)] at e1
      have hm : a ∈ ρ.drop n := by
        refine List.mem_of_getElem? (i := i - n) ?_
        rw [List.getElem?_drop, Nat.add_sub_cancel' (by omega)]
        exact e2
      exact (r.cell i c a e1 e2).ext y (keepD a hm)
  · cases q : Fl a with
    | none => rfl
    | some o =>
      rcases r'.new a o q with z | z
      · have z : F a = some o := z
        rw [r.sep a ha] at z; cases z
      · exact absurd ha (r.free z)
  · refine r'.fr a o (r.fr a o e1 e2) fun z => ?_
    rcases r.own a (List.mem_of_mem_take z) with q | q
    · exact e2 q
    · rw [q] at e1; cases e1
  · rcases r'.new a o e with q | q
    · exact r.new a o q
    · exact .inr (r.free0 q)
theorem callV_of (r : Rel G ρ F st σ H) (rv : RVs G.K ρ F ds vs) (hm : ds.length = m) (p : Post RV G W ρ F st.env σ Q (callV n fn ds st.cs)) : spF G.K m fn vs H Q (WE W σ) := by
  unfold callV at p
  by_cases c : n ≤ st.cs.length ∧ belows n (ds.map (lendD n st.cs)) = true ∧ (st.cs.take n).all (belowC n) = true
  · rw [if_pos c] at p
    obtain ⟨hn, hb, hc⟩ := c
    by_cases hbe : belows n ds = true
    · rw [lend_below hbe] at p
      refine ⟨ρ.take n, F, ds, st.cs.take n, r.entryP hc, rv.cut (Same.refl _) hbe, hm, ?_⟩
      cases q : fn ds (st.cs.take n) with
      | no => rw [q] at p; exact p
      | ok d cs' =>
        rw [q] at p
        by_cases hl : cs'.length = n
        · simp only [hl, hbe, true_and, true_or, if_true] at p
          intro ρ' F' H' v x r' rv'
          obtain ⟨e, y, r2⟩ := r.afterP hn x r' hl
          subst e
          exact p ρ F' H' v y r2 (rv'.ext ⟨List.take_prefix _ _, Same.refl _⟩)
        · simp only [hl, false_and, if_false] at p
          exact p.elim
      | ex e cs' =>
        rw [q] at p
        by_cases hl : cs'.length = n
        · simp only [hl, hbe, true_and, true_or, if_true] at p
          intro ρ' F' H' cls dx x r' xa
          obtain ⟨e, y, r2⟩ := r.afterP hn x r' hl
          subst e
          obtain ⟨x1, x2, x3, x4, x5, x6, x7⟩ := xa
          exact p ρ F' H' cls dx y r2 ⟨x1, x2, x3, x4, x5, x6, x7.ext ⟨List.take_prefix _ _, Same.refl _⟩⟩
        · simp only [hl, false_and, if_false] at p
          exact p.elim
    · refine ⟨ρ.take n, lentF ρ n F H, ds.map (lendD n st.cs), st.cs.take n, r.entryN hn hc, lend_rel r rv hb, by rw [List.length_map]; exact hm, ?_⟩
      cases q : fn (ds.map (lendD n st.cs)) (st.cs.take n) with
      | no => rw [q] at p; exact p
      | ok d cs' =>
        rw [q] at p
        have p : Post RV G W ρ F st.env σ Q (if cs'.length = n ∧ (belows n ds = true ∨ (noLst d = true ∧ cs'.all noLstC = true)) then .ok d (cs' ++ st.cs.drop n) else .no) := p
        by_cases hl : cs'.length = n ∧ noLst d = true ∧ cs'.all noLstC = true
        · simp only [hl, hbe, true_and, and_self, or_true, if_true] at p
          intro ρ' F' H' v x r' rv'
          have hf : ∀ a o, F' a = some o → lentF ρ n F H a = some o ∨ H a = none := r'.new
          obtain ⟨e, y, r2⟩ := r.afterN hn x r' hl.1 fun c a hc2 h2 => cellLentBack r hf h2 (List.all_eq_true.mp hl.2.2 c hc2)
          subst e
          exact p ρ _ H' v y r2 (RV.lentBack r hf rv' hl.2.1)
        · rw [if_neg (by rintro ⟨z1, z2⟩; exact hl ⟨z1, z2.resolve_left hbe⟩)] at p
          exact p.elim
      | ex e cs' =>
        rw [q] at p
        have p : Post RV G W ρ F st.env σ Q (if cs'.length = n ∧ (belows n ds = true ∨ (noLsts e.ds = true ∧ cs'.all noLstC = true)) then .ex e (cs' ++ st.cs.drop n) else .no) := p
        by_cases hl : cs'.length = n ∧ noLsts e.ds = true ∧ cs'.all noLstC = true
        · simp only [hl, hbe, true_and, and_self, or_true, if_true] at p
          intro ρ' F' H' cls dx x r' xa
          have hf : ∀ a o, F' a = some o → lentF ρ n F H a = some o ∨ H a = none := r'.new
          obtain ⟨e', y, r2⟩ := r.afterN hn x r' hl.1 fun c a hc2 h2 => cellLentBack r hf h2 (List.all_eq_true.mp hl.2.2 c hc2)
          subst e'
          obtain ⟨x1, x2, x3, x4, x5, x6, x7⟩ := xa
          exact p ρ _ H' cls dx y r2 ⟨x1, x2, x3, x4, lent_back r hf x5 (fun vs z => nomatch z), x6, RVs.lentBack r hf x7 hl.2.1⟩
        · rw [if_neg (by rintro ⟨z1, z2⟩; exact hl ⟨z1, z2.resolve_left hbe⟩)] at p
          exact p.elim
  · rw [if_neg c] at p
    exact p.elim
/-- f(..) -/
def eCall (n : Nat) (fn : Fn) (g : Ax) : Ex := fun st => (g st).bind fun ds c1 => callV n fn ds c1
variable {f : Addr} {fd : FuncData} {ps : List Str} {x : Str} {p : Pos}
theorem de_call {n : Nat} (hK : G.K.K = X.K) (tk : Takes X W) (hF : FnOk X.prog X.w X.K X.mg X.base (L2.CX X.prog X.w) k f fd ps (spF G.K ps.length fn)) (hr : Room k X.A) (hg : Gl X x) (hm : X.mg x = some (.ref f)) (hk : PySem.W.keepIn X.K (.ref f) = true) (hb : Binds X.K fd ps [])
    (ha : PA X (e :: es) (tAs G W g)) (hlen : ∀ st ds c1, g st = .ok ds c1 → ds.length = ps.length) (hdb : (x == ("__debug__" : Str)) = false := by decide) (he : starEach (e :: es) X.env = (false, eval e X.env) :: starEach es X.env := by rfl) (hpl : (backTo pos (starEach es X.env)).any (·.1) = false := by rfl) :
    PE X (.Call (.Name x p) (e :: es) [] pos) (tE G W (eCall n fn g)) :=
  (pe_callS hF hr hg hm hk hb (fun σ => passAt tk σ) ha hdb he hpl).impV fun σ H Q ⟨ρ, F, st, r, p⟩ => by
    unfold eCall at p
    cases q : g st with
    | no => rw [q] at p; exact p.elim
    | ex e' cs => rw [q] at p; exact ⟨ρ, F, st, r, by rw [q]; exact p⟩
    | ok ds c1 =>
      rw [q] at p
      have p : Post RV G W ρ F st.env σ Q (callV n fn ds c1) := p
      refine ⟨ρ, F, st, r, ?_⟩
      rw [q]
      exact fun ρ1 F1 H1 vs x1 r1 rv1 => callV_of (st := ⟨st.env, c1⟩) r1 rv1 (hlen _ _ _ q) (Post.ext x1 p)
theorem de_callAll (hK : G.K.K = X.K) (tk : Takes X W) (hF : FnOk X.prog X.w X.K X.mg X.base (L2.CX X.prog X.w) k f fd ps (spF G.K ps.length fn)) (hr : Room k X.A) (hg : Gl X x) (hm : X.mg x = some (.ref f)) (hk : PySem.W.keepIn X.K (.ref f) = true) (hb : Binds X.K fd ps [])
    (ha : PA X (e :: es) (tAs G W g)) (hlen : ∀ st ds c1, g st = .ok ds c1 → ds.length = ps.length) (hdb : (x == ("__debug__" : Str)) = false := by decide) (he : starEach (e :: es) X.env = (false, eval e X.env) :: starEach es X.env := by rfl) (hpl : (backTo pos (starEach es X.env)).any (·.1) = false := by rfl) :
    PE X (.Call (.Name x p) (e :: es) [] pos) (tE G W (eCallAll fn g)) :=
  (pe_callS hF hr hg hm hk hb (fun σ => passAt tk σ) ha hdb he hpl).impV fun σ H Q ⟨ρ, F, st, r, p⟩ => by
    unfold eCallAll at p
    cases q : g st with
    | no => rw [q] at p; exact p.elim
    | ex e' cs => rw [q] at p; exact ⟨ρ, F, st, r, by rw [q]; exact p⟩
    | ok ds c1 =>
      rw [q] at p
      have p : Post RV G W ρ F st.env σ Q (fn ds c1) := p
      refine ⟨ρ, F, st, r, ?_⟩
      rw [q]
      exact fun ρ1 F1 H1 vs x1 r1 rv1 => callAll_of (st := ⟨st.env, c1⟩) r1 rv1 (hlen _ _ _ q) (Post.ext x1 p)
end
end
end VL

namespace VL
open PySem L2
/-! ### a def's own cells left behind -/
/-- what leaves the def: an own list, opened -/
def outD (n : Nat) (cs : List Cell) (d : D) : Option D := match d with
  | .loc m => if m < n then some (.loc m) else (match cs[m]? with
    | some (.lst ds) => if belows n ds then some (.lst ds) else none
    | _ => none)
  | d => if below n d then some d else none
def trimF (fn : Fn) : Fn := fun ds cs => match fn ds cs with
  | .ok d cs' => if (cs'.take cs.length).all (belowC cs.length) then (match outD cs.length cs' d with
    | some d' => .ok d' (cs'.take cs.length)
    | none => .no) else .no
  | .ex e cs' => if (cs'.take cs.length).all (belowC cs.length) && belows cs.length e.ds then .ex e (cs'.take cs.length) else .no
  | .no => .no
/-- the cells behind n become frozen -/
theorem Rel.trim {G : Gx} {ρ : List Addr} {F : Hp} {st : S} {σ : St} {H : Hp} (r : Rel G ρ F st σ H) (hn : G.A0.length ≤ st.cs.length) (hb : (st.cs.take G.A0.length).all (belowC G.A0.length) = true) (x : Ext G.A0 G.F0 ρ F) :
    Same F (lentF ρ G.A0.length F H) ∧ Ext G.A0 G.F0 G.A0 (lentF ρ G.A0.length F H) ∧ Rel G G.A0 (lentF ρ G.A0.length F H) ⟨[], st.cs.take G.A0.length⟩ [] H := by
  have eρ : ρ.take G.A0.length = G.A0 := by
    obtain ⟨t, ht⟩ := x.pre
    rw [← ht, List.take_left]
  have hs := r.sameLent (n := G.A0.length)
  have e := r.entryN hn hb
  refine ⟨hs, ⟨List.prefix_refl _, x.fz.trans hs⟩, ⟨rfl, fun i d e => by simp at e, ?_, fun i c a e1 e2 => ?_, ?_, e.fz, fun a ha => ?_, r.fr, fun a ha => .inl ha, fun a o q => ?_, x.fz.trans hs, List.prefix_refl _⟩⟩
  · have := e.cl
    rw [eρ] at this
    exact this
  · have := e.cell i c a e1 (by rw [eρ]; exact e2)
    rw [eρ] at this
    exact this
  · have := e.nd
    rw [eρ] at this
    exact this
  · exact e.sep a (by rw [eρ]; exact ha)
  · unfold lentF at q
    by_cases h : a ∈ ρ.drop G.A0.length
    · rcases r.own a (drop_mem h) with z | z
      · exact (take_drop_ne r.nd (by rw [eρ]; exact z) h).elim
      · exact .inr z
    · rw [if_neg h] at q
      exact r.new a o q
theorem trim_of {K : Kt} {n : Nat} {fn : Fn} (vs : List V) (H : Hp) (Q : VK) (E : XK) (h : spF K n (trimF fn) vs H Q E) : spF K n fn vs H Q E := by
  obtain ⟨ρ0, F0, ds, cs, r, rv, hl, p⟩ := h
  refine ⟨ρ0, F0, ds, cs, r, rv, hl, ?_⟩
  have hc : ρ0.length = cs.length := r.cl
  unfold trimF at p
  cases q : fn ds cs with
  | no => rw [q] at p; exact p
  | ex e cs' =>
    rw [q] at p
    simp only at p
    by_cases c : ((cs'.take cs.length).all (belowC cs.length) && belows cs.length e.ds) = true
    · rw [if_pos c] at p
      rw [Bool.and_eq_true] at c
      intro ρ F H' cls dx x r' xa
      have hle : ρ0.length ≤ cs'.length := by
        have := x.pre.length_le
        rw [show ρ.length = cs'.length from r'.cl] at this
        exact this
      obtain ⟨s1, x1, r1⟩ := r'.trim hle (by show (cs'.take ρ0.length).all (belowC ρ0.length) = true; rw [hc]; exact c.1) x
      obtain ⟨y1, y2, y3, y4, y5, y6, y7⟩ := xa
      have eρ : ρ.take cs.length = ρ0 := by
        obtain ⟨t, ht⟩ := x.pre
        have ht : ρ0 ++ t = ρ := ht
        rw [← ht, ← hc, List.take_left]
      have q7 := y7.cut (n := cs.length) s1 c.2
      rw [eρ] at q7
      refine p ρ0 _ H' cls dx x1 ?_ ⟨y1, y2, y3, y4, s1 _ _ y5, y6, q7⟩
      rw [← hc]; exact r1
    · rw [if_neg c] at p
      exact p.elim
  | ok d cs' =>
    rw [q] at p
    simp only at p
    by_cases c : (cs'.take cs.length).all (belowC cs.length) = true
    · rw [if_pos c] at p
      cases q2 : outD cs.length cs' d with
      | none => rw [q2] at p; exact p.elim
      | some d' =>
        rw [q2] at p
        simp only at p
        intro ρ F H' v x r' rv'
        have hle : ρ0.length ≤ cs'.length := by
          have := x.pre.length_le
          rw [show ρ.length = cs'.length from r'.cl] at this
          exact this
        obtain ⟨s1, x1, r1⟩ := r'.trim hle (by show (cs'.take ρ0.length).all (belowC ρ0.length) = true; rw [hc]; exact c) x
        have eρ : ρ.take cs.length = ρ0 := by
          obtain ⟨t, ht⟩ := x.pre
          have ht : ρ0 ++ t = ρ := ht
          rw [← ht, ← hc, List.take_left]
        have r1' : Rel ⟨K, H, F0, ρ0⟩ ρ0 (lentF ρ ρ0.length F H') ⟨[], cs'.take cs.length⟩ [] H' := by rw [← hc]; exact r1
        refine p ρ0 _ H' v x1 r1' ?_
        have low : below cs.length d = true → d' = d → RV K ρ0 (lentF ρ ρ0.length F H') d' v := fun hb e => by
          subst e
          have := rv'.cut (n := cs.length) s1 hb
          rw [eρ] at this
          exact this
        cases d with
        | loc m =>
          unfold outD at q2
          simp only at q2
          by_cases hm : m < cs.length
          · rw [if_pos hm] at q2
            exact low (by simp [below, hm]) (Option.some.inj q2).symm
          · rw [if_neg hm] at q2
            cases q3 : cs'[m]? with
            | none => rw [q3] at q2; cases q2
            | some c0 =>
              rw [q3] at q2
              cases c0 with
              | lst es =>
                simp only at q2
                by_cases hb : belows cs.length es = true
                · rw [if_pos hb] at q2
                  cases q2
                  cases rv' with
                  | @loc _ a h =>
                    obtain ⟨ws, h1, h2⟩ := r'.cell m _ _ q3 h
                    have hmem : a ∈ ρ.drop ρ0.length := by
                      refine List.mem_of_getElem? (i := m - ρ0.length) ?_
                      rw [List.getElem?_drop, Nat.add_sub_cancel' (by omega)]
                      exact h
                    have q7 := h2.cut (n := cs.length) s1 hb
                    rw [eρ] at q7
                    refine .lst ?_ q7
                    unfold lentF
                    rw [if_pos hmem, h1]
                · rw [if_neg hb] at q2
                  cases q2
              | dk _ _ => cases q2
              | tbl _ _ => cases q2
              | ins _ _ _ => cases q2
        | _ =>
          unfold outD at q2
          simp only at q2
          split at q2
          · rename_i hb
            exact low hb (Option.some.inj q2).symm
          · cases q2
    · rw [if_neg c] at p
      exact p.elim
/-- another plain function: wherever it says something, fn says the same -/
theorem spF_ref {K : Kt} {n : Nat} {fn fn' : Fn} (hr : ∀ ds cs, fn' ds cs ≠ .no → fn ds cs = fn' ds cs) (vs : List V) (H : Hp) (Q : VK) (E : XK) (h : spF K n fn' vs H Q E) : spF K n fn vs H Q E := by
  obtain ⟨ρ0, F0, ds, cs, r, rv, hl, p⟩ := h
  refine ⟨ρ0, F0, ds, cs, r, rv, hl, ?_⟩
  by_cases c : fn' ds cs = .no
  · rw [c] at p; exact p.elim
  · rw [hr ds cs c]; exact p
section
variable {P : Program} {w : World} {K : Kt} {mg : Str → Option Value} {base : Heap} {CX : CXT} {k : Nat} {f : Addr} {fd : FuncData} {ps : List Str} {fn fn' : Fn} {n : Nat}
theorem fnTrim (F : FnOk P w K.K mg base CX k f fd ps (spF K n fn)) : FnOk P w K.K mg base CX k f fd ps (spF K n (trimF fn)) := F.imp trim_of
theorem fnRef (F : FnOk P w K.K mg base CX k f fd ps (spF K n fn)) (hr : ∀ ds cs, fn' ds cs ≠ .no → fn ds cs = fn' ds cs) : FnOk P w K.K mg base CX k f fd ps (spF K n fn') := F.imp (spF_ref hr)
end
/-! ### built-ins -/
section
variable {X : Cx} {G : Gx} {W : WX} {e a : Expr} {es : List Expr} {g : Ax} {pos p : Pos} {fa : Ex}
abbrev FB := List Cell → List D → Out D
def VN (G : Gx) (W : WX) (r : List V → Hp → VK → Prop) (h : FB) : Prop := ∀ (ρ : List Addr) (F : Hp) (st : S) (σ : St) (H : Hp) (ds : List D) (vs : List V) (Q : VK), Rel G ρ F st σ H → RVs G.K ρ F ds vs → Post RV G W ρ F st.env σ Q (h st.cs ds) → r vs H Q
def eB (h : FB) (g : Ax) : Ex := fun st => (g st).bind fun ds c1 => h c1 ds
theorem tCB_of {r : List V → Hp → VK → Prop} {h : FB} (hv : VN G W r h) : ∀ σ H Q, tE G W (eB h g) σ H Q → tCB r (tAs G W g) σ H Q := fun σ H Q ⟨ρ, F, st, r, p⟩ =>
  seqX r p fun ρ1 F1 H1 ds c1 vs x1 r1 rv1 p1 => hv ρ1 F1 ⟨st.env, c1⟩ σ H1 ds vs Q r1 rv1 p1
theorem de_callB {id : String} {x : Str} {r : List V → Hp → VK → Prop} {h : FB} (hc : CallR X (.builtin id) r) (hv : VN G W r h) (hg : Gl X x) (hm : X.mg x = none) (hb : bootBuiltins x = some (.builtin id)) (ha : PA X (e :: es) (tAs G W g)) (hn : x ≠ "__name__" := by decide) (hdb : (x == ("__debug__" : Str)) = false := by decide)
    (he : starEach (e :: es) X.env = (false, eval e X.env) :: starEach es X.env := by rfl) (hpl : (backTo pos (starEach es X.env)).any (·.1) = false := by rfl) : PE X (.Call (.Name x p) (e :: es) [] pos) (tE G W (eB h g)) := (pe_callB hc hg hm hb ha hn hdb he hpl).impV (tCB_of hv)
theorem de_callTy {T : String} {x : Str} {r : List V → Hp → VK → Prop} {h : FB} (hc : CallR X (.type T) r) (hv : VN G W r h) (hg : Gl X x) (hm : X.mg x = none) (hb : bootBuiltins x = some (.type T)) (ha : PA X (e :: es) (tAs G W g)) (hn : x ≠ "__name__" := by decide) (hdb : (x == ("__debug__" : Str)) = false := by decide)
    (he : starEach (e :: es) X.env = (false, eval e X.env) :: starEach es X.env := by rfl) (hpl : (backTo pos (starEach es X.env)).any (·.1) = false := by rfl) : PE X (.Call (.Name x p) (e :: es) [] pos) (tE G W (eB h g)) := (pe_callTy hc hg hm hb ha hn hdb he hpl).impV (tCB_of hv)
def hLen : FB := fun cs ds => match ds with
  | [.str z] => if z.length ≤ 16777216 then .ok (.int (z.length : Nat)) cs else .no
  | [d] => (match seqOf cs d with
    | some xs => .ok (.int (xs.length : Nat)) cs
    | none => .no)
  | _ => .no
theorem vn_len : VN G W (fun xs H Q => ∃ x n, xs = [x] ∧ LenV G.K.K x H n ∧ Q (.int n) H) hLen := by
  intro ρ F st σ H ds vs Q r rv p
  unfold hLen at p
  split at p
  · cases rv with
    | cons h1 h2 =>
      cases h2
      cases h1
      rename_i z
      by_cases c : z.length ≤ 16777216
      · rw [if_pos c] at p
        exact ⟨_, _, rfl, ⟨line_of c, rfl⟩, p.here r (.int _)⟩
      · rw [if_neg c] at p
        exact p.elim
  · rename_i d _
    cases rv with
    | cons h1 h2 =>
      cases h2
      cases q : seqOf st.cs d with
      | none => rw [q] at p; exact p.elim
      | some xs =>
        rw [q] at p
        obtain ⟨a2, ws, rfl, s2, r2⟩ := seq_read r h1 q
        refine ⟨_, ws.length, rfl, ?_, ?_⟩
        · rcases s2 with s2 | s2
          · exact .inl ⟨ws, s2, rfl⟩
          · exact .inr ⟨ws, s2, rfl⟩
        · rw [← r2.length]
          exact p.here r (.int _)
  · exact p.elim
theorem de_len (hK : X.K = G.K.K) (hg : Gl X "len") (hm : X.mg "len" = none) (ha : PA X (e :: es) (tAs G W g)) (he : starEach (e :: es) X.env = (false, eval e X.env) :: starEach es X.env := by rfl) (hpl : (backTo pos (starEach es X.env)).any (·.1) = false := by rfl) : PE X (.Call (.Name "len" p) (e :: es) [] pos) (tE G W (eB hLen g)) :=
  de_callB call_len (by rw [hK]; exact vn_len) hg hm PySem.boot_len ha (he := he) (hpl := hpl)
def hInt : FB := fun cs ds => match ds with
  | [.int i] => .ok (.int i) cs
  | [.bl b] => .ok (.int (if b then 1 else 0)) cs
  | _ => .no
theorem de_int1 (hg : Gl X "int") (hm : X.mg "int" = none) (ha : PA X (e :: es) (tAs G W g)) (he : starEach (e :: es) X.env = (false, eval e X.env) :: starEach es X.env := by rfl) (hpl : (backTo pos (starEach es X.env)).any (·.1) = false := by rfl) : PE X (.Call (.Name "int" p) (e :: es) [] pos) (tE G W (eB hInt g)) :=
  de_callTy call_int1 (by
    intro ρ F st σ H ds vs Q r rv p
    unfold hInt at p
    split at p
    · cases rv with
      | cons h1 h2 =>
        cases h2
        cases h1
        exact .inl ⟨_, rfl, p.here r (.int _)⟩
    · cases rv with
      | cons h1 h2 =>
        cases h2
        cases h1
        exact .inr ⟨_, rfl, p.here r (.int _)⟩
    · exact p.elim) hg hm (by decide +kernel) ha (he := he) (hpl := hpl)
def hAbs : FB := fun cs ds => match ds with
  | [.int i] => .ok (.int (if i < 0 then -i else i)) cs
  | _ => .no
theorem de_abs (hg : Gl X "abs") (hm : X.mg "abs" = none) (ha : PA X (e :: es) (tAs G W g)) (he : starEach (e :: es) X.env = (false, eval e X.env) :: starEach es X.env := by rfl) (hpl : (backTo pos (starEach es X.env)).any (·.1) = false := by rfl) : PE X (.Call (.Name "abs" p) (e :: es) [] pos) (tE G W (eB hAbs g)) :=
  de_callB call_abs (by
    intro ρ F st σ H ds vs Q r rv p
    unfold hAbs at p
    split at p
    · cases rv with
      | cons h1 h2 =>
        cases h2
        cases h1
        exact ⟨_, rfl, p.here r (.int _)⟩
    · exact p.elim) hg hm (by decide +kernel) ha (he := he) (hpl := hpl)
def hTuple : FB := fun cs ds => match ds with
  | [.tup xs] => .ok (.tup xs) cs
  | [.btp xs] => .ok (.btp xs) cs
  | [d] => (match lstOf cs d with
    | some xs => .ok (.tup xs) cs
    | none => .no)
  | _ => .no
theorem vn_tuple : VN G W (fun xs H Q => ∃ p ys, xs = [.ref p] ∧ ((SqL G.K.K H p ys ∧ ∀ l, H l = none → Q (.ref l) (upd H l (.tup ys))) ∨ (SqT G.K.K H p ys ∧ Q (.ref p) H))) hTuple := by
  intro ρ F st σ H ds vs Q r rv p
  unfold hTuple at p
  split at p
  · cases rv with
    | cons h1 h2 =>
      cases h2
      obtain ⟨a2, ws, rfl, s2, r2⟩ := tup_read r h1 rfl
      exact ⟨a2, ws, rfl, .inr ⟨s2, p.here r h1⟩⟩
  · cases rv with
    | cons h1 h2 =>
      cases h2
      have h1' := h1
      cases h1 with
      | btp g1 g2 g3 => exact ⟨_, _, rfl, .inr ⟨.inl (.inr ⟨_, r.fz _ _ g1⟩), p.here r h1'⟩⟩
  · rename_i d _ _
    cases rv with
    | cons h1 h2 =>
      cases h2
      cases q : lstOf st.cs d with
      | none => rw [q] at p; exact p.elim
      | some xs =>
        rw [q] at p
        obtain ⟨a2, ws, rfl, s2, r2⟩ := lst_read r h1 q
        refine ⟨a2, ws, rfl, .inl ⟨s2, fun l hl => ?_⟩⟩
        obtain ⟨x2, r3⟩ := r.fresh (o := .tup ws) hl
        exact p _ _ _ _ x2 r3 (.tup (SqT.of upd_same) (r2.ext x2))
  · exact p.elim
theorem de_tuple1 (hK : X.K = G.K.K) (hg : Gl X "tuple") (hm : X.mg "tuple" = none) (ha : PA X (e :: es) (tAs G W g)) (he : starEach (e :: es) X.env = (false, eval e X.env) :: starEach es X.env := by rfl) (hpl : (backTo pos (starEach es X.env)).any (·.1) = false := by rfl) : PE X (.Call (.Name "tuple" p) (e :: es) [] pos) (tE G W (eB hTuple g)) :=
  de_callTy call_tuple_of (by rw [hK]; exact vn_tuple) hg hm (by decide +kernel) ha (he := he) (hpl := hpl)
/-- list(x): frozen, or an own cell -/
def hList (own : Bool) : FB := fun cs ds => match ds with
  | [d] => (match seqOf cs d with
    | some xs => if own then newCell xs cs else .ok (.lst xs) cs
    | none => .no)
  | _ => .no
theorem vn_list {own : Bool} : VN G W (fun xs H Q => ∃ p ys, xs = [.ref p] ∧ (SqL G.K.K H p ys ∨ SqT G.K.K H p ys) ∧ ∀ l, H l = none → Q (.ref l) (upd H l (.lst ys))) (hList own) := by
  intro ρ F st σ H ds vs Q r rv p
  unfold hList at p
  split at p
  · rename_i d
    cases rv with
    | cons h1 h2 =>
      cases h2
      cases q : seqOf st.cs d with
      | none => rw [q] at p; exact p.elim
      | some xs =>
        rw [q] at p
        obtain ⟨a2, ws, rfl, s2, r2⟩ := seq_read r h1 q
        refine ⟨a2, ws, rfl, s2, fun l hl => ?_⟩
        cases own with
        | true => exact newCell_of r r2 hl p
        | false =>
          obtain ⟨x2, r3⟩ := r.fresh (o := .lst ws) hl
          exact p _ _ _ _ x2 r3 (.lst upd_same (r2.ext x2))
  · exact p.elim
theorem de_list1 (own : Bool) (hK : X.K = G.K.K) (hg : Gl X "list") (hm : X.mg "list" = none) (ha : PA X (e :: es) (tAs G W g)) (he : starEach (e :: es) X.env = (false, eval e X.env) :: starEach es X.env := by rfl) (hpl : (backTo pos (starEach es X.env)).any (·.1) = false := by rfl) : PE X (.Call (.Name "list" p) (e :: es) [] pos) (tE G W (eB (hList own) g)) :=
  de_callTy call_list_of (by rw [hK]; exact vn_list) hg hm (by decide +kernel) ha (he := he) (hpl := hpl)
/-! ints of a list -/
def intsOf : List D → Option (List Int)
  | [] => some []
  | .int i :: r => (intsOf r).map (i :: ·)
  | _ => none
theorem ints_rel {K : Kt} {ρ : List Addr} {F : Hp} : ∀ {ds : List D} {vs : List V} {ns : List Int}, RVs K ρ F ds vs → intsOf ds = some ns → vs = ns.map V.int
  | _, _, _, .nil, e => by cases e; rfl
  | _, _, _, @RVs.cons _ _ _ d ds v vs h r, e => by
    cases h with
    | int i =>
      unfold intsOf at e
      cases q : intsOf ds with
      | none => rw [q] at e; cases e
      | some l =>
        rw [q] at e
        cases e
        rw [ints_rel r q]
        rfl
    | _ => cases e
theorem ints_back {K : Kt} {ρ : List Addr} {F : Hp} : ∀ (ns : List Int), RVs K ρ F (ns.map D.int) (ns.map V.int)
  | [] => .nil
  | n :: r => .cons (.int n) (ints_back r)
def maxI : List Int → Int
  | [] => 0
  | [a] => a
  | a :: b :: r => max a (maxI (b :: r))
theorem maxI_mem : ∀ {l : List Int}, l ≠ [] → maxI l ∈ l ∧ ∀ y ∈ l, y ≤ maxI l
  | [], h => absurd rfl h
  | [a], _ => ⟨List.mem_singleton.mpr rfl, fun y hy => by rw [List.mem_singleton.mp hy]; exact Int.le_refl _⟩
  | a :: b :: r, _ => by
    obtain ⟨h1, h2⟩ := maxI_mem (l := b :: r) (by simp)
    unfold maxI
    refine ⟨?_, fun y hy => ?_⟩
    · by_cases c : a ≤ maxI (b :: r)
      · rw [Int.max_eq_right c]; exact List.mem_cons_of_mem _ h1
      · rw [Int.max_eq_left (by omega)]; exact List.mem_cons_self
    · rcases List.mem_cons.mp hy with rfl | hy
      · omega
      · have := h2 y hy
        omega
/-- max(xs), max(a, b) -/
def hMax : FB := fun cs ds => match ds with
  | [.int i, .int j] => .ok (.int (if j > i then j else i)) cs
  | [d] => (match lstOf cs d with
    | some xs => (match intsOf xs with
      | some ns => if ns.isEmpty then .no else .ok (.int (maxI ns)) cs
      | none => .no)
    | none => .no)
  | _ => .no
theorem max_uniq {l : List Int} {m : Int} (h : l ≠ []) (h1 : m ∈ l) (h2 : ∀ y ∈ l, y ≤ m) : m = maxI l := by
  obtain ⟨h3, h4⟩ := maxI_mem h
  have := h4 m h1
  have := h2 _ h3
  omega
theorem de_max (hK : X.K = G.K.K) (hc : X.calm = true) (hg : Gl X "max") (hm : X.mg "max" = none) (ha : PA X (e :: es) (tAs G W g)) (he : starEach (e :: es) X.env = (false, eval e X.env) :: starEach es X.env := by rfl) (hpl : (backTo pos (starEach es X.env)).any (·.1) = false := by rfl) : PE X (.Call (.Name "max" p) (e :: es) [] pos) (tE G W (eB hMax g)) :=
  de_callB (CallR.or (call_max2 hc) (cr_max hc)) (by
    rw [hK]
    intro ρ F st σ H ds vs Q r rv p
    cases rv with
    | nil => exact p.elim
    | @cons d _ v _ h1 h2 =>
      cases h2 with
      | nil =>
        have p : Post RV G W ρ F st.env σ Q (match lstOf st.cs d with
          | some xs => (match intsOf xs with
            | some ns => if ns.isEmpty then .no else .ok (.int (maxI ns)) st.cs
            | none => .no)
          | none => .no) := by cases d <;> exact p
        cases q : lstOf st.cs d with
        | none => rw [q] at p; exact p.elim
        | some xs =>
          rw [q] at p
          simp only at p
          obtain ⟨a2, ws, rfl, s2, r2⟩ := lst_read r h1 q
          cases q2 : intsOf xs with
          | none => rw [q2] at p; exact p.elim
          | some ns =>
            rw [q2] at p
            simp only at p
            have e := ints_rel r2 q2
            subst e
            cases ns with
            | nil => exact p.elim
            | cons n0 nr =>
              refine .inr ⟨a2, n0 :: nr, rfl, s2, by simp, fun m h1 h2 => ?_⟩
              rw [max_uniq (by simp) h1 h2]
              exact p.here r (.int _)
      | @cons d2 _ _ _ h2 h3 =>
        cases h3 with
        | cons _ _ => exact (by unfold hMax at p; split at p <;> first | (rename_i z; cases z) | exact p.elim)
        | nil =>
          unfold hMax at p
          split at p
          · rename_i e
            cases e
            cases h1
            cases h2
            exact .inl ⟨_, _, rfl, p.here r (.int _)⟩
          · rename_i e
            cases e
          · exact p.elim) hg hm (by decide +kernel) ha (he := he) (hpl := hpl)
/-! ### methods of lists -/
/-- xs.append(e) -/
def eAppend (fo f : Ex) : Ex := fun st => (fo st).bind fun x c1 => match x with
  | .loc n => (match c1[n]? with
    | some (.lst _) => (f ⟨st.env, c1⟩).bind fun y c2 => (match c2[n]? with
      | some (.lst ds) => if ds.length < 16777216 then .ok .non (c2.set n (.lst (ds ++ [y]))) else .no
      | _ => .no)
    | _ => .no)
  | _ => .no
theorem de_append {c : Expr} {fo f : Ex} (hK : X.K = G.K.K) (h : PE X c (tBM X.K "list" rAppend (tE G W fo) (tCons (tE G W f) tNil))) : PE X c (tE G W (eAppend fo f)) :=
  h.impV fun σ H Q ⟨ρ, F, st, r, p⟩ => seqX r p fun ρ1 F1 H1 x c1 v x1 r1 rv1 p1 => by
    cases rv1 with
    | @loc n a0 h1 =>
      simp only at p1
      cases q : c1[n]? with
      | none => rw [q] at p1; exact p1.elim
      | some c0 =>
        rw [q] at p1
        cases c0 with
        | dk _ _ => exact p1.elim
        | tbl _ _ => exact p1.elim
        | ins _ _ _ => exact p1.elim
        | lst ds0 =>
          simp only at p1
          obtain ⟨vs0, h2, h3⟩ := r1.cell n _ _ q h1
          refine ⟨.inl ⟨rfl, vs0, SqL.of h2⟩, ?_⟩
          refine seqX (st := ⟨st.env, c1⟩) (f := f) r1 p1 fun ρ2 F2 H2 y c2 w x2 r2 rv2 p2 => ?_
          cases q2 : c2[n]? with
          | none => rw [q2] at p2; exact p2.elim
          | some c0 =>
            rw [q2] at p2
            cases c0 with
            | dk _ _ => exact p2.elim
            | tbl _ _ => exact p2.elim
            | ins _ _ _ => exact p2.elim
            | lst ds =>
              simp only at p2
              by_cases c : ds.length < 16777216
              · rw [if_pos c] at p2
                obtain ⟨vs, h4, h5⟩ := r2.cell n _ _ q2 (x2.at h1)
                refine ⟨a0, vs, w, rfl, rfl, h4, by rw [← h5.length, sizeLine_eq]; exact c, ?_⟩
                exact p2 ρ2 F2 _ .non Ext.refl (r2.cellSet (st := ⟨st.env, c2⟩) (c := .lst (ds ++ [y])) (x2.at h1) ⟨_, upd_same, h5.append (RVs.one rv2)⟩) .non
              · rw [if_neg c] at p2
                exact p2.elim
    | _ => exact p1.elim
/-- xs.pop() -/
def ePop (fo : Ex) : Ex := fun st => (fo st).bind fun x c1 => match x with
  | .loc n => (match c1[n]? with
    | some (.lst ds) => (match ds.getLast? with
      | some y => .ok y (c1.set n (.lst ds.dropLast))
      | none => .no)
    | _ => .no)
  | _ => .no
theorem RVs.dropLast {K : Kt} {ρ : List Addr} {F : Hp} {ds : List D} {vs : List V} (h : RVs K ρ F ds vs) : RVs K ρ F ds.dropLast vs.dropLast := by
  rw [List.dropLast_eq_take, List.dropLast_eq_take, h.length]
  exact h.take _
theorem de_pop {c : Expr} {fo : Ex} (hK : X.K = G.K.K) (h : PE X c (tBM0 X.K "list" rPop (tE G W fo))) : PE X c (tE G W (ePop fo)) :=
  h.impV fun σ H Q ⟨ρ, F, st, r, p⟩ => seqX r p fun ρ1 F1 H1 x c1 v x1 r1 rv1 p1 => by
    cases rv1 with
    | @loc n a0 h1 =>
      simp only at p1
      cases q : c1[n]? with
      | none => rw [q] at p1; exact p1.elim
      | some c0 =>
        rw [q] at p1
        cases c0 with
        | dk _ _ => exact p1.elim
        | tbl _ _ => exact p1.elim
        | ins _ _ _ => exact p1.elim
        | lst ds =>
          simp only at p1
          obtain ⟨vs, h2, h3⟩ := r1.cell n _ _ q h1
          cases q2 : ds.getLast? with
          | none => rw [q2] at p1; exact p1.elim
          | some y =>
            rw [q2] at p1
            rw [List.getLast?_eq_getElem?] at q2
            obtain ⟨w, e1, e2⟩ := h3.get q2
            rw [h3.length] at e1
            refine ⟨.inl ⟨rfl, vs, SqL.of h2⟩, a0, vs, w, rfl, rfl, h2, e1, ?_⟩
            exact p1 ρ1 F1 _ w Ext.refl (r1.cellSet (st := ⟨st.env, c1⟩) (c := .lst ds.dropLast) h1 ⟨_, upd_same, h3.dropLast⟩) e2
    | _ => exact p1.elim
end
end VL

namespace VL
open PySem L2 PyProof.Rows
/-! ### the law itself, called from outside: no repr is under way -/
/-- the def at f keeps sp when it is called from outside -/
structure AtC (P : Program) (w : World) (K : PySem.W.Frag) (mg : Str → Option Value) (base : Heap) (CX : CXT) (k : Nat) (f : Addr) (fd : FuncData) (ps : List Str) (sp : Sp) : Prop where
  run : ∀ (s : Shared) (H : Hp) (args : Args) (us : List Value) (vs : List V) (Q : VK) (E : XK), Room k callerA → Env0 P w K mg base callerA [] s H → BindsTo s fd args (ps.zip us) → Vals vs us → sp vs H Q E →
    codeAny (model P w) callerA (.call (.ref f) args) (CR CX [] P w H s Q E) s
section
variable {P : Program} {w : World} {mg : Str → Option Value} {base : Heap}
theorem atC_of {K : PySem.W.Frag} {CX : CXT} {k : Nat} {f : Addr} {name qual : Str} {st : Stmt} {fd : FuncData} {N ps : List Str} {sp : Sp} (Fu : Fun K name qual st f fd) (Sc : FnScope N ps (defScope st)) (hlen : ∀ vs H Q E, sp vs H Q E → vs.length = ps.length)
    (body : ∀ (cdv : Value) (s : Shared) (H : Hp) (vs : List V) (Q : VK) (E : XK), Room k (callerA.deeper (envOfC qual (defScope st) s.heap.objs.size f cdv)) → sp vs H Q E →
      ∃ t, PSs (cxOf CX P w K mg base N qual (defScope st) f cdv callerA [] s H E) (defBody st) t ∧ t { nx := fun _ H1 => Q .non H1, rt := Q } (L2.start N vs) H) :
    AtC P w K mg base CX (k + 1) f fd ps sp := by
  obtain ⟨oc, od, kV, doc, pm, an, cdv, ct, osl, rfl, lk, hcd⟩ := Fu.ex
  constructor
  intro s H args us vs Q E room e0 bind vals hsp
  have kin : K.In s.heap := e0.mod.kin.keeps fun b o h => (e0.bs b o h).1
  have nol : s.heap.NoLimit := e0.mod.nolimit.keeps fun b o h => (e0.bs b o h).1
  have kinds : ∀ y ∈ ps.zip us, (defScope st).names.lookup y.1 = some .local ∨
      ((defScope st).names.lookup y.1 = some .cell ∧ ((cellsFrom (s.heap.objs.size + 1) (defScope st).names []).lookup y.1).isSome = true) := by
    rintro ⟨nm, val⟩ hy
    cases Sc.par nm (List.of_mem_zip hy).1 with
    | inl h => exact .inl h
    | inr h => exact .inr ⟨h, PySem.W.cellsFrom_some _ _ _ (.inl h)⟩
  refine codeAny_call_function room.depth (kin _ _ lk) rfl Sc.co Sc.gen rfl (PySem.W.codeRec_of kin hcd) ?_
  refine bind _ _ _ _ ?_
  refine wpAny_newFunctionEnv_cells Sc.kind kinds ?_
  rintro env rfl s1 x
  refine ⟨nol.keeps x.toInCall.keep, codeAny_func ?_⟩
  obtain ⟨t, pt, ht⟩ := body cdv s H vs Q E (room.deeper _) hsp
  have inv := inv_start (CX := CX) (P := P) (w := w) (K := K) (mg := mg) (base := base) (N := N) (ps := ps) (E := E) (A := callerA) (outer := []) Sc room.hd e0 (hlen _ _ _ _ hsp) vals x
  refine wpAny_mono (pt.run [] s1 _ H _ inv ht) ?_ fun _ _ h => h
  intro fl s' hs
  cases fl with
  | brk => obtain ⟨_, _, _, h⟩ := hs; exact h.elim
  | cont => obtain ⟨_, _, _, h⟩ := hs; exact h.elim
  | next =>
    obtain ⟨σ', H', J, h⟩ := hs
    exact ⟨V.non, H', J.os, J.bare, J.base, J.hok, rfl, h⟩
  | ret u =>
    obtain ⟨v, σ', H', J, rv, h⟩ := hs
    exact ⟨v, H', J.os, J.bare, J.base, J.hok, rv, h⟩
/-- the law's call, by that promise -/
theorem lawC {K : PySem.W.Frag} {mb : Str → Option Value} {CX : CXT} {k : Nat} {fa a : Addr} {fd : FuncData} {x : Str} {sp : Sp} {s₁ : Shared} {vs : List Value} {ns : List Int}
    (kin : K.In s₁.heap) (globs : s₁.heap.Ns mainGlobals mg) (blt : s₁.heap.Ns builtinsNs mb) (bb : ∀ x : Str, x ≠ "__name__" → mb x = bootBuiltins x) (nol : s₁.heap.NoLimit) (gens : s₁.gens = #[])
    (obj : s₁.heap.get? a = some { cls := .type "list", data := .seq vs.toArray }) (areInts : IntsAre vs ns) (size : ns.length ≤ sizeLine) (room : Room k callerA)
    (F : ∀ base : Heap, K.In base → base.Ns mainGlobals mg → AtC P w K mg base CX k fa fd [x] sp) (binds : ∀ (s : Shared) (u : Value), BindsTo s fd ⟨[u], []⟩ [(x, u)])
    (pre : ∀ H : Hp, Only H → SqL K H a (ns.map V.int) → sp [.ref a] H (fun v _ => v = .bl true) fun _ _ _ => False)
    (noX : ∀ H e s', CX [] H s₁ (fun _ _ _ => False) e s' → False) :
    codeAny (model P w) callerA (.call (.ref fa) ⟨[.ref a], []⟩) (fun r s' => r = .ok (.ret (.bool true)) ∧ OldK s₁.heap s'.heap ∧ s'.os = s₁.os ∧ AllBare s'.gens) s₁ := by
  have rv := vals_ints areInts
  have hlv := areInts.length
  have main : ∀ H : Hp, Only H → SqL K H a (ns.map V.int) → HOk P w H s₁.heap → (∀ b o, H b = some o → b = a ∧ K.lookup a = none) →
      codeAny (model P w) callerA (.call (.ref fa) ⟨[.ref a], []⟩) (fun r s' => r = .ok (.ret (.bool true)) ∧ OldK s₁.heap s'.heap ∧ s'.os = s₁.os ∧ AllBare s'.gens) s₁ := by
    intro H only sq hok hA
    have noDict : ∀ {b : Addr} {o : Obj} {es : Array DictEntry} {ep : Nat}, s₁.heap.get? b = some o → o.data = .dict es ep → H b = none := by
      intro b o es ep hb hd
      cases q : H b with
      | none => rfl
      | some u =>
        obtain ⟨rfl, _⟩ := hA b u q
        rw [obj] at hb
        cases hb
        exact nomatch hd
    have nsB : ∀ {b : Addr} {m : Str → Option Value}, s₁.heap.Ns b m → (hidT s₁.heap H).Ns b m := by
      rintro b m ⟨o, es, ep, h1, h2, h3⟩
      exact ⟨o, es, ep, hidT_get h1 (noDict h1 h2), h2, h3⟩
    have kinB : K.In (hidT s₁.heap H) := by
      intro b o hb
      refine hidT_get (kin b o hb) ?_
      cases q : H b with
      | none => rfl
      | some u =>
        obtain ⟨rfl, h2⟩ := hA b u q
        rw [h2] at hb
        cases hb
    have md : Mod K mg (hidT s₁.heap H) := by
      refine ⟨kinB, nsB globs, ⟨mb, nsB blt, bb⟩, ?_⟩
      obtain ⟨mc, h1, h2⟩ := nol
      exact ⟨mc, nsB h1, h2⟩
    have nomem : ∀ b : Addr, b ∉ frs [] := fun b z => absurd (show b ∈ ([] : List Addr) from z) (by simp)
    have env : Env0 P w K mg (hidT s₁.heap H) callerA [] s₁ H :=
      ⟨rfl, md, fun b o h => of_hidT h, Nat.le_of_eq (hidT_size _ _), trivial, fun b z => absurd z (nomem b), hok, .of_eq gens⟩
    refine codeAny_mono ((F _ kinB (nsB globs)).run s₁ H ⟨[.ref a], []⟩ [.ref a] [.ref a] _ _ room env (binds s₁ (.ref a)) (.cons rfl .nil) (pre H only sq)) ?_
    intro r s' h
    match r, h with
    | .error e, h => exact (noX H e s' h).elim
    | .ok .next, h => exact h.elim
    | .ok .brk, h => exact h.elim
    | .ok .cont, h => exact h.elim
    | .ok (.ret u), ⟨v, H', os, bare, un, hok', ru, hv⟩ =>
      have hv : v = .bl true := hv
      subst hv
      obtain rfl : u = Value.bool true := ru
      refine ⟨rfl, OldK.of_keep ?_, os, bare⟩
      intro b o hb
      cases q : H b with
      | none => exact un.keep b o hb q (nomem b) (by simp)
      | some u =>
        rcases only b with z | ⟨ob, xs, z⟩
        · rw [q] at z
          cases z
        · obtain ⟨h1, _⟩ := hok b _ z
          obtain ⟨h2, _⟩ := hok' b _ (un.frzs b ob _ z)
          rw [hb] at h1
          cases h1
          exact h2
  cases hk : K.lookup a with
  | some o =>
    have e := kin a o hk
    rw [obj] at e
    cases e
    refine main (fun _ => none) (fun _ => .inl rfl) (.inr ⟨_, vs.toArray, _, hk, rfl, rfl, rfl, ?_, ?_⟩) (fun b u z => nomatch z) (fun b u z => nomatch z)
    · rw [List.size_toArray, hlv]
      exact size
    · simpa using rv
  | none =>
    have at_a : ∀ b u, (if b = a then some (HO.frz { cls := .type "list", data := .seq vs.toArray } (.lst (ns.map V.int))) else none) = some u → b = a ∧ u = HO.frz { cls := .type "list", data := .seq vs.toArray } (.lst (ns.map V.int)) := by
      intro b u z
      by_cases hb : b = a
      · rw [if_pos hb] at z
        exact ⟨hb, (Option.some.inj z).symm⟩
      · rw [if_neg hb] at z
        cases z
    refine main (fun b => if b = a then some (.frz { cls := .type "list", data := .seq vs.toArray } (.lst (ns.map V.int))) else none) ?_ (.inl (.inr ⟨_, if_pos rfl⟩)) ?_ fun b u z => ⟨(at_a b u z).1, hk⟩
    · intro b
      by_cases hb : b = a
      · exact .inr ⟨_, _, if_pos hb⟩
      · exact .inl (if_neg hb)
    · intro b u z
      obtain ⟨rfl, rfl⟩ := at_a b u z
      refine ⟨obj, ?_, vs, _, rv, obj⟩
      rw [List.length_map]
      exact size
end
/-- THE END: k_head's goal, from a promise that holds from outside -/
theorem walkC {l : PySem.W.OpenLaw} {n k : Nat} {q : Program} {loose : List Str} {XP : (Str → Option Value) → Heap → Prop} {YP : World → Heap → Prop} {d : DefRec} {K : Params → PySem.W.Frag} {CX : World → CXT} {x : Str}
    (hn : l.most = some n) (hn2 : n ≤ sizeLine) (hdf : d.params.defaults = []) (hr : Room k callerA)
    (hY : ∀ (w : World) (h : Heap), YP w h → (K w.params).In h)
    (F : ∀ (w : World) (mg : Str → Option Value) (fa : Addr) (h : Heap), (K w.params).In h → h.Ns mainGlobals mg → mg d.name = some (.ref fa) →
      ∃ fd : FuncData, (∀ (s : Shared) (u : Value), BindsTo s fd ⟨[u], []⟩ [(x, u)]) ∧
        ∃ sp : Sp, (∀ base : Heap, (K w.params).In base → base.Ns mainGlobals mg → AtC l.prog w (K w.params) mg base (CX w) k fa fd [x] sp) ∧
          ∀ (H : Hp) (a : Addr) (ns : List Int), ns.length ≤ n → Only H → SqL (K w.params) H a (ns.map V.int) → sp [.ref a] H (fun v _ => v = .bl true) fun _ _ _ => False)
    (hCX : ∀ (w : World) (H : Hp) (s : Shared) (e : Value) (s' : Shared), CX w [] H s (fun _ _ _ => False) e s' → False) :
    PySem.W.WalkO q loose XP YP l.row.toRowW d [] (fun f vs => PySem.call f vs) := by
  refine Att.attach_call hn hdf ?_
  intro w s₀ s₁ mg mb fa o pm cd doc a vs ns G Y ho hd hcd hmg hobj hints hlen hg
  obtain ⟨fd, hb, sp, hF, hs⟩ := F w mg fa _ (hY w _ Y) G.T.g hmg
  refine lawC (hY w _ Y) G.T.g G.T.b G.T.builtins G.T.nolimit hg hobj hints (Nat.le_trans hlen hn2) hr hF hb ?_ ?_
  · intro H hO hS
    exact hs H a ns hlen hO hS
  · intro H e s'
    exact hCX w H s₁ e s'
/-- no exception with no wish -/
theorem noCX {P : Program} {w : World} (H : Hp) (s : Shared) (e : Value) (s' : Shared) (h : L2.CX P w [] H s (fun _ _ _ => False) e s') : False := by
  obtain ⟨a, B, H', cls, d, _, _, _, _, _, _, _, hE⟩ := h
  exact hE
/-- the law's body by a plain function over the script's ints -/
theorem lawV {P : Program} {w : World} {K : Kt} {mg : Str → Option Value} {base : Heap} {k : Nat} {f : Addr} {name qual x : Str} {st : Stmt} {fd : FuncData} {N : List Str} {body : Sx} (Fu : Fun K.K name qual st f fd) (Sc : FnScope N [x] (defScope st))
    (hbody : ∀ (G : Gx), G.K = K → ∀ (cdv : Value) (s : Shared) (H : Hp) (E : XK), Room k (callerA.deeper (envOfC qual (defScope st) s.heap.objs.size f cdv)) →
      PSs (cxOf (L2.CX P w) P w K.K mg base N qual (defScope st) f cdv callerA [] s H E) (defBody st) (tS G (fun cls d _ H' => E cls d H') body)) :
    AtC P w K.K mg base (L2.CX P w) (k + 1) f fd [x] (spF K 1 (runF N.length body)) := by
  refine atC_of Fu Sc (fun vs H Q E h => spF_len h) ?_
  intro cdv s H vs Q E hr h
  obtain ⟨G, e, t⟩ := body_of h
  exact ⟨_, hbody G e cdv s H E hr, t⟩
/-- the script, handed to the law -/
theorem law_pre {K : Kt} {n : Nat} {fn : Fn} (h : ∀ ns : List Int, ns.length ≤ n → ∃ cs, fn [.frl (ns.map D.int)] [] = .ok (.bl true) cs) (H : Hp) (a : Addr) (ns : List Int) (hl : ns.length ≤ n) (_ : Only H) (hs : SqL K.K H a (ns.map V.int)) :
    spF K 1 fn [.ref a] H (fun v _ => v = .bl true) fun _ _ _ => False := by
  obtain ⟨cs, e⟩ := h ns hl
  refine ⟨[], H, [.frl (ns.map D.int)], [], ⟨rfl, fun i d e => by simp at e, rfl, fun i c a e => by simp at e, List.nodup_nil, Same.refl _, fun a ha => by simp at ha, fun _ _ h _ => h, fun a ha => by simp at ha, fun _ _ h => .inl h, Same.refl _, List.prefix_refl _⟩, .cons (.frl hs (ints_back ns)) .nil, rfl, ?_⟩
  rw [e]
  intro ρ F H' v x r rv
  cases rv
  rfl
end VL

/-! VLE: enumerate of a tuple -/
namespace VL
open PySem L2 PyProof.Rows
set_option maxHeartbeats 1000000 in
theorem enum_new1 {v : Value} {o : Obj} {Hh : Heap → Prop} (B : Begins v o Hh) :
    Meets (Builtin.«enumerate.__new__» ⟨[.type "enumerate", v], []⟩) (fun _ R s => Hh s.heap ∧
      R (.ok (.ret (.ref (s.heap.push o).objs.size))) { s with heap := (s.heap.push o).push { cls := .type "enumerate", data := .fields #[.none, .bool false, .ref s.heap.objs.size, rawInt 0, .none, .none] } }) :=
  .of_wp fun prog w A R s hs => by
    obtain ⟨hp, gn, dr, tk, os⟩ := s
    obtain ⟨hH, hR⟩ := hs
    have sub := sub_enumerate
    have step : ∀ {A1 : Around} {E1 : Value → Shared → Prop} {Q1 : Value → Shared → Prop}, Q1 (.ref hp.objs.size) ⟨hp.push o, gn, dr, tk, os⟩ → wpAny (model prog w) A1 (pyIter v) Q1 E1 ⟨hp, gn, dr, tk, os⟩ := by
      intro A1 E1 Q1 h1
      exact B.iter prog w _ _ ⟨hp, gn, dr, tk, os⟩ _ hH h1
    wp_walk using step
    refine wpAny_stack_any fun stk => wpAny_pure ?_
    split
    · rename_i cl _ _ _ _ _
      cases (cl == Value.type "enumerate")
      all_goals
        wp_walk using step
        exact ⟨_, rfl, hR⟩
    · wp_walk using step
      exact ⟨_, rfl, hR⟩
section
variable {prog : Program} {w : World} {A : Around} {E : Value → Shared → Prop} {s : Shared}
theorem enum_tup {t : Addr} {items : Array Value} {Q : Value → Shared → Prop} (ht : s.heap.IsTuple t items)
    (h : ∀ h', IsEnum h' (s.heap.objs.size + 1) s.heap.objs.size 0 .none → h'.IsTupleIter s.heap.objs.size t 0 →
      (∀ b o, s.heap.get? b = some o → h'.get? b = some o) → Q (.ref (s.heap.objs.size + 1)) { s with heap := h' }) :
    wpAny (model prog w) A (call (.type "enumerate") [.ref t]) Q E s := by
  refine callType_new F.called_enumerate (by decide) (F.typeCall_enumerate_1 _) (F.newCall_enumerate_1 _) (fun obj => F.args_object_init_2 obj _) F.entry_enumerate_new (enum_new1 (begins_tuple t items)) ⟨ht, ?_⟩
  generalize hO : ({ cls := .type "tuple_iterator", data := .fields #[.ref t, .int 0 0] } : Obj) = O
  have sz : (s.heap.push O).objs.size = s.heap.objs.size + 1 := Heap.size_push ..
  show _ ∧ _
  rw [sz]
  have he : IsEnum ((s.heap.push O).push { cls := .type "enumerate", data := .fields #[.none, .bool false, .ref s.heap.objs.size, rawInt 0, .none, .none] }) (s.heap.objs.size + 1) s.heap.objs.size 0 .none := by
    have q := Heap.get?_push_size (s.heap.push O) (o := { cls := .type "enumerate", data := .fields #[.none, .bool false, .ref s.heap.objs.size, rawInt 0, .none, .none] }) rfl
    rw [sz] at q
    exact q
  have hi : ((s.heap.push O).push { cls := .type "enumerate", data := .fields #[.none, .bool false, .ref s.heap.objs.size, rawInt 0, .none, .none] }).get? s.heap.objs.size = some O :=
    Heap.get?_push_of_some _ (Heap.get?_push_size _ (by rw [← hO]; rfl))
  refine ⟨⟨_, he, rfl⟩, h _ he ⟨O, hi, by rw [← hO], by rw [← hO]; rfl⟩ fun b ob y => Heap.get?_push_of_some _ (Heap.get?_push_of_some _ y)⟩
end
/-- each item of the tuple at a in a new pair -/
def IteT (K : PySem.W.Frag) (a : Addr) : It where
  go := fun i H => ∃ (xs : List V) (x : V), SqT K H a xs ∧ xs[i]? = some x
  yld := fun i H v H' => ∃ T x, v = .ref T ∧ H T = none ∧ H' = upd H T (.tup [.int (i : Nat), x]) ∧ ∀ xs, SqT K H a xs → xs[i]? = some x
  stop := fun i H => ∃ xs : List V, SqT K H a xs ∧ xs.length = i
theorem tupIter_ne {h : Heap} {it a : Addr} {i : Nat} {items : Array Value} (h1 : h.IsTupleIter it a i) (h2 : h.IsTuple a items) : a ≠ it := by
  rintro rfl
  obtain ⟨o, e, c, _⟩ := h1
  obtain ⟨o2, e2, c2, _⟩ := h2
  rw [e] at e2
  cases e2
  rw [c] at c2
  exact absurd c2 (by decide)
theorem turn_enumT {P : Program} {w : World} {K : PySem.W.Frag} {elts : List Expr} {kk : Nat} {tpos : Pos} (a e it : Addr) :
    Turn P w K (.Tuple elts kk tpos) (IteT K a) [e, it] e (fun i h => (∃ old, IsEnum h e it ((i : Nat) : Int) old) ∧ h.IsTupleIter it a i ∧ e ≠ it) where
  mem := by simp
  obj := by
    rintro i h ⟨⟨old, he⟩, ⟨o, ho, hc, hd⟩, _⟩ b hb
    rcases List.mem_cons.mp hb with rfl | hb
    · exact ⟨_, he, fun v q => nomatch q⟩
    · rw [List.mem_singleton.mp hb]
      exact ⟨o, ho, fun v q => by rw [hd] at q; cases q⟩
  keep := by
    rintro i h h' ⟨⟨old, he⟩, hi, ne⟩ k
    exact ⟨⟨old, k e (by simp) _ he⟩, hi.at fun o q => k it (by simp) o q, ne⟩
  item := by
    intro X hP hw hK hc i pins s σ H E I hf st hg
    subst hP hw hK
    obtain ⟨⟨old, he⟩, hit, ne⟩ := st
    obtain ⟨xs, x, hq, hx⟩ := hg
    obtain ⟨its, rv, pt, hz⟩ := I.tuple hq
    have pt : s.heap.IsTuple a its.toArray := pt
    obtain ⟨u, hu, ru⟩ := rv.get hx
    have hi : i < its.toArray.size := by
      rw [List.size_toArray]
      exact (List.getElem?_eq_some_iff.mp hu).1
    have lte : e < s.heap.objs.size := Heap.lt_size he
    have lti : it < s.heap.objs.size := by
      obtain ⟨_, q, _⟩ := hit
      exact Heap.lt_size q
    have nea : e ≠ a := by
      rintro rfl
      obtain ⟨o2, e2, c2, _⟩ := pt
      rw [he] at e2
      cases e2
      exact absurd (show Value.type "enumerate" = Value.type "tuple" from c2) (by decide)
    have Dr := Draws.tuple (prog := X.prog) (w := X.w) (A := X.A.in1) (I.ok.hd hc) it a (tupIter_ne hit pt) its.toArray
    refine wpAny_pyNext_enum_itemD Dr he ⟨hit, pt⟩ hi ne (by simp [ne, nea]) ?_
    intro y h' tk hy hOut hSt hT hsz hk
    have ey : y = u := by
      rw [List.getElem?_toArray, hu] at hy
      exact (Option.some.inj hy).symm
    subst ey
    refine ⟨_, rfl, wpAny_letOwnedTupleGo_enum (s := { s with heap := h', toks := tk + 1 }) hOut ?_⟩
    intro h2 he2 sb
    have at2 : h2.get? s.heap.objs.size = some { cls := .type "tuple", data := .seq #[.int i tk, y] } := (sb.2 _ (Nat.ne_of_gt lte)).trans hT
    have new : ObjOk X.prog X.w (upd H s.heap.objs.size (.tup [.int (i : Nat), x])) h2 s.heap.objs.size (.tup [.int (i : Nat), x]) := by
      refine ⟨by show 2 ≤ sizeLine; decide, [.int i tk, y], .cons ⟨_, rfl⟩ (.cons ru .nil), ?_⟩
      exact ⟨_, at2, rfl, _, rfl⟩
    have I2 : Inv X pins σ (upd H s.heap.objs.size (.tup [.int (i : Nat), x])) { s with heap := h2, toks := tk + 1 } := by
      refine I.turnedNew (ch := [e, it]) ?_ hf (Nat.le_refl _) new
      intro b ob hb q
      have n1 : b ≠ e := fun z => hb (by simp [z])
      have n2 : b ≠ it := fun z => hb (by simp [z])
      exact (sb.2 b n1).trans (hk b ob n1 n2 q)
    refine ⟨.ref s.heap.objs.size, _, I2, rfl, ⟨_, x, rfl, I.hok.fresh (Nat.le_refl _), rfl, ?_⟩, ⟨⟨y, ?_⟩, hSt.1.at fun o q => (sb.2 it (Ne.symm ne)).trans q, ne⟩, ?_⟩
    · intro ys hys
      rw [I.tuple_inj hys hq]
      exact hx
    · rw [show ((i + 1 : Nat) : Int) = (i : Int) + 1 by omega]
      exact he2
    · intro b hb
      have lb : b < s.heap.objs.size := by
        rcases List.mem_cons.mp hb with rfl | hb
        · exact lte
        · rw [List.mem_singleton.mp hb]; exact lti
      rw [upd_ne (Nat.ne_of_lt lb)]
      exact (hf b hb).1
  done := by
    intro X hP hw hK hc i pins s σ H E I hf st hg
    subst hP hw hK
    obtain ⟨⟨old, he⟩, hit, ne⟩ := st
    obtain ⟨xs, hq, hx⟩ := hg
    obtain ⟨its, rv, pt, hz⟩ := I.tuple hq
    have pt : s.heap.IsTuple a its.toArray := pt
    obtain ⟨f0, f1, f2, f3, f4, f5⟩ := hf it (by simp)
    have Dr := Draws.tuple (prog := X.prog) (w := X.w) (A := X.A.in1) (I.ok.hd hc) it a (tupIter_ne hit pt) its.toArray
    have ei : its.toArray.size = i := by rw [List.size_toArray, ← rv.length, hx]
    refine wpAny_pyNext_enum_endD Dr he ⟨by rw [ei]; exact hit, pt⟩ ?_
    intro h' eb
    exact ⟨rfl, I.turned (t' := s.toks) (fun b o hb q => eb b o hb q) f0 f1 f3 f4 f5⟩
  self := by
    rintro A i s Q E ⟨⟨_, he⟩, _⟩ h
    exact wpAny_pyIter_enum he h
def iEnumT (K : PySem.W.Frag) (ta : TA) : TI := fun σ H R => ta σ H fun vs H1 => ∃ a xs, vs = [.ref a] ∧ SqT K H1 a xs ∧ R (IteT K a) H1
theorem pi_enumT {X : Cx} {e : Expr} {ta : TA} {p pos tpos : Pos} {elts : List Expr} {kk : Nat} (hg : Gl X "enumerate") (hm : X.mg "enumerate" = none) (ha : PA X [e] ta) (hs : starEach [e] X.env = [(false, eval e X.env)] := by rfl) :
    PI X (.Tuple elts kk tpos) (.Call (.Name "enumerate" p) [e] [] pos) (iEnumT X.K ta) := by
  constructor
  intro pins s σ H R I h
  refine Call_ (ld_blt I hg hm boot_enumerate (PyProof.Rows.callWith_type1 (thn (ha.run pos pins s σ H _ I h) ?_) hs rfl))
  rintro us s1 ⟨vs, H1, I1, r1, a, xs, rfl, hq, q⟩
  cases r1 with
  | cons r rr =>
    cases rr
    cases r
    obtain ⟨its, rv, pt, hz⟩ := I1.tuple hq
    refine enum_tup (show s1.heap.IsTuple a its.toArray from pt) ?_
    intro h' he hit hk
    refine wpAny_pyIter_enum he ?_
    have I2 : Inv X pins σ H1 { s1 with heap := h' } := I1.kept (t' := s1.toks) hk
    refine ⟨s1.heap.objs.size + 1, [s1.heap.objs.size + 1, s1.heap.objs.size], _, _, H1, rfl, I2, turn_enumT a (s1.heap.objs.size + 1) s1.heap.objs.size, ⟨⟨.none, he⟩, hit, Nat.succ_ne_self _⟩, ?_, q⟩
    intro b hb
    have le : s1.heap.objs.size ≤ b := by
      rcases List.mem_cons.mp hb with rfl | hb
      · exact Nat.le_add_right _ _
      · rw [List.mem_singleton.mp hb]; exact Nat.le_refl _
    exact I1.fpOk le (I1.hok.fresh le)
section
variable {X : Cx} {G : Gx} {W : WX} {ρ : List Addr} {F : Hp} {e : Expr} {pos : Pos}
theorem wk_enumT {a : Addr} {ds : List D} {vs : List V} (hs : SqT G.K.K F a vs) (rv : RVs G.K ρ F ds vs) : Wk G ρ F (IteT G.K.K a) (enumD ds) keepAll := by
  intro ρ1 F1 st1 σ1 H1 i x r _
  have hs1 : SqT G.K.K H1 a vs := sqT_same r.fz (sqT_same x.fz hs)
  constructor
  · intro d e
    unfold enumD at e
    rw [List.getElem?_mapIdx] at e
    cases q : ds[i]? with
    | none => rw [q] at e; cases e
    | some d0 =>
      rw [q] at e
      cases e
      obtain ⟨v, e1, e2⟩ := (rv.ext x).get q
      refine ⟨⟨vs, v, hs1, e1⟩, ?_⟩
      rintro y H' ⟨T, u, rfl, e4, rfl, e6⟩
      have e6 := e6 vs hs1
      rw [e1] at e6
      cases e6
      obtain ⟨x2, r2⟩ := r.fresh (o := .tup [.int (i : Nat), v]) e4
      exact ⟨ρ1, _, x2, rfl, same_upd' e4, r2, .tup (SqT.of upd_same) (.cons (.int _) (.cons (e2.ext x2) .nil))⟩
  · intro e
    unfold enumD at e
    rw [List.length_mapIdx] at e
    exact ⟨vs, hs1, by rw [← rv.length, e]⟩
def iEnT (g : Ax) : Ix := fun st => (g st).bind fun xs c1 => match xs with
  | [.tup ds] => .ok (enumD ds, keepAll) c1
  | [.btp ds] => .ok (enumD ds, keepAll) c1
  | _ => .no
theorem di_enumT {g : Ax} {p pos tpos : Pos} {elts : List Expr} {kk : Nat} (hK : X.K = G.K.K) (hg : Gl X "enumerate") (hm : X.mg "enumerate" = none) (ha : PA X [e] (tAs G W g)) (hs : starEach [e] X.env = [(false, eval e X.env)] := by rfl) :
    PI X (.Tuple elts kk tpos) (.Call (.Name "enumerate" p) [e] [] pos) (tI G W (iEnT g)) := by
  refine (pi_enumT hg hm ha hs).impV ?_
  rintro σ H R ⟨ρ, F, st, r, p⟩
  refine tI_of (R := RVs) r p (fun ρ1 F1 H1 xs c1 v x1 r1 rv1 q hn => ?_) (fun xs c1 => ?_)
  · rw [hK]
    split at hn
    · cases rv1 with
      | cons h1 h2 =>
        cases h2
        cases h1 with
        | tup h1 h2 => exact ⟨_, _, rfl, sqT_same r1.fz h1, q _ rfl _ (wk_enumT h1 h2)⟩
    · cases rv1 with
      | cons h1 h2 =>
        cases h2
        cases h1 with
        | btp h1 _ h2 => exact ⟨_, _, rfl, sqT_same r1.fz (.inl (.inr ⟨_, h1⟩)), q _ rfl _ (wk_enumT (.inl (.inr ⟨_, h1⟩)) h2)⟩
    · exact absurd rfl hn
  · split <;> first | exact .inl ⟨_, rfl⟩ | exact .inr rfl
end
end VL

/-! VLB: repr, isinstance, new objects, keywords -/
namespace VL
open PySem L2 PyProof.Rows
/-! ### repr of data -/
def rReprD (K : PySem.W.Frag) : List V → Hp → VK → Prop := fun xs H Q => ∃ (x : V) (d : PyData), xs = [x] ∧ Dp K H x d ∧ SeqAt.shaped d = true ∧ d.showable = true ∧ d.shown.length ≤ sizeLine ∧ Q (.str d.shown) H
theorem call_reprD {X : Cx} (hg : X.A.guards = some []) (hu : X.A.units + 66 < cLine) : CallR X (.builtin "repr") (rReprD X.K) := by
  intro pins s σ H xs us Q I r h
  obtain ⟨x, d, rfl, dp, sh, sw, sz, q⟩ := h
  obtain ⟨u, rfl, rx⟩ := vals1 r
  cases d with
  | none =>
    cases dp
    cases rx
    exact PySem.P.repr_of_none ⟨.str _, H, I.tok _, ⟨_, rfl⟩, q⟩
  | bool b =>
    cases dp
    cases rx
    refine PySem.P.repr_of_bool ⟨.str _, H, I.tok _, ⟨_, rfl⟩, ?_⟩
    simp only [PyData.shown] at q
    exact q
  | int i =>
    cases dp
    obtain ⟨t, rfl⟩ := rx
    simp only [PyData.showable, decide_eq_true_eq] at sw
    refine PySem.P.repr_of_int sw ⟨.str _, H, I.tok _, ⟨_, rfl⟩, ?_⟩
    simp only [PyData.shown] at q
    exact q
  | str z =>
    cases dp
    obtain ⟨t, rfl⟩ := rx
    simp only [PyData.shown] at q sz
    exact PySem.P.repr_of_str ⟨.str _, H, I.tok _, ⟨_, rfl⟩, q⟩ sz
  | dict kvs => cases dp
  | list ds =>
    have hd := SeqAt.depth_of_shaped sh
    have hnd := PyData.hasDict_of_canLay _ (SeqAt.canLay_of_shaped sh)
    obtain ⟨as, rd⟩ := Dp.reads I _ _ _ dp rx
    cases dp
    obtain rfl : u = Value.ref _ := rx
    refine repr_of_reads' rd sw (PyData.noDict_hsm hnd) hg (by omega) (fun _ _ e => e) ?_ sz
    intro h' t tk hk
    exact ⟨.str _, H, I.kept hk, ⟨_, rfl⟩, q⟩
  | tuple ds =>
    have hd := SeqAt.depth_of_shaped sh
    have hnd := PyData.hasDict_of_canLay _ (SeqAt.canLay_of_shaped sh)
    obtain ⟨as, rd⟩ := Dp.reads I _ _ _ dp rx
    cases dp
    obtain rfl : u = Value.ref _ := rx
    refine repr_of_reads' rd sw (PyData.noDict_hsm hnd) hg (by omega) (fun _ _ e => e) ?_ sz
    intro h' t tk hk
    exact ⟨.str _, H, I.kept hk, ⟨_, rfl⟩, q⟩
/-- may be shown -/
def showOk (d : D) : Bool := plain d && SeqAt.shaped (py d) && (py d).showable && decide ((py d).shown.length ≤ 16777216)
def hRepr : FB := fun cs ds => match ds with
  | [x] => if showOk (norm cs x) then .ok (.str (py (norm cs x)).shown) cs else .no
  | _ => .no
section
variable {X : Cx} {G : Gx} {W : WX} {e a : Expr} {es : List Expr} {g : Ax} {pos p : Pos} {fa : Ex}
theorem vn_repr : VN G W (rReprD G.K.K) hRepr := by
  intro ρ F st σ H ds vs Q r rv p
  unfold hRepr at p
  split at p
  · rename_i x
    cases rv with
    | cons h1 h2 =>
      cases h2
      by_cases c : showOk (norm st.cs x) = true
      · rw [if_pos c] at p
        unfold showOk at c
        simp only [Bool.and_eq_true, decide_eq_true_eq] at c
        exact ⟨_, _, rfl, dp_norm r h1 c.1.1.1, c.1.1.2, c.1.2, line_of c.2, p.here r (.str _)⟩
      · rw [if_neg c] at p
        exact p.elim
  · exact p.elim
theorem de_repr (hK : X.K = G.K.K) (hgd : X.A.guards = some []) (hu : X.A.units + 66 < cLine) (hg : Gl X "repr") (hm : X.mg "repr" = none) (ha : PA X (e :: es) (tAs G W g)) (he : starEach (e :: es) X.env = (false, eval e X.env) :: starEach es X.env := by rfl) (hpl : (backTo pos (starEach es X.env)).any (·.1) = false := by rfl) : PE X (.Call (.Name "repr" p) (e :: es) [] pos) (tE G W (eB hRepr g)) :=
  de_callB (call_reprD hgd hu) (by rw [hK]; exact vn_repr) hg hm boot_repr ha (he := he) (hpl := hpl)
/-! ### isinstance with a built-in class -/
def tyD (cs : List Cell) : D → Option String
  | .non => some "NoneType"
  | .bl _ => some "bool"
  | .int _ => some "int"
  | .str _ => some "str"
  | .tup _ => some "tuple"
  | .obj _ _ _ => none
  | .dct _ _ => none
  | .btp _ => some "tuple"
  | .cls _ => none
  | d => (lstOf cs d).map fun _ => "list"
theorem tyX_of {ρ : List Addr} {F : Hp} {st : S} {σ : L2.St} {H : Hp} {x : D} {v : V} {n : String} (r : Rel G ρ F st σ H) (h : RV G.K ρ F x v) (e : tyD st.cs x = some n) : TyX G.K.K H v (.type n) := by
  have lists : ∀ {y : D}, RV G.K ρ F y v → (lstOf st.cs y).map (fun _ => "list") = some n → TyX G.K.K H v (.type n) := by
    intro y hy e
    cases q : lstOf st.cs y with
    | none => rw [q] at e; cases e
    | some ds =>
      rw [q] at e
      cases e
      obtain ⟨b, vs, rfl, s2, _⟩ := lst_read r hy q
      rcases s2 with (s2 | ⟨o, s2⟩) | ⟨o, its, k, l1, l2, _⟩
      · exact .base (.lst s2)
      · exact .base (.frz s2)
      · exact .kList l1 l2
  cases h with
  | non => cases e; exact .base .non
  | bl b => cases e; exact .base (.bl b)
  | int i => cases e; exact .base (.int i)
  | str z => cases e; exact .base (.str z)
  | tup h1 h2 =>
    cases e
    rcases sqT_same r.fz h1 with (s2 | ⟨o, s2⟩) | ⟨o, its, k, l1, l2, _⟩
    · exact .base (.tup s2)
    · exact .fTuple s2
    · exact .kTuple l1 l2
  | lst h1 h2 => exact lists (.lst h1 h2) e
  | frl h1 h2 => exact lists (.frl h1 h2) e
  | loc h1 => exact lists (.loc h1) e
  | obj => cases e
  | dct => cases e
  | btp h1 h2 h3 => cases e; exact .fTuple (r.fz _ _ h1)
  | cls => cases e
def isSub (a b : String) : Option Bool :=
  if ["NoneType", "bool", "int", "str", "tuple", "list"].contains a && ["bool", "int", "str", "tuple", "list"].contains b then some (a == b || a == "bool" && b == "int") else none
theorem isSub_of {a b : String} {k : Bool} (h : isSub a b = some k) : kitB a b = some k := by
  unfold isSub at h
  split at h
  · rename_i c
    rw [Bool.and_eq_true] at c
    have h1 := List.contains_iff_mem.mp c.1
    have h2 := List.contains_iff_mem.mp c.2
    cases h
    simp only [List.mem_cons, List.not_mem_nil, or_false] at h1 h2
    rcases h1 with rfl | rfl | rfl | rfl | rfl | rfl <;> rcases h2 with rfl | rfl | rfl | rfl | rfl <;> decide +kernel
  · cases h
def gIsi (T : String) : F1 := fun cs x => match tyD cs x with
  | some n => (match isSub n T with
    | some k => .ok (.bl k) cs
    | none => .no)
  | none => .no
theorem de_isi {T : String} {x : Str} {p1 p2 : Pos} (hK : X.K = G.K.K) (hg : Gl X "isinstance") (hm : X.mg "isinstance" = none) (hgT : Gl X x) (hmT : X.mg x = none) (hbT : bootBuiltins x = some (.type T)) (ha : PE X a (tE G W fa)) (hn : x ≠ "__name__" := by decide) (hd : (x == ("__debug__" : Str)) = false := by decide)
    (hs : starEach [a, .Name x p2] X.env = (false, eval a X.env) :: starEach [.Name x p2] X.env := by rfl) (hpl : (backTo pos (starEach [.Name x p2] X.env)).any (·.1) = false := by rfl) (hs2 : starEach [.Name x p2] X.env = (false, eval (.Name x p2) X.env) :: starEach [] X.env := by rfl) :
    PE X (.Call (.Name "isinstance" p1) [a, .Name x p2] [] pos) (tE G W (eUn (gIsi T) fa)) := by
  have hT : PE X (.Name x p2) (tC (.ty T)) := pe_bltn hgT hmT hbT rfl hn hd
  refine (pe_callB call_isi hg hm boot_isinstance (pa_cons ha (pa_cons hT pa_nil hs2) hs) (he := hs) (hpl := hpl)).impV ?_
  rintro σ H Q ⟨ρ, F, st, r, p⟩
  refine seqX r p fun ρ1 F1 H1 x c1 v x1 r1 rv1 p1 => ?_
  unfold gIsi at p1
  cases q : tyD c1 x with
  | none => rw [q] at p1; exact p1.elim
  | some n =>
    rw [q] at p1
    simp only at p1
    cases q2 : isSub n T with
    | none => rw [q2] at p1; exact p1.elim
    | some k =>
      rw [q2] at p1
      rw [hK]
      exact ⟨v, .ty T, .type n, .type T, k, rfl, .ty T, tyX_of (st := ⟨st.env, c1⟩) r1 rv1 q, kit_ty (isSub_of q2), p1.here (st := ⟨st.env, c1⟩) r1 (.bl _)⟩
/-! ### self.f = e, self an own instance -/
def putD (f : Str) (d : D) : List Str → List D → List Str × List D
  | k :: ks, x :: xs => if k = f then (k :: ks, d :: xs) else ((putD f d ks xs).1.cons k, (putD f d ks xs).2.cons x)
  | _, _ => ([f], [d])
theorem putD_rel {K : Kt} {ρ : List Addr} {F : Hp} {f : Str} {d : D} {v : V} (h : RV K ρ F d v) : ∀ {ks : List Str} {ds : List D} {vs : List V}, RVs K ρ F ds vs → ks.length = vs.length →
    ∃ ws, RVs K ρ F (putD f d ks ds).2 ws ∧ (putD f d ks ds).1.length = ws.length ∧ putF f v (ks.zip vs) = (putD f d ks ds).1.zip ws
  | [], _, _, .nil, _ => ⟨[v], .cons h .nil, rfl, rfl⟩
  | [], _, _, .cons _ _, e => by simp at e
  | _ :: _, _, _, .nil, e => by simp at e
  | k :: ks, _, _, @RVs.cons _ _ _ x xs y ys hx r, e => by
    have e' : ks.length = ys.length := by simpa using e
    unfold putD
    rw [List.zip_cons_cons]
    unfold putF
    by_cases c : k = f
    · rw [if_pos c, if_pos c]
      exact ⟨v :: ys, .cons h r, by simp [e'], by rw [List.zip_cons_cons]⟩
    · rw [if_neg c, if_neg c]
      obtain ⟨ws, h1, h2, h3⟩ := putD_rel h r e'
      exact ⟨y :: ws, .cons hx h1, by simpa using h2, by rw [h3]; rfl⟩
def setFld (cn : Nat) (f : Str) (o v : D) (st : S) : SOut := match o with
  | .loc n => (match st.cs[n]? with
    | some (.ins C ks ds) => if C = cn ∧ ks.length < 1000 then .nx ⟨st.env, st.cs.set n (.ins C (putD f v ks ds).1 (putD f v ks ds).2)⟩ else .no
    | _ => .no)
  | _ => .no
def sSetFld (cn : Nat) (f : Str) (fv fo : Ex) : Sx := fun st => thenS (fv st) st.env fun v st1 => thenS (fo st1) st1.env fun o st2 => setFld cn f o v st2
theorem ds_fld {cn : Nat} {f : Str} {o value : Expr} {fv fo : Ex} {pos' : Pos} (hK : X.K = G.K.K) (hf : FldOk G.K cn f) (ho : PE X o (tE G W fo)) (hv : PE X value (tE G W fv)) (hs : swapsWith value (some (.Attribute o f pos')) pos.line X.env = pure false := by rfl) :
    PS X (.Assign [.Attribute o f pos'] value pos) (tS G W (sSetFld cn f fv fo)) := by
  refine (ps_fld ho hv hs).impV ?_
  rintro E σ H ⟨ρ, F, st, r, p⟩
  refine seqS (f := fv) r p fun ρ1 F1 H1 x c1 v x1 r1 rv1 p1 => ?_
  refine seqS (st := ⟨st.env, c1⟩) (f := fo) r1 p1 fun ρ2 F2 H2 y c2 w x2 r2 rv2 p2 => ?_
  rw [hK]
  unfold setFld at p2
  cases rv2 with
  | @loc n a0 h1 =>
    simp only at p2
    cases q : c2[n]? with
    | none => rw [q] at p2; exact p2.elim
    | some c0 =>
      rw [q] at p2
      cases c0 with
      | lst _ => exact p2.elim
      | dk _ _ => exact p2.elim
      | tbl _ _ => exact p2.elim
      | ins C ks ds =>
        simp only at p2
        by_cases c : C = cn ∧ ks.length < 1000
        · rw [if_pos c] at p2
          obtain ⟨rfl, c2'⟩ := c
          obtain ⟨dx, vs, h2, h3, h4⟩ := r2.cell n _ _ q h1
          refine ⟨a0, _, dx, _, rfl, h2, hf.cl, hf.no, ?_, ?_⟩
          · rw [List.length_zip, ← h3, Nat.min_self]
            exact c2'
          · obtain ⟨ws, g1, g2, g3⟩ := putD_rel (f := f) (rv1.ext x2) h4 h3
            refine p2 ρ2 F2 σ _ Ext.refl (r2.cellSet (st := ⟨st.env, c2⟩) (c := .ins C (putD f x ks ds).1 (putD f x ks ds).2) h1 ⟨dx, ws, ?_, g2, g1⟩)
            rw [upd_same, g3]
        · rw [if_neg c] at p2
          exact p2.elim
  | _ => exact p2.elim
end
/-! ### a new object -/
/-- the last own cell, an instance, becomes a frozen object -/
theorem Rel.freezeO {G : Gx} {ρ0 ρ : List Addr} {F0 F : Hp} {env0 env : List (Option D)} {cs0 cs : List Cell} {C : Nat} {ks : List Str} {ds : List D} {σ0 σ : L2.St} {H0 H : Hp} {a : Addr} {n : Nat} (r0 : Rel G ρ0 F0 ⟨env0, cs0⟩ σ0 H0) (hn : n = cs0.length) (x : Ext ρ0 F0 ρ F)
    (r : Rel G ρ F ⟨env, cs ++ [.ins C ks ds]⟩ σ H) (hl : cs.length = n) (ha : ρ[n]? = some a) (b1 : belows n ds = true) (b2 : cs.all (belowC n) = true) :
    ∃ F', Ext ρ0 F0 ρ0 F' ∧ Rel G ρ0 F' ⟨env0, cs⟩ σ0 H ∧ RV G.K ρ0 F' (.obj C ks ds) (.ref a) := by
  have hρ : ρ.take n = ρ0 := by
    obtain ⟨t, rfl⟩ := x.pre
    rw [hn, ← show ρ0.length = cs0.length from r0.cl, List.take_left]
  obtain ⟨dx, vs, h1, h1l, h2⟩ := r.cell n (.ins C ks ds) a (by
    show (cs ++ [Cell.ins C ks ds])[n]? = _
    rw [List.getElem?_append_right (by omega), hl, Nat.sub_self]; rfl) ha
  have hm : a ∈ ρ := List.mem_of_getElem? ha
  have hFa : F a = none := r.sep a hm
  have s1 : Same F (upd F a (.ins (G.K.κ C) dx (ks.zip vs))) := same_upd' hFa
  have hna : a ∉ ρ0 := fun z => by
    rw [← hρ] at z
    obtain ⟨i, hi, e⟩ := List.getElem_of_mem z
    rw [List.length_take] at hi
    have hin : i < n := by omega
    rw [List.getElem_take] at e
    obtain ⟨h3, h3'⟩ := List.getElem?_eq_some_iff.mp ha
    have := (List.getElem_inj r.nd).mp (e.trans h3'.symm)
    omega
  have hA : a ∉ G.A0 := fun z => hna (r0.a0.subset z)
  have hH0 : G.H0 a = none := (r.own a hm).resolve_left hA
  refine ⟨upd F a (.ins (G.K.κ C) dx (ks.zip vs)), ⟨List.prefix_refl _, x.fz.trans s1⟩, ⟨r0.len, fun i d e => ?_, ?_, fun i c b e1 e2 => ?_, r0.nd, fun b o e => ?_, fun b hb => ?_, r.fr, fun b hb => r.own b (x.pre.subset hb), fun b o e => ?_, r.old.trans s1, r0.a0⟩, ?_⟩
  · obtain ⟨v, e1, e2⟩ := r0.env i d e
    exact ⟨v, e1, e2.ext ⟨List.prefix_refl _, x.fz.trans s1⟩⟩
  · show ρ0.length = cs.length
    rw [hl, hn]; exact r0.cl
  · have e1 : cs[i]? = some c := e1
    have hi : i < cs.length := (List.getElem?_eq_some_iff.mp e1).1
    have q := r.cell i c b (by show (cs ++ [Cell.ins C ks ds])[i]? = _; rw [List.getElem?_append_left hi]; exact e1) (x.at e2)
    have q := q.cut (n := n) s1 (List.all_eq_true.mp b2 c (List.mem_of_getElem? e1))
    rw [hρ] at q
    exact q
  · by_cases hb : b = a
    · subst hb
      rw [upd_same] at e
      cases e
      exact h1
    · rw [upd_ne hb] at e
      exact r.fz b o e
  · rw [upd_ne (show b ≠ a from fun z => hna (by rw [← z]; exact hb))]
    exact r.sep b (x.pre.subset hb)
  · by_cases hb : b = a
    · subst hb
      exact .inr hH0
    · rw [upd_ne hb] at e
      exact r.new b o e
  · have q := h2.cut (n := n) s1 b1
    rw [hρ] at q
    exact .obj upd_same h1l q
def lastIns (cs : List Cell) : Option (List Cell × Nat × List Str × List D) := match cs.reverse with
  | .ins C ks ds :: r => some (r.reverse, C, ks, ds)
  | _ => none
theorem lastIns_eq {cs c1 : List Cell} {C : Nat} {ks : List Str} {ds : List D} (h : lastIns cs = some (c1, C, ks, ds)) : cs = c1 ++ [.ins C ks ds] := by
  unfold lastIns at h
  split at h
  · rename_i e
    cases h
    rw [← List.reverse_reverse cs, e, List.reverse_cons]
  · cases h
/-- C(..): __init__ is fn; the new instance is its first argument -/
def makeD (cn : Nat) (fn : Fn) (ds : List D) (cs : List Cell) : Out D := match fn (.loc cs.length :: ds) (cs ++ [.ins cn [] []]) with
  | .ok .non c2 => (match lastIns c2 with
    | some (c3, C, ks, es) => if C = cn ∧ c3.length = cs.length ∧ belows cs.length es = true ∧ c3.all (belowC cs.length) = true then .ok (.obj C ks es) c3 else .no
    | none => .no)
  | .ok _ _ => .no
  | .ex e c2 => if belows cs.length e.ds = true ∧ (c2.take cs.length).all (belowC cs.length) = true ∧ c2.length = cs.length + 1 then .ex e (c2.take cs.length) else .no
  | .no => .no

section
variable {X : Cx} {G : Gx} {W : WX} {ρ : List Addr} {F : Hp} {st : S} {σ : L2.St} {H : Hp} {e : Expr} {es : List Expr} {g : Ax} {pos p : Pos}
/-- W does not hang on the slots -/
def Flat (W : WX) : Prop := ∀ c d σ σ' H, W c d σ H → W c d σ' H
theorem flat0 : Flat W0 := fun _ _ _ _ _ h => h
theorem flatE {E : XK} : Flat (fun cls d _ H' => E cls d H') := fun _ _ _ _ _ h => h
theorem passF (tk : Takes X W) (hW : Flat W) : Passes (L2.CX X.prog X.w) X (fun c d H => W c d [] H) := fun pins σ H s e s' I c => passes_call tk (fun cls d σ H h => hW _ _ _ _ _ h) pins σ H s e s' I c
theorem make_of {cn n : Nat} {fn : Fn} {ds : List D} {vs : List V} {Q : VK} {x dx : Addr} (hW : Flat W) (r : Rel G ρ F st σ H) (rv : RVs G.K ρ F ds vs) (hn : ds.length + 1 = n) (nx : H x = none) (ndx : H dx = none) (ne : dx ≠ x) (p : Post RV G W ρ F st.env σ Q (makeD cn fn ds st.cs)) :
    spF G.K n fn (.ref x :: vs) (upd (upd H dx (.own x)) x (.ins (G.K.κ cn) dx [])) (fun v H2 => v = .non ∧ Q (.ref x) H2) (fun c d H => W c d [] H) := by
  obtain ⟨x1, r1⟩ := r.fresh (o := .own x) ndx
  have nx1 : (upd H dx (.own x)) x = none := by rw [upd_ne ne.symm]; exact nx
  have y : Ext ρ (upd F dx (.own x)) (ρ ++ [x]) (upd F dx (.own x)) := ⟨List.prefix_append _ _, Same.refl _⟩
  obtain ⟨x2, r2⟩ := r1.cellNew (p := x) (o := .ins (G.K.κ cn) dx []) (c := .ins cn [] []) nx1 ⟨dx, [], upd_same, rfl, .nil⟩
  have hat : (ρ ++ [x])[st.cs.length]? = some x := by rw [← r.cl, List.getElem?_append_right (Nat.le_refl _), Nat.sub_self]; rfl
  refine ⟨ρ ++ [x], upd F dx (.own x), .loc st.cs.length :: ds, st.cs ++ [.ins cn [] []], r2.entry, .cons (.loc hat) ((rv.ext x1).ext x2), by simpa using hn, ?_⟩
  unfold makeD at p
  have x12 := x1.trans x2
  cases q : fn (.loc st.cs.length :: ds) (st.cs ++ [.ins cn [] []]) with
  | no => rw [q] at p; exact p.elim
  | ex e' c2 =>
    rw [q] at p
    simp only at p
    by_cases c : belows st.cs.length e'.ds = true ∧ (c2.take st.cs.length).all (belowC st.cs.length) = true ∧ c2.length = st.cs.length + 1
    · rw [if_pos c] at p
      intro ρ3 F3 H3 cls d x3 r3 xa
      have r4 := r2.after x3 r3
      have eρ : ρ3.take st.cs.length = ρ := by
        obtain ⟨t, ht⟩ := x3.pre
        have ht : (ρ ++ [x]) ++ t = ρ3 := ht
        rw [← ht, List.append_assoc, ← show ρ.length = st.cs.length from r.cl, List.take_left]
      obtain ⟨y1, y2, y3, y4, y5, y6, y7⟩ := xa
      have r5 := r4.entryP (n := st.cs.length) c.2.1
      have e4 : Ext ρ F ρ3 F3 := x12.trans x3
      refine hW _ _ _ _ _ (p ρ F3 H3 cls d ⟨List.prefix_refl _, e4.fz⟩ ?_ ⟨y1, y2, y3, y4, y5, y6, ?_⟩)
      · refine ⟨r.len, fun i d' e1 => ?_, ?_, fun i c0 b e1 e2 => ?_, r.nd, r4.fz, fun b hb => r4.sep b (e4.pre.subset hb), r4.fr, fun b hb => r.own b hb, r4.new, r4.old, r.a0⟩
        · obtain ⟨v, f1, f2⟩ := r.env i d' e1
          exact ⟨v, f1, f2.ext ⟨List.prefix_refl _, e4.fz⟩⟩
        · show ρ.length = (c2.take st.cs.length).length
          rw [List.length_take, c.2.2, r.cl]
          omega
        · have q1 := r5.cell i c0 b e1 (by rw [eρ]; exact e2)
          rw [eρ] at q1
          exact q1
      · have q1 := y7.cut (n := st.cs.length) (Same.refl F3) c.1
        rw [eρ] at q1
        exact q1
    · rw [if_neg c] at p
      exact p.elim
  | ok d c2 =>
    rw [q] at p
    cases d with
    | non =>
      simp only at p
      intro ρ3 F3 H3 v x3 r3 rv3
      cases rv3
      refine ⟨rfl, ?_⟩
      cases q2 : lastIns c2 with
      | none => rw [q2] at p; exact p.elim
      | some z =>
        obtain ⟨c3, C, ks, es⟩ := z
        rw [q2] at p
        simp only at p
        by_cases c : C = cn ∧ c3.length = st.cs.length ∧ belows st.cs.length es = true ∧ c3.all (belowC st.cs.length) = true
        · rw [if_pos c] at p
          obtain ⟨rfl, h1, h2, h3⟩ := c
          have e := lastIns_eq q2
          subst e
          have r4 := r2.after x3 r3
          obtain ⟨F', x5, r5, rv5⟩ := Rel.freezeO (a := x) (env0 := st.env) (cs0 := st.cs) r rfl (x12.trans x3) r4 h1 (x3.at hat) h2 h3
          exact p ρ F' H3 _ x5 r5 rv5
        · rw [if_neg c] at p
          exact p.elim
    | _ => exact p.elim
def eMake (cn : Nat) (fn : Fn) (g : Ax) : Ex := fun st => (g st).bind fun ds c1 => makeD cn fn ds c1
theorem de_make {cn k : Nat} {fn : Fn} {f : Addr} {fd : FuncData} {ps : List Str} {x : Str} (hW : Flat W) (tk : Takes X W) (M : Mk X.K (G.K.κ cn) f) (hF : FnOk X.prog X.w X.K X.mg X.base (L2.CX X.prog X.w) k f fd ps (spF G.K ps.length fn)) (hr : Room (k + 1) X.A) (hg : Gl X x) (hm : X.mg x = some (.ref (G.K.κ cn))) (hb : Binds X.K fd ps [])
    (ha : PA X (e :: es) (tAs G W g)) (hlen : ∀ st ds c1, g st = .ok ds c1 → ds.length + 1 = ps.length) (hdb : (x == ("__debug__" : Str)) = false := by decide) (he : starEach (e :: es) X.env = (false, eval e X.env) :: starEach es X.env := by rfl) (hpl : (backTo pos (starEach es X.env)).any (·.1) = false := by rfl) :
    PE X (.Call (.Name x p) (e :: es) [] pos) (tE G W (eMake cn fn g)) := by
  refine (pe_make M hF hr hg hm hb .nil (passF tk hW) ha hdb he hpl).impV ?_
  rintro σ H Q ⟨ρ, F, st, r, p⟩
  unfold eMake at p
  refine ⟨ρ, F, st, r, ?_⟩
  cases q : g st with
  | no => rw [q] at p; exact p.elim
  | ex e' cs => rw [q] at p; exact p
  | ok ds c1 =>
    rw [q] at p
    have p : Post RV G W ρ F st.env σ Q (makeD cn fn ds c1) := p
    intro ρ1 F1 H1 vs x1 r1 rv1 x dx nx ndx ne
    rw [List.append_nil]
    exact make_of (st := ⟨st.env, c1⟩) hW r1 rv1 (hlen _ _ _ q) nx ndx ne (Post.ext x1 p)
/-! ### keywords alone -/
theorem _root_.L2.PK.impV {X : Cx} {kws : List Keyword} {t t' : TA} (h : PK X kws t) (m : ∀ σ H Q, t' σ H Q → t σ H Q) : PK X kws t' := ⟨fun pos pins s σ H Q I hw => h.run pos pins s σ H Q I (m _ _ _ hw)⟩
theorem dk_nil : PK X [] (tAs G W aNil) := pk_nil.impV fun σ H Q ⟨ρ, F, st, r, p⟩ => p.here r .nil
theorem dk_cons {nm : Option Str} {kpos : Pos} {kws : List Keyword} {f : Ex} (h : PE X e (tE G W f)) (hr : PK X kws (tAs G W g)) : PK X (⟨nm, e, kpos⟩ :: kws) (tAs G W (aCons f g)) :=
  (pk_cons h hr).impV fun σ H Q ⟨ρ, F, st, r, p⟩ => seqX r p fun ρ1 F1 H1 x c1 v x1 r1 rv1 p1 => seqX (st := ⟨st.env, c1⟩) r1 p1 fun ρ2 F2 H2 xs c2 vs x2 r2 rv2 p2 => p2.here (st := ⟨st.env, c2⟩) r2 (.cons (rv1.ext x2) rv2)
theorem pe_kw0 {CX : CXT} {E : XK} {k : Nat} {f : Addr} {fd : FuncData} {ps ks : List Str} {sp : Sp} {x : Str} {kws : List Keyword} {tk : TA} {gg : List Value → List Value → List Value} {gV : List V → List V → List V}
    (hF : FnOk X.prog X.w X.K X.mg X.base CX k f fd ps sp) (hr : Room k X.A) (hg : Gl X x) (hm : X.mg x = some (.ref f)) (hk : PySem.W.keepIn X.K (.ref f) = true) (hb : KBn X.K fd ps 0 ks gg gV) (hx : Passes CX X E) (hkw : PK X kws tk)
    (hall : (backToKw pos (keywordEach kws X.env)).all (·.1.isSome) = true := by rfl) (hks : (backToKw pos (keywordEach kws X.env)).filterMap (·.1) = ks := by rfl) (hdb : (x == ("__debug__" : Str)) = false := by decide)
    (hpl : ((backTo pos (starEach [] X.env)).any (·.1) || (backToKw pos (keywordEach kws X.env)).any (·.1.isNone)) = false := by rfl) :
    PE X (.Call (.Name x p) [] kws pos) (fun σ H Q => tk σ H fun zs H2 => zs.length = ks.length ∧ sp (gV [] zs) H2 Q E) := by
  constructor
  intro pins s σ H Q I h
  refine wpAny_Call_Name_kw (ld_glob I hg hm ?_ hdb)
  refine PySem.W.callWith_KW0 (h₀ := X.base) I.ok.mod.kin hk hall (thn (hkw.run pos pins s σ H _ I h) ?_) hpl
  rintro ws s2 ⟨zs, H2, I2, rz, hl, q2⟩
  refine ⟨I2.kIn, ?_⟩
  rw [hks]
  have hlw : ws.length = ks.length := by rw [← rz.length]; exact hl
  have rr := hb.rel (vs := []) (us := []) .nil rz
  refine wpAny_call (codeAny_mono (hF.run X.A X.stack s2 H2 ⟨[], ks.zip ws⟩ (gg [] ws) (gV [] zs) Q E hr I2.env0 (hb.to s2 [] ws I2.kIn rfl hlw) rr q2) ?_)
  intro res s' hq
  match res, hq with
  | .error er, hq => exact hx pins σ H2 s2 er s' I2 hq
  | .ok (.ret u), hq => exact I2.after hq
  | .ok .next, hq => exact hq.elim
  | .ok .brk, hq => exact hq.elim
  | .ok .cont, hq => exact hq.elim
/-- the parameters' order: the i-th parameter is the ix[i]-th keyword -/
def permD (ix : List Nat) (ds : List D) : List D := ix.map fun i => ds.getD i .non
def permV (ix : List Nat) (vs : List V) : List V := ix.map fun i => vs.getD i .non
theorem perm_rel {K : Kt} {ρ : List Addr} {F : Hp} {ds : List D} {vs : List V} (h : RVs K ρ F ds vs) : ∀ ix : List Nat, (∀ i ∈ ix, i < ds.length) → RVs K ρ F (permD ix ds) (permV ix vs)
  | [], _ => .nil
  | i :: ix, hi => by
    refine .cons ?_ (perm_rel h ix fun j hj => hi j (List.mem_cons_of_mem _ hj))
    have h1 : i < ds.length := hi i List.mem_cons_self
    obtain ⟨v, e1, e2⟩ := h.get (List.getElem?_eq_getElem h1)
    show RV K ρ F (ds.getD i D.non) (vs.getD i V.non)
    rw [List.getD_eq_getElem?_getD, List.getD_eq_getElem?_getD, List.getElem?_eq_getElem h1, e1]
    exact e2
def eCallK (n : Nat) (fn : Fn) (ix : List Nat) (g : Ax) : Ex := fun st => (g st).bind fun ds c1 => callV n fn (permD ix ds) c1
theorem de_callK {n k : Nat} {fn : Fn} {f : Addr} {fd : FuncData} {ps ks : List Str} {x : Str} {kws : List Keyword} {ix : List Nat} {gg : List Value → List Value → List Value} (hW : Flat W) (tk : Takes X W)
    (hF : FnOk X.prog X.w X.K X.mg X.base (L2.CX X.prog X.w) k f fd ps (spF G.K ps.length fn)) (hr : Room k X.A) (hg : Gl X x) (hm : X.mg x = some (.ref f)) (hk : PySem.W.keepIn X.K (.ref f) = true) (hb : KBn X.K fd ps 0 ks gg (fun _ zs => permV ix zs)) (hkw : PK X kws (tAs G W g))
    (hlen : ∀ st ds c1, g st = .ok ds c1 → ds.length = ks.length) (hix : ∀ i ∈ ix, i < ks.length) (hixl : ix.length = ps.length)
    (hall : (backToKw pos (keywordEach kws X.env)).all (·.1.isSome) = true := by rfl) (hks : (backToKw pos (keywordEach kws X.env)).filterMap (·.1) = ks := by rfl) (hdb : (x == ("__debug__" : Str)) = false := by decide)
    (hpl : ((backTo pos (starEach [] X.env)).any (·.1) || (backToKw pos (keywordEach kws X.env)).any (·.1.isNone)) = false := by rfl) :
    PE X (.Call (.Name x p) [] kws pos) (tE G W (eCallK n fn ix g)) := by
  refine (pe_kw0 hF hr hg hm hk hb (passF tk hW) hkw hall hks hdb hpl).impV ?_
  rintro σ H Q ⟨ρ, F, st, r, p⟩
  unfold eCallK at p
  refine ⟨ρ, F, st, r, ?_⟩
  cases q : g st with
  | no => rw [q] at p; exact p.elim
  | ex e' cs => rw [q] at p; exact p
  | ok ds c1 =>
    rw [q] at p
    have p : Post RV G W ρ F st.env σ Q (callV n fn (permD ix ds) c1) := p
    intro ρ1 F1 H1 vs x1 r1 rv1
    have hl := hlen _ _ _ q
    refine ⟨by rw [← rv1.length]; exact hl, ?_⟩
    have hp := perm_rel rv1 ix fun i hi => by rw [hl]; exact hix i hi
    obtain ⟨a, b, c, d, e1, e2, e3, e4⟩ := callV_of (st := ⟨st.env, c1⟩) (m := ps.length) (n := n) (fn := fn) r1 hp (by unfold permD; rw [List.length_map]; exact hixl) (Post.ext x1 p)
    refine ⟨a, b, c, d, e1, e2, e3, ?_⟩
    cases q2 : fn c d with
    | no => rw [q2] at e4; exact e4
    | ok d2 c2 => rw [q2] at e4; exact e4
    | ex e' c2 =>
      rw [q2] at e4
      intro ρ5 F5 H5 cls dx y5 r5 xa5
      exact hW _ _ _ _ _ (e4 ρ5 F5 H5 cls dx y5 r5 xa5)
end
end VL

/-! VLD: defs by name, for printed proofs -/
namespace VL
open PySem L2 PyProof.Rows
/-- as many values -/
def ALen (n : Nat) (g : Ax) : Prop := ∀ st ds c1, g st = .ok ds c1 → ds.length = n
theorem alen_nil : ALen 0 aNil := by
  intro st ds c1 h
  cases h
  rfl
theorem alen_cons {n : Nat} {f : Ex} {g : Ax} (h : ALen n g) : ALen (n + 1) (aCons f g) := by
  intro st ds c1 e
  unfold aCons at e
  cases q : f st with
  | no => rw [q] at e; cases e
  | ex _ _ => rw [q] at e; cases e
  | ok x c2 =>
    rw [q] at e
    have e : (g ⟨st.env, c2⟩).bind (fun xs c2 => Out.ok (x :: xs) c2) = .ok ds c1 := e
    cases q2 : g ⟨st.env, c2⟩ with
    | no => rw [q2] at e; cases e
    | ex _ _ => rw [q2] at e; cases e
    | ok xs c3 =>
      rw [q2] at e
      cases e
      rw [List.length_cons, h _ _ _ q2]
/-- a def (or method) of the text as it stands behind the top; dV its defaults -/
structure FunA (K : PySem.W.Frag) (x qual : Str) (st : Stmt) (dV : Value) (f : Addr) (fd : FuncData) : Prop where
  ex : ∃ (oc : Value) (od : Option Addr) (kV doc pm : Value) (an : Option Addr) (cdv ct : Value) (osl : Array (Option Value)),
    fd = PySem.W.fnOf x qual (defArgs st) (defBody st) (defScope st) dV kV doc pm an cdv ct ∧ K.lookup f = some ⟨oc, od, .func fd, osl⟩ ∧ PySem.W.codeIn K cdv qual = true
section
variable {P : Program} {w : World} {K : Kt} {mg : Str → Option Value} {base : Heap} {x qual : Str} {st : Stmt} {f : Addr} {fd : FuncData} {ps N : List Str} {k : Nat} {fn fn' : Fn} {body : Sx}
theorem funA_mk {oc : Value} {od an : Option Addr} {osl : Array (Option Value)} {dV kV doc pm cdv ct : Value} (l : K.K.lookup f = some ⟨oc, od, .func (PySem.W.fnOf x qual (defArgs st) (defBody st) (defScope st) dV kV doc pm an cdv ct), osl⟩) (c : PySem.W.codeIn K.K cdv qual = true) :
    FunA K.K x qual st dV f (PySem.W.fnOf x qual (defArgs st) (defBody st) (defScope st) dV kV doc pm an cdv ct) := ⟨⟨oc, od, kV, doc, pm, an, cdv, ct, osl, rfl, l, c⟩⟩
/-- every parameter is given, by place -/
theorem FunA.binds (Fu : FunA K.K x qual st .none f fd) (h : ∀ (kV doc pm : Value) (an : Option Addr) (cdv ct : Value) (us : List Value), us.length = ps.length → bindArgs (PySem.W.fnOf x qual (defArgs st) (defBody st) (defScope st) .none kV doc pm an cdv ct) ⟨us, []⟩ = pure (ps.zip us)) : Binds K.K fd ps [] := by
  obtain ⟨oc, od, kV, doc, pm, an, cdv, ct, osl, rfl, lk, hcd⟩ := Fu.ex
  exact .all (h kV doc pm an cdv ct)
/-- .. by keywords -/
theorem FunA.kbn {ks : List Str} {ix : List Nat} (Fu : FunA K.K x qual st .none f fd) (h : ∀ (kV doc pm : Value) (an : Option Addr) (cdv ct : Value) (ws : List Value), ws.length = ks.length → bindArgs (PySem.W.fnOf x qual (defArgs st) (defBody st) (defScope st) .none kV doc pm an cdv ct) ⟨[], ks.zip ws⟩ = pure (ps.zip (ix.map fun i => ws.getD i .none)))
    (hix : ∀ i ∈ ix, i < ks.length) : KBn K.K fd ps 0 ks (fun _ ws => ix.map fun i => ws.getD i .none) (fun _ zs => permV ix zs) := by
  obtain ⟨oc, od, kV, doc, pm, an, cdv, ct, osl, rfl, lk, hcd⟩ := Fu.ex
  refine ⟨fun s us ws _ hu hw => ?_, fun {vs us zs ws} _ rz => ?_⟩
  · obtain rfl : us = [] := List.length_eq_zero_iff.mp hu
    exact .of_eq (h kV doc pm an cdv ct ws hw)
  · have : ∀ l : List Nat, Vals (permV l zs) (l.map fun i => ws.getD i .none) := by
      intro l
      induction l with
      | nil => exact .nil
      | cons i l ih =>
        refine .cons ?_ ih
        show RelV (zs.getD i .non) (ws.getD i .none)
        rw [List.getD_eq_getElem?_getD, List.getD_eq_getElem?_getD]
        cases q : zs[i]? with
        | none => rw [rz.none_of q]; rfl
        | some z =>
          obtain ⟨u, e1, e2⟩ := rz.get q
          rw [e1]
          exact e2
    exact this ix
/-- a def with defaults, every parameter given by place -/
theorem FunA.bindsD {T : Addr} {o : Obj} {its : List Value} {m : Nat} (Fu : FunA K.K x qual st (.ref T) f fd) (lT : K.K.lookup T = some o) (oT : o.data = .seq its.toArray m)
    (h : ∀ (kV doc pm : Value) (an : Option Addr) (cdv ct : Value) (us : List Value), us.length = ps.length → ∃ k, bindArgs (PySem.W.fnOf x qual (defArgs st) (defBody st) (defScope st) (.ref T) kV doc pm an cdv ct) ⟨us, []⟩ = seqItems? (.ref T) >>= k ∧ k (some its.toArray) = pure (ps.zip us)) : Binds K.K fd ps [] := by
  obtain ⟨oc, od, kV, doc, pm, an, cdv, ct, osl, rfl, lk, hcd⟩ := Fu.ex
  intro s us KX hl
  rw [List.append_nil] at hl ⊢
  obtain ⟨k, e1, e2⟩ := h kV doc pm an cdv ct us hl
  refine BindsTo.of_looks fun M => ?_
  rw [e1]
  exact looks_items KX lT oT (PySem.W.Looks.of_pure e2)
theorem okA {dV : Value} (Fu : FunA K.K x qual st dV f fd) (S : FnScope N ps (defScope st))
    (hbody : ∀ (G : Gx), G.K = K → ∀ (cdv : Value) (A : Around) (outer : List Env) (s : Shared) (H : Hp) (E : XK), Room k (A.deeper (envOfC qual (defScope st) s.heap.objs.size f cdv)) →
      PSs (cxOf (L2.CX P w) P w K.K mg base N qual (defScope st) f cdv A outer s H E) (defBody st) (tS G (fun cls d _ H' => E cls d H') body)) :
    FnOk P w K.K mg base (L2.CX P w) (k + 1) f fd ps (spF K ps.length (runF N.length body)) := by
  obtain ⟨oc, od, kV, doc, pm, an, cdv, ct, osl, rfl, lk, hcd⟩ := Fu.ex
  refine fn_of lk hcd S (fun vs H Q E h => spF_len h) ?_
  intro A outer s H vs Q E hr h
  obtain ⟨G, e, t⟩ := body_of h
  exact ⟨_, hbody G e cdv A outer s H E hr, t⟩
/-- the def x of the text is there: its statement, its binding -/
structure Txt1 (K : Kt) (mg : Str → Option Value) (x : Str) (st : Stmt) (ps : List Str) : Prop where
  ex : ∃ (f : Addr) (fd : FuncData), mg x = some (.ref f) ∧ PySem.W.keepIn K.K (.ref f) = true ∧ FunA K.K x x st .none f fd ∧ Binds K.K fd ps []
/-- the def x keeps fn's promise at level k -/
structure Def (P : Program) (w : World) (K : Kt) (mg : Str → Option Value) (base : Heap) (x : Str) (st : Stmt) (k : Nat) (ps : List Str) (fn : Fn) : Prop where
  ex : ∃ (f : Addr) (fd : FuncData), mg x = some (.ref f) ∧ PySem.W.keepIn K.K (.ref f) = true ∧ FunA K.K x x st .none f fd ∧ Binds K.K fd ps [] ∧ FnOk P w K.K mg base (L2.CX P w) k f fd ps (spF K ps.length fn)
theorem mkDef (t : Txt1 K mg x st ps) (S : FnScope N ps (defScope st))
    (hbody : ∀ (f : Addr) (G : Gx), G.K = K → ∀ (cdv : Value) (A : Around) (outer : List Env) (s : Shared) (H : Hp) (E : XK), Room k (A.deeper (envOfC x (defScope st) s.heap.objs.size f cdv)) →
      PSs (cxOf (L2.CX P w) P w K.K mg base N x (defScope st) f cdv A outer s H E) (defBody st) (tS G (fun cls d _ H' => E cls d H') body)) :
    Def P w K mg base x st (k + 1) ps (runF N.length body) := by
  obtain ⟨f, fd, h1, h2, h3, h4⟩ := t.ex
  exact ⟨f, fd, h1, h2, h3, h4, okA h3 S fun G e cdv A outer s H E hr => hbody f G e cdv A outer s H E hr⟩
theorem Def.trim (d : Def P w K mg base x st k ps fn) : Def P w K mg base x st k ps (trimF fn) := by
  obtain ⟨f, fd, h1, h2, h3, h4, h5⟩ := d.ex
  exact ⟨f, fd, h1, h2, h3, h4, fnTrim h5⟩
theorem Def.ref (d : Def P w K mg base x st k ps fn) (h : ∀ ds cs, fn' ds cs ≠ .no → fn ds cs = fn' ds cs) : Def P w K mg base x st k ps fn' := by
  obtain ⟨f, fd, h1, h2, h3, h4, h5⟩ := d.ex
  exact ⟨f, fd, h1, h2, h3, h4, fnRef h5 h⟩
/-- a class of the text, made by its __init__ -/
structure TxtC (K : Kt) (mg : Str → Option Value) (x : Str) (cn : Nat) (st : Stmt) (ps : List Str) : Prop where
  ex : ∃ (f : Addr) (fd : FuncData), mg x = some (.ref (K.κ cn)) ∧ Mk K.K (K.κ cn) f ∧ (∃ dV, FunA K.K "__init__" (x ++ ".__init__") st dV f fd) ∧ Binds K.K fd ps []
structure DefC (P : Program) (w : World) (K : Kt) (mg : Str → Option Value) (base : Heap) (x : Str) (cn k : Nat) (ps : List Str) (fn : Fn) : Prop where
  ex : ∃ (f : Addr) (fd : FuncData), mg x = some (.ref (K.κ cn)) ∧ Mk K.K (K.κ cn) f ∧ Binds K.K fd ps [] ∧ FnOk P w K.K mg base (L2.CX P w) k f fd ps (spF K ps.length fn)
theorem mkDefC {cn : Nat} (t : TxtC K mg x cn st ps) (S : FnScope N ps (defScope st))
    (hbody : ∀ (f : Addr) (G : Gx), G.K = K → ∀ (cdv : Value) (A : Around) (outer : List Env) (s : Shared) (H : Hp) (E : XK), Room k (A.deeper (envOfC (x ++ ".__init__") (defScope st) s.heap.objs.size f cdv)) →
      PSs (cxOf (L2.CX P w) P w K.K mg base N (x ++ ".__init__") (defScope st) f cdv A outer s H E) (defBody st) (tS G (fun cls d _ H' => E cls d H') body)) :
    DefC P w K mg base x cn (k + 1) ps (runF N.length body) := by
  obtain ⟨f, fd, h1, h2, ⟨dV, h3⟩, h4⟩ := t.ex
  exact ⟨f, fd, h1, h2, h4, okA h3 S fun G e cdv A outer s H E hr => hbody f G e cdv A outer s H E hr⟩
theorem DefC.ref {cn : Nat} (d : DefC P w K mg base x cn k ps fn) (h : ∀ ds cs, fn' ds cs ≠ .no → fn ds cs = fn' ds cs) : DefC P w K mg base x cn k ps fn' := by
  obtain ⟨f, fd, h1, h2, h3, h5⟩ := d.ex
  exact ⟨f, fd, h1, h2, h3, fnRef h5 h⟩
end
section
variable {X : Cx} {G : Gx} {W : WX} {e : Expr} {es : List Expr} {g : Ax} {pos p : Pos} {x : Str} {st : Stmt} {k : Nat} {ps : List Str} {fn : Fn}
theorem de_callD (n : Nat) (d : Def X.prog X.w G.K X.mg X.base x st k ps fn) (hK : X.K = G.K.K) (tk : Takes X W) (hr : Room k X.A) (ha : PA X (e :: es) (tAs G W g)) (hl : ALen ps.length g) (hg : Gl X x := by rfl) (hdb : (x == ("__debug__" : Str)) = false := by decide) (he : starEach (e :: es) X.env = (false, eval e X.env) :: starEach es X.env := by rfl) (hpl : (backTo pos (starEach es X.env)).any (·.1) = false := by rfl) :
    PE X (.Call (.Name x p) (e :: es) [] pos) (tE G W (eCall n fn g)) := by
  obtain ⟨f, fd, h1, h2, _, h3, h5⟩ := d.ex
  rw [← hK] at h2 h3 h5
  exact de_call hK.symm tk h5 hr hg h1 h2 h3 ha hl hdb he hpl
theorem de_callDA (d : Def X.prog X.w G.K X.mg X.base x st k ps fn) (hK : X.K = G.K.K) (tk : Takes X W) (hr : Room k X.A) (ha : PA X (e :: es) (tAs G W g)) (hl : ALen ps.length g) (hg : Gl X x := by rfl) (hdb : (x == ("__debug__" : Str)) = false := by decide) (he : starEach (e :: es) X.env = (false, eval e X.env) :: starEach es X.env := by rfl) (hpl : (backTo pos (starEach es X.env)).any (·.1) = false := by rfl) :
    PE X (.Call (.Name x p) (e :: es) [] pos) (tE G W (eCallAll fn g)) := by
  obtain ⟨f, fd, h1, h2, _, h3, h5⟩ := d.ex
  rw [← hK] at h2 h3 h5
  exact de_callAll hK.symm tk h5 hr hg h1 h2 h3 ha hl hdb he hpl
theorem de_callKD {kws : List Keyword} {ks : List Str} (n : Nat) (ix : List Nat) (d : Def X.prog X.w G.K X.mg X.base x st k ps fn) (hK : X.K = G.K.K) (hW : Flat W) (tk : Takes X W) (hr : Room k X.A) (hkw : PK X kws (tAs G W g)) (hl : ALen ks.length g) (hix : ∀ i ∈ ix, i < ks.length) (hixl : ix.length = ps.length)
    (hbind : ∀ (kV doc pm : Value) (an : Option Addr) (cdv ct : Value) (ws : List Value), ws.length = ks.length → bindArgs (PySem.W.fnOf x x (defArgs st) (defBody st) (defScope st) .none kV doc pm an cdv ct) ⟨[], ks.zip ws⟩ = pure (ps.zip (ix.map fun i => ws.getD i .none)))
    (hg : Gl X x := by rfl) (hall : (backToKw pos (keywordEach kws X.env)).all (·.1.isSome) = true := by rfl) (hks : (backToKw pos (keywordEach kws X.env)).filterMap (·.1) = ks := by rfl) (hdb : (x == ("__debug__" : Str)) = false := by decide)
    (hpl : ((backTo pos (starEach [] X.env)).any (·.1) || (backToKw pos (keywordEach kws X.env)).any (·.1.isNone)) = false := by rfl) :
    PE X (.Call (.Name x p) [] kws pos) (tE G W (eCallK n fn ix g)) := by
  obtain ⟨f, fd, h1, h2, h4, h3, h5⟩ := d.ex
  have kb := h4.kbn hbind hix
  rw [← hK] at h2 h3 h5 kb
  exact de_callK hW tk h5 hr hg h1 h2 kb hkw hl hix hixl hall hks hdb hpl
theorem de_makeD {cn : Nat} (d : DefC X.prog X.w G.K X.mg X.base x cn k ps fn) (hK : X.K = G.K.K) (hW : Flat W) (tk : Takes X W) (hr : Room (k + 1) X.A) (ha : PA X (e :: es) (tAs G W g)) {m : Nat} (hl : ALen m g) (hm : m + 1 = ps.length) (hg : Gl X x := by rfl) (hdb : (x == ("__debug__" : Str)) = false := by decide) (he : starEach (e :: es) X.env = (false, eval e X.env) :: starEach es X.env := by rfl) (hpl : (backTo pos (starEach es X.env)).any (·.1) = false := by rfl) :
    PE X (.Call (.Name x p) (e :: es) [] pos) (tE G W (eMake cn fn g)) := by
  obtain ⟨f, fd, h1, h2, h3, h5⟩ := d.ex
  rw [← hK] at h2 h3 h5
  exact de_make hW tk h2 h5 hr hg h1 h3 ha (fun st ds c1 e => by rw [hl st ds c1 e, hm]) hdb he hpl
end
/-! ### y = [..] on one line, y a plain local -/
section
variable {X : Cx} {G : Gx} {W : WX} {tg iter elt : Expr} {ifs : List Expr} {scope : Scope} {own : List (Str × Nat)} {pos spos py : Pos} {src : Ix} {sl : List Nat} {g : Gt} {t : Tx} {f : Ex} {i : Nat} {y : Str}
theorem ds_setLc (hc : X.calm = true) (hN : X.N.Nodup) (hi : PI X tg iter (tI G W src)) (ok : BlkOk X.N X.env.scope scope own) (hsl : ∀ i ∈ sl, i ∈ own.map (·.2))
    (hg : ∀ (s : Shared) (H : Hp) (C : Addr) (cl : List (Str × Addr)) (fp : List Addr), PG (X.blk s H scope (compEnvC scope cl C X.env) fp) tg (tG G sl g)) (ht : ∀ (s : Shared) (H : Hp) (C : Addr) (cl : List (Str × Addr)) (fp : List Addr), PTs (X.blk s H scope (compEnvC scope cl C X.env) fp) ifs (tTs G W0 t))
    (he : ∀ (s : Shared) (H : Hp) (C : Addr) (cl : List (Str × Addr)) (fp : List Addr), PE (X.blk s H scope (compEnvC scope cl C X.env) fp) elt (tE G W0 f))
    (hsw : swapsWith (.ListComp elt [⟨tg, iter, ifs, 0⟩] scope pos) (some (.Name y py)) spos.line X.env = pure true) (hy : X.N[i]? = some y := by rfl) (hyl : X.env.scope.names.lookup y = some .local := by rfl) (hs : ∀ x, foldedSetIterable iter X.env x = pure x := by intro _; rfl) :
    PS X (.Assign [.Name y py] (.ListComp elt [⟨tg, iter, ifs, 0⟩] scope pos) spos) (tS G W (sAsg (eLc src g t f (own.map (·.2))) (gNm i))) := by
  refine (ps_setLc (i := i) hc hN hy hyl hsw hi ok hg ht he hs).impV ?_
  rintro E σ H ⟨ρ, F, st, r, p⟩
  refine eLc_of hsl σ H _ (seqS (f := eLc src g t f (own.map (·.2))) r p fun ρ1 F1 H1 x c1 v x1 r1 rv1 p1 => ?_)
  exact p1 ρ1 F1 _ H1 Ext.refl (r1.slot rv1)
theorem ds_setLcLoc (hc : X.calm = true) (hN : X.N.Nodup) (hi : PI X tg iter (tI G W src)) (ok : BlkOk X.N X.env.scope scope own) (hsl : ∀ i ∈ sl, i ∈ own.map (·.2))
    (hg : ∀ (s : Shared) (H : Hp) (C : Addr) (cl : List (Str × Addr)) (fp : List Addr), PG (X.blk s H scope (compEnvC scope cl C X.env) fp) tg (tG G sl g)) (ht : ∀ (s : Shared) (H : Hp) (C : Addr) (cl : List (Str × Addr)) (fp : List Addr), PTs (X.blk s H scope (compEnvC scope cl C X.env) fp) ifs (tTs G W0 t))
    (he : ∀ (s : Shared) (H : Hp) (C : Addr) (cl : List (Str × Addr)) (fp : List Addr), PE (X.blk s H scope (compEnvC scope cl C X.env) fp) elt (tE G W0 f))
    (hsw : swapsWith (.ListComp elt [⟨tg, iter, ifs, 0⟩] scope pos) (some (.Name y py)) spos.line X.env = pure true) (hy : X.N[i]? = some y := by rfl) (hyl : X.env.scope.names.lookup y = some .local := by rfl) (hs : ∀ x, foldedSetIterable iter X.env x = pure x := by intro _; rfl) :
    PS X (.Assign [.Name y py] (.ListComp elt [⟨tg, iter, ifs, 0⟩] scope pos) spos) (tS G W (sAsg (eLcLoc src g t f (own.map (·.2))) (gNm i))) := by
  refine (ps_setLc (i := i) hc hN hy hyl hsw hi ok hg ht he hs).impV ?_
  rintro E σ H ⟨ρ, F, st, r, p⟩
  refine eLcLoc_of hsl σ H _ (seqS (f := eLcLoc src g t f (own.map (·.2))) r p fun ρ1 F1 H1 x c1 v x1 r1 rv1 p1 => ?_)
  exact p1 ρ1 F1 _ H1 Ext.refl (r1.slot rv1)
end
/-! ### comparisons as tests -/
section
variable {X : Cx} {G : Gx} {W : WX} {a b : Expr} {fa fb : Ex} {pos : Pos}
def tCmp' (g : F2) (fa fb : Ex) : Tx := fun st => (eOp g fa fb st).bind fun x c1 => match x with
  | .bl k => .ok k c1
  | _ => .no
theorem dt_cmp {op : CmpOp} {r : R2} {g : F2} (ho : OpR X (compareOp op) r) (hv : V2 G W r g) (ha : PE X a (tE G W fa)) (hb : PE X b (tE G W fb)) (hm : behindInMarks op b = false) : PT X (.Compare a [op] [b] pos) (tTs G W (tCmp' g fa fb)) := by
  refine (pt_cmpR ho ha hb hm).impV ?_
  rintro σ H Q ⟨ρ, F, st, r, p⟩
  refine tOp_of hv σ H _ (seqX (R := RV) r p fun ρ1 F1 H1 x c1 v x1 r1 rv1 p1 => ?_)
  cases rv1 with
  | bl k => exact ⟨k, rfl, p1.here (st := ⟨st.env, c1⟩) r1 rfl⟩
  | _ => exact p1.elim
theorem dt_eq (hK : X.K = G.K.K) (hu : X.A.units + 64 < cLine) (ha : PE X a (tE G W fa)) (hb : PE X b (tE G W fb)) : PT X (.Compare a [.Eq] [b] pos) (tTs G W (tCmp' (gEqB false) fa fb)) := dt_cmp (op_eqD hu) (by rw [hK]; exact v2_eq) ha hb (nomark _)
theorem dt_ne (hK : X.K = G.K.K) (hu : X.A.units + 64 < cLine) (ha : PE X a (tE G W fa)) (hb : PE X b (tE G W fb)) : PT X (.Compare a [.NotEq] [b] pos) (tTs G W (tCmp' (gEqB true) fa fb)) := dt_cmp (op_neD hu) (by rw [hK]; exact v2_ne) ha hb (nomark _)
theorem dt_lt (ha : PE X a (tE G W fa)) (hb : PE X b (tE G W fb)) : PT X (.Compare a [.Lt] [b] pos) (tTs G W (tCmp' gLt fa fb)) := dt_cmp (op_lt.or op_lt_str) v2_ord ha hb (nomark _)
theorem dt_le (ha : PE X a (tE G W fa)) (hb : PE X b (tE G W fb)) : PT X (.Compare a [.LtE] [b] pos) (tTs G W (tCmp' gLe fa fb)) := dt_cmp (op_le.or op_le_str) v2_ord ha hb (nomark _)
theorem dt_gt (ha : PE X a (tE G W fa)) (hb : PE X b (tE G W fb)) : PT X (.Compare a [.Gt] [b] pos) (tTs G W (tCmp' gGt fa fb)) := dt_cmp (op_gt.or op_gt_str) v2_ord ha hb (nomark _)
theorem dt_ge (ha : PE X a (tE G W fa)) (hb : PE X b (tE G W fb)) : PT X (.Compare a [.GtE] [b] pos) (tTs G W (tCmp' gGe fa fb)) := dt_cmp (op_ge.or op_ge_str) v2_ord ha hb (nomark _)
theorem is_of {neg : Bool} {ρ : List Addr} {F : Hp} {st : S} {σ : L2.St} {H : Hp} {x y : D} {v w : V} {Q : VK} (r : Rel G ρ F st σ H) (h1 : RV G.K ρ F x v) (h2 : RV G.K ρ F y w) (p : Post RV G W ρ F st.env σ Q (gIs neg st.cs x y)) :
    (w = .non ∧ Q (.bl (if neg then !decide (v = .non) else decide (v = .non))) H) ∨ ∃ i j : Bool, v = .bl i ∧ w = .bl j ∧ Q (.bl (if neg then !decide (i = j) else decide (i = j))) H := by
  unfold gIs at p
  split at p
  · cases h2
    refine .inl ⟨rfl, ?_⟩
    rw [isNon_of h1]
    exact p.here r (.bl _)
  · cases h1; cases h2
    exact .inr ⟨_, _, rfl, rfl, p.here r (.bl _)⟩
  · exact p.elim
theorem dt_is (ha : PE X a (tE G W fa)) (hb : PE X b (tE G W fb)) : PT X (.Compare a [.Is] [b] pos) (tTs G W (tCmp' (gIs false) fa fb)) := dt_cmp (op_isN.or op_isBl) (fun ρ F st σ H x y v w Q r h1 h2 p => is_of r h1 h2 p) ha hb (nomark _)
theorem dt_isnot (ha : PE X a (tE G W fa)) (hb : PE X b (tE G W fb)) : PT X (.Compare a [.IsNot] [b] pos) (tTs G W (tCmp' (gIs true) fa fb)) := dt_cmp (op_notN.or op_notBl) (fun ρ F st σ H x y v w Q r h1 h2 p => is_of r h1 h2 p) ha hb (nomark _)
theorem dt_in (hK : X.K = G.K.K) (ha : PE X a (tE G W fa)) (hb : PE X b (tE G W fb)) (hm : behindInMarks .In b = false := by rfl) : PT X (.Compare a [.In] [b] pos) (tTs G W (tCmp' (gIn false) fa fb)) :=
  dt_cmp (op_in_sign.or op_in_seq) (by rw [hK]; exact fun ρ F st σ H x y v w Q r h1 h2 p => in_of r h1 h2 p) ha hb hm
theorem dt_notin (hK : X.K = G.K.K) (ha : PE X a (tE G W fa)) (hb : PE X b (tE G W fb)) (hm : behindInMarks .NotIn b = false := by rfl) : PT X (.Compare a [.NotIn] [b] pos) (tTs G W (tCmp' (gIn true) fa fb)) :=
  dt_cmp (op_notIn_sign.or op_notIn_seq) (by rw [hK]; exact fun ρ F st σ H x y v w Q r h1 h2 p => in_of r h1 h2 p) ha hb hm
end
end VL

/-! VLM: reckoning with the plain functions: comprehensions, loops -/
namespace VL
open PySem L2
theorem belows_append {n : Nat} : ∀ {xs ys : List D}, belows n (xs ++ ys) = (belows n xs && belows n ys)
  | [], ys => by simp [belows]
  | x :: xs, ys => by simp [belows, belows_append (xs := xs) (ys := ys), Bool.and_assoc]
theorem belows_all {n : Nat} : ∀ {xs : List D}, belows n xs = xs.all (below n)
  | [] => rfl
  | x :: xs => by simp [belows, belows_all (xs := xs)]
theorem belows_of {n : Nat} {xs : List D} (h : ∀ x ∈ xs, below n x = true) : belows n xs = true := by
  rw [belows_all, List.all_eq_true]
  exact h
theorem lastCell_snoc {cs : List Cell} {ds : List D} : lastCell (cs ++ [.lst ds]) = some (cs, ds) := by
  unfold lastCell
  rw [List.reverse_append]
  simp
/-- one answer an item: none, or what is put in -/
inductive Picks (R : D → Option D → Prop) : List D → List D → Prop
  | nil : Picks R [] []
  | skip {d : D} {ds ys : List D} : R d none → Picks R ds ys → Picks R (d :: ds) ys
  | take {d y : D} {ds ys : List D} : R d (some y) → Picks R ds ys → Picks R (d :: ds) (y :: ys)
/-- what one turn of a comprehension does -/
def LcTurn (I : List Cell → Prop) (R : D → Option D → Prop) (g : Gt) (t : Tx) (f : Ex) (env : List (Option D)) (d : D) : Prop :=
  ∀ (cs : List Cell) (acc : List D), I cs → ∃ env1, g d ⟨env, cs ++ [.lst acc]⟩ = some ⟨env1, cs ++ [.lst acc]⟩ ∧
    ∃ b cs2, t ⟨env1, cs ++ [.lst acc]⟩ = .ok b (cs2 ++ [.lst acc]) ∧ I cs2 ∧ (b = false → R d none) ∧
      (b = true → ∃ y cs3, f ⟨env1, cs2 ++ [.lst acc]⟩ = .ok y (cs3 ++ [.lst acc]) ∧ I cs3 ∧ R d (some y))
theorem lcL_of {I : List Cell → Prop} {R : D → Option D → Prop} {g : Gt} {t : Tx} {f : Ex} {env : List (Option D)} {n : Nat} (hI : ∀ cs, I cs → cs.length = n) : ∀ (ds : List D) (cs : List Cell) (acc : List D), I cs → acc.length + ds.length < 16777216 → (∀ d ∈ ds, LcTurn I R g t f env d) →
    ∃ ys cs', lcL g t f keepAll env n ds (cs ++ [.lst acc]) = some (cs' ++ [.lst (acc ++ ys)]) ∧ I cs' ∧ Picks R ds ys
  | [], cs, acc, hi, _, _ => ⟨[], cs, by simp [lcL, keepAll], hi, .nil⟩
  | d :: ds, cs, acc, hi, hl, ht => by
    obtain ⟨env1, e1, b, cs2, e2, i2, h0, h1⟩ := ht d List.mem_cons_self cs acc hi
    have hl' : acc.length + ds.length + 1 < 16777216 := by simpa [Nat.add_assoc] using hl
    have ht' : ∀ d ∈ ds, LcTurn I R g t f env d := fun d hd => ht d (List.mem_cons_of_mem _ hd)
    cases b with
    | false =>
      obtain ⟨ys, cs', e5, i5, p5⟩ := lcL_of hI ds cs2 acc i2 (by omega) ht'
      refine ⟨ys, cs', ?_, i5, .skip (h0 rfl) p5⟩
      unfold lcL
      simp only [keepAll, if_true, e1, e2]
      exact e5
    | true =>
      obtain ⟨y, cs3, e3, i3, r3⟩ := h1 rfl
      have hlen : (acc ++ [y]).length = acc.length + 1 := by simp
      obtain ⟨ys, cs', e5, i5, p5⟩ := lcL_of hI ds cs3 (acc ++ [y]) i3 (by rw [hlen]; omega) ht'
      refine ⟨y :: ys, cs', ?_, i5, .take r3 p5⟩
      unfold lcL
      have hn := hI cs3 i3
      have g1 : (cs3 ++ [Cell.lst acc])[n]? = some (.lst acc) := by
        rw [List.getElem?_append_right (by omega), hn, Nat.sub_self]; rfl
      have g2 : (cs3 ++ [Cell.lst acc]).set n (.lst (acc ++ [y])) = cs3 ++ [.lst (acc ++ [y])] := by
        rw [List.set_append_right n _ (by omega), hn, Nat.sub_self]; rfl
      simp only [keepAll, if_true, e1, e2, e3, g1, g2]
      rw [if_pos (by omega), e5]
      simp
/-- a comprehension, frozen -/
theorem eLc_eval {I : List Cell → Prop} {R : D → Option D → Prop} {src : Ix} {g : Gt} {t : Tx} {f : Ex} {vs : List Nat} {st : S} {ds : List D} {c1 : List Cell} (hs : src st = .ok (ds, keepAll) c1) (hi : I c1) (hI : ∀ cs, I cs → cs.length = c1.length) (hl : ds.length < 16777216)
    (hb : ∀ cs, I cs → cs.all (belowC c1.length) = true) (hR : ∀ d y, R d (some y) → below c1.length y = true) (ht : ∀ d ∈ ds, LcTurn I R g t f (wipeD st.env vs) d) :
    ∃ ys cs', eLc src g t f vs st = .ok (.lst ys) cs' ∧ I cs' ∧ Picks R ds ys := by
  obtain ⟨ys, cs', e, i', p⟩ := lcL_of (n := c1.length) hI ds c1 [] hi (by simpa using hl) ht
  refine ⟨ys, cs', ?_, i', p⟩
  unfold eLc
  rw [hs]
  have bl : belows c1.length ys = true := by
    refine belows_of ?_
    have : ∀ {ds ys : List D}, Picks R ds ys → ∀ y ∈ ys, below c1.length y = true := by
      intro ds ys p
      induction p with
      | nil => intro y hy; cases hy
      | skip _ _ ih => exact ih
      | take r _ ih =>
        intro y hy
        rcases List.mem_cons.mp hy with rfl | hy
        · exact hR _ _ r
        · exact ih y hy
    exact this p
  show (match lcL g t f keepAll (wipeD st.env vs) c1.length ds (c1 ++ [.lst []]) with
    | some c2 => _
    | none => _) = _
  rw [e]
  simp only [List.nil_append, lastCell_snoc]
  rw [if_pos ⟨hI cs' i', bl, hb cs' i'⟩]
/-- .. that changes no cell: filter and map -/
theorem eLc_pure {src : Ix} {g : Gt} {t : Tx} {f : Ex} {vs : List Nat} {st : S} {ds : List D} {c1 : List Cell} {q : D → Bool} {h : D → D} (hs : src st = .ok (ds, keepAll) c1) (hl : ds.length < 16777216) (hb : c1.all (belowC c1.length) = true)
    (hh : ∀ d ∈ ds, q d = true → below c1.length (h d) = true)
    (ht : ∀ d ∈ ds, ∀ acc, ∃ env1, g d ⟨wipeD st.env vs, c1 ++ [.lst acc]⟩ = some ⟨env1, c1 ++ [.lst acc]⟩ ∧ t ⟨env1, c1 ++ [.lst acc]⟩ = .ok (q d) (c1 ++ [.lst acc]) ∧ (q d = true → f ⟨env1, c1 ++ [.lst acc]⟩ = .ok (h d) (c1 ++ [.lst acc]))) :
    eLc src g t f vs st = .ok (.lst ((ds.filter q).map h)) c1 := by
  have main : ∀ (es : List D) (acc : List D), (∀ d ∈ es, d ∈ ds) → acc.length + es.length < 16777216 → lcL g t f keepAll (wipeD st.env vs) c1.length es (c1 ++ [.lst acc]) = some (c1 ++ [.lst (acc ++ (es.filter q).map h)]) := by
    intro es
    induction es with
    | nil => intro acc _ _; simp [lcL, keepAll]
    | cons d es ih =>
      intro acc hm hz
      have hz' : acc.length + es.length + 1 < 16777216 := by simpa [Nat.add_assoc] using hz
      obtain ⟨env1, e1, e2, e3⟩ := ht d (hm d List.mem_cons_self) acc
      unfold lcL
      cases c : q d with
      | false =>
        rw [c] at e2
        simp only [keepAll, if_true, e1, e2]
        rw [ih acc (fun x hx => hm x (List.mem_cons_of_mem _ hx)) (by omega), List.filter_cons_of_neg (by simp [c])]
      | true =>
        rw [c] at e2
        have g1 : (c1 ++ [Cell.lst acc])[c1.length]? = some (.lst acc) := by
          rw [List.getElem?_append_right (Nat.le_refl _), Nat.sub_self]; rfl
        have g2 : (c1 ++ [Cell.lst acc]).set c1.length (.lst (acc ++ [h d])) = c1 ++ [.lst (acc ++ [h d])] := by
          rw [List.set_append_right _ _ (Nat.le_refl _), Nat.sub_self]; rfl
        simp only [keepAll, if_true, e1, e2, e3 c, g1, g2]
        rw [if_pos (by omega), ih (acc ++ [h d]) (fun x hx => hm x (List.mem_cons_of_mem _ hx)) (by simp; omega), List.filter_cons_of_pos (by simp [c])]
        simp
  unfold eLc
  rw [hs]
  show (match lcL g t f keepAll (wipeD st.env vs) c1.length ds (c1 ++ [.lst []]) with
    | some c2 => _
    | none => _) = _
  rw [main ds [] (fun _ h => h) (by simpa using hl)]
  simp only [List.nil_append, lastCell_snoc]
  refine if_pos ⟨by first | trivial | rfl, belows_of fun x hx => ?_, hb⟩
  obtain ⟨d, hd, rfl⟩ := List.mem_map.mp hx
  obtain ⟨h1, h2⟩ := List.mem_filter.mp hd
  exact hh d h1 h2
/-- a for whose turns all go on -/
theorem forL_of {I : S → Prop} {g : Gt} {body : Sx} (ht : ∀ d st, I st → ∃ st1 st2, g d st = some st1 ∧ body st1 = .nx st2 ∧ I st2) : ∀ (ds : List D) (st : S), I st → ∃ st', forL g body keepAll ds st = .nx st' ∧ I st'
  | [], st, h => ⟨st, by simp [forL, keepAll], h⟩
  | d :: ds, st, h => by
    obtain ⟨st1, st2, e1, e2, h2⟩ := ht d st h
    obtain ⟨st3, e3, h3⟩ := forL_of ht ds st2 h2
    refine ⟨st3, ?_, h3⟩
    unfold forL
    simp only [keepAll, if_true, e1, e2]
    exact e3
theorem sSeq_of {f g : Sx} {st st1 : S} (h : f st = .nx st1) : sSeq f g st = g st1 := by
  unfold sSeq
  rw [h]
/-- no more than n different numbers below n -/
theorem pigeon : ∀ (n : Nat) (l : List Nat), l.Nodup → (∀ x ∈ l, x < n) → l.length ≤ n
  | 0, [], _, _ => Nat.le_refl _
  | 0, x :: l, _, h => absurd (h x List.mem_cons_self) (Nat.not_lt_zero _)
  | n + 1, l, nd, h => by
    by_cases c : n ∈ l
    · have h1 := pigeon n (l.erase n) (nd.erase n) (fun x hx => by
        have := (List.Nodup.mem_erase_iff nd).mp hx
        have := h x this.2
        omega)
      rw [List.length_erase_of_mem c] at h1
      omega
    · have h1 := pigeon n l nd (fun x hx => by
        have := h x hx
        have : x ≠ n := fun z => c (z ▸ hx)
        omega)
      omega
end VL

/-! VD0: dicts whose keys are whole numbers and texts: in, d[k], dict(pairs), dict comprehensions; a dict is a frozen value -/
namespace VL
open PySem L2 PyProof.Rows
def sameStr (x y : Str) : Bool := x.cps.toList == y.cps.toList
theorem sameStr_eq {x y : Str} : sameStr x y = decide (x = y) := by
  obtain ⟨⟨a⟩⟩ := x
  obtain ⟨⟨b⟩⟩ := y
  by_cases h : a = b
  · subst h
    simp [sameStr]
  · have : (⟨⟨a⟩⟩ : Str) ≠ ⟨⟨b⟩⟩ := fun e => h (by injection e with e; injection e)
    rw [decide_eq_false this]
    simp [sameStr, h]
def sameKey : Key → Key → Bool
  | .inl i, .inl j => i == j
  | .inr x, .inr y => sameStr x y
  | _, _ => false
theorem sameKey_eq {a b : Key} : sameKey a b = decide (a = b) := by
  cases a with
  | inl i =>
    cases b with
    | inl j =>
      show (i == j) = _
      by_cases h : i = j
      · subst h; simp
      · rw [decide_eq_false (fun e => h (Sum.inl.inj e))]
        simp [h]
    | inr y => rw [decide_eq_false (fun e => by cases e)]; rfl
  | inr x =>
    cases b with
    | inl j => rw [decide_eq_false (fun e => by cases e)]; rfl
    | inr y =>
      show sameStr x y = _
      rw [sameStr_eq]
      by_cases h : x = y
      · subst h; simp
      · rw [decide_eq_false h, decide_eq_false (fun e => h (Sum.inr.inj e))]
def keyD : D → Option Key
  | .int i => some (.inl i)
  | .str x => some (.inr x)
  | _ => none
theorem keyD_of {K : Kt} {ρ : List Addr} {F : Hp} {d : D} {v : V} {k : Key} (h : RV K ρ F d v) (e : keyD d = some k) : v = kV k := by
  cases h <;> first | (cases e; rfl) | cases e
def lookK (k : Key) : List Key → List D → Option D
  | j :: ks, d :: ds => if sameKey j k then some d else lookK k ks ds
  | _, _ => none
theorem lookK_rel {K : Kt} {ρ : List Addr} {F : Hp} {k : Key} : ∀ {ks : List Key} {ds : List D} {vs : List V}, RVs K ρ F ds vs → ks.length = vs.length → (∀ d, lookK k ks ds = some d → ∃ v, valV (ks.zip vs) k = some v ∧ RV K ρ F d v) ∧ (lookK k ks ds = none → valV (ks.zip vs) k = none)
  | [], _, _, .nil, _ => ⟨(fun _ e => by cases e), fun _ => rfl⟩
  | [], _, _, .cons _ _, e => by simp at e
  | _ :: _, _, _, .nil, e => by simp at e
  | j :: ks, _, _, @RVs.cons _ _ _ x xs y ys hx r, e => by
    obtain ⟨h1, h2⟩ := lookK_rel (k := k) r (by simpa using e)
    rw [List.zip_cons_cons]
    show (∀ d, (if sameKey j k then some x else lookK k ks xs) = some d → _) ∧ ((if sameKey j k then some x else lookK k ks xs) = none → _)
    by_cases c : j = k
    · rw [sameKey_eq, decide_eq_true c, if_pos rfl, valV_pos (p := (j, y)) c]
      exact ⟨fun d q => by cases q; exact ⟨y, rfl, hx⟩, fun q => by cases q⟩
    · rw [sameKey_eq, decide_eq_false c, if_neg (by simp), valV_neg (p := (j, y)) c]
      exact ⟨h1, h2⟩
def setK (k : Key) (d : D) : List Key → List D → List D
  | j :: ks, x :: xs => (if sameKey j k then d else x) :: setK k d ks xs
  | _, _ => []
def putKD (k : Key) (d : D) (ks : List Key) (ds : List D) : List Key × List D := if ks.any (fun j => sameKey j k) then (ks, setK k d ks ds) else (ks ++ [k], ds ++ [d])
theorem anyK {k : Key} : ∀ {ks : List Key} {vs : List V}, ks.length = vs.length → ((ks.zip vs).any fun kv => decide (kv.1 = k)) = ks.any (fun j => sameKey j k)
  | [], [], _ => rfl
  | [], _ :: _, e => by simp at e
  | _ :: _, [], e => by simp at e
  | j :: ks, v :: vs, e => by
    rw [List.zip_cons_cons, List.any_cons, List.any_cons, anyK (by simpa using e), sameKey_eq]
theorem setK_rel {K : Kt} {ρ : List Addr} {F : Hp} {k : Key} {d : D} {v : V} (h : RV K ρ F d v) : ∀ {ks : List Key} {ds : List D} {vs : List V}, RVs K ρ F ds vs → ks.length = vs.length → ∃ ws, RVs K ρ F (setK k d ks ds) ws ∧ ks.length = ws.length ∧ ((ks.zip vs).map fun kv => if kv.1 = k then (kv.1, v) else kv) = ks.zip ws
  | [], _, _, .nil, _ => ⟨[], .nil, rfl, rfl⟩
  | [], _, _, .cons _ _, e => by simp at e
  | _ :: _, _, _, .nil, e => by simp at e
  | j :: ks, _, _, @RVs.cons _ _ _ x xs y ys hx r, e => by
    obtain ⟨ws, h1, h2, h3⟩ := setK_rel (k := k) h r (by simpa using e)
    by_cases c : j = k
    · refine ⟨v :: ws, ?_, by simp [h2], ?_⟩
      · show RVs K ρ F ((if sameKey j k then d else x) :: setK k d ks xs) _
        rw [sameKey_eq, decide_eq_true c, if_pos rfl]
        exact .cons h h1
      · rw [List.zip_cons_cons, List.map_cons, h3, if_pos c, List.zip_cons_cons]
    · refine ⟨y :: ws, ?_, by simp [h2], ?_⟩
      · show RVs K ρ F ((if sameKey j k then d else x) :: setK k d ks xs) _
        rw [sameKey_eq, decide_eq_false c, if_neg (by simp)]
        exact .cons hx h1
      · rw [List.zip_cons_cons, List.map_cons, h3, if_neg c, List.zip_cons_cons]
theorem putKD_rel {K : Kt} {ρ : List Addr} {F : Hp} {k : Key} {d : D} {v : V} (h : RV K ρ F d v) {ks : List Key} {ds : List D} {vs : List V} (r : RVs K ρ F ds vs) (e : ks.length = vs.length) : ∃ ws, RVs K ρ F (putKD k d ks ds).2 ws ∧ (putKD k d ks ds).1.length = ws.length ∧ putK (ks.zip vs) k v = (putKD k d ks ds).1.zip ws := by
  unfold putK putKD
  rw [anyK e]
  by_cases c : ks.any (fun j => sameKey j k) = true
  · rw [if_pos c, if_pos c]
    exact setK_rel h r e
  · rw [if_neg c, if_neg c]
    refine ⟨vs ++ [v], r.append (RVs.one h), by simp [e], ?_⟩
    show ks.zip vs ++ [(k, v)] = (ks ++ [k]).zip (vs ++ [v])
    rw [List.zip_append e]
    rfl
/-! ### what is read -/
def dctOf (cs : List Cell) : D → Option (List Key × List D)
  | .dct ks ds => some (ks, ds)
  | .loc n => match cs[n]? with
    | some (.dk ks ds) => some (ks, ds)
    | _ => none
  | _ => none
section
variable {X : Cx} {G : Gx} {W : WX} {a b e : Expr} {es : List Expr} {fa fb : Ex} {g : Ax} {pos p : Pos}
theorem dct_read {ρ : List Addr} {F : Hp} {st : S} {σ : L2.St} {H : Hp} {x : D} {v : V} {ks : List Key} {ds : List D} (r : Rel G ρ F st σ H) (h : RV G.K ρ F x v) (e : dctOf st.cs x = some (ks, ds)) : ∃ a vs, v = .ref a ∧ H a = some (.dK (ks.zip vs)) ∧ ks.length = vs.length ∧ RVs G.K ρ F ds vs := by
  cases h with
  | dct h1 h2 h3 => cases e; exact ⟨_, _, rfl, r.fz _ _ h1, h2, h3⟩
  | loc h1 =>
    rename_i n a
    unfold dctOf at e
    simp only at e
    cases q : st.cs[n]? with
    | none => rw [q] at e; cases e
    | some c =>
      rw [q] at e
      cases c with
      | dk ks' ds' =>
        cases e
        obtain ⟨vs, h2, h3, h4⟩ := r.cell n _ a q h1
        exact ⟨a, vs, rfl, h2, h3, h4⟩
      | _ => cases e
  | _ => cases e
def gInD (neg : Bool) : F2 := fun cs x y => match keyD x, dctOf cs y with
  | some k, some (ks, ds) => .ok (.bl (if neg then !(lookK k ks ds).isSome else (lookK k ks ds).isSome)) cs
  | _, _ => .no
def gIxD : F2 := fun cs x y => match dctOf cs x, keyD y with
  | some (ks, ds), some k => (match lookK k ks ds with
    | some d => .ok d cs
    | none => .no)
  | _, _ => .no
theorem in_dget {ρ : List Addr} {F : Hp} {st : S} {σ : L2.St} {H : Hp} {x y : D} {v w : V} {k : Key} {ks : List Key} {ds : List D} (r : Rel G ρ F st σ H) (h1 : RV G.K ρ F x v) (h2 : RV G.K ρ F y w) (e1 : keyD x = some k) (e2 : dctOf st.cs y = some (ks, ds)) : ∃ a o, w = .ref a ∧ DGet H a v o ∧ o.isSome = (lookK k ks ds).isSome ∧ ∀ d, lookK k ks ds = some d → ∃ u, o = some u ∧ RV G.K ρ F d u := by
  obtain ⟨a, vs, rfl, h3, h4, h5⟩ := dct_read r h2 e2
  have hv := keyD_of h1 e1
  subst hv
  obtain ⟨l1, l2⟩ := lookK_rel (k := k) h5 h4
  refine ⟨a, _, rfl, DGet.k h3, ?_, fun d hd => l1 d hd⟩
  cases q : lookK k ks ds with
  | none => rw [l2 q]; rfl
  | some d => obtain ⟨u, e, _⟩ := l1 d q; rw [e]; rfl
theorem din_of {neg : Bool} {ρ : List Addr} {F : Hp} {st : S} {σ : L2.St} {H : Hp} {x y : D} {v w : V} {Q : VK} (r : Rel G ρ F st σ H) (h1 : RV G.K ρ F x v) (h2 : RV G.K ρ F y w) (p : Post RV G W ρ F st.env σ Q (gInD neg st.cs x y)) : ∃ a o, w = .ref a ∧ DGet H a v o ∧ Q (.bl (if neg then !o.isSome else o.isSome)) H := by
  unfold gInD at p
  cases q1 : keyD x with
  | none => rw [q1] at p; exact p.elim
  | some k =>
    cases q2 : dctOf st.cs y with
    | none => rw [q1, q2] at p; exact p.elim
    | some z =>
      obtain ⟨ks, ds⟩ := z
      rw [q1, q2] at p
      obtain ⟨a, o, e1, e2, e3, _⟩ := in_dget r h1 h2 q1 q2
      refine ⟨a, o, e1, e2, ?_⟩
      rw [e3]
      exact p.here r (.bl _)
theorem tDIn_of : ∀ σ H Q, tE G W (eOp (gInD false) fa fb) σ H Q → tDIn (tE G W fa) (tE G W fb) σ H Q := fun σ H Q ⟨ρ, F, st, r, p⟩ =>
  seqX r p fun ρ1 F1 H1 x c1 v x1 r1 rv1 p1 => seqX (st := ⟨st.env, c1⟩) r1 p1 fun ρ2 F2 H2 y c2 w x2 r2 rv2 p2 => din_of (neg := false) (st := ⟨st.env, c2⟩) r2 (rv1.ext x2) rv2 p2
theorem tDNotIn_of : ∀ σ H Q, tE G W (eOp (gInD true) fa fb) σ H Q → tDNotIn (tE G W fa) (tE G W fb) σ H Q := fun σ H Q ⟨ρ, F, st, r, p⟩ =>
  seqX r p fun ρ1 F1 H1 x c1 v x1 r1 rv1 p1 => seqX (st := ⟨st.env, c1⟩) r1 p1 fun ρ2 F2 H2 y c2 w x2 r2 rv2 p2 => din_of (neg := true) (st := ⟨st.env, c2⟩) r2 (rv1.ext x2) rv2 p2
theorem de_inD (hu : X.A.units + 1 < cLine) (ha : PE X a (tE G W fa)) (hb : PE X b (tE G W fb)) (hm : behindInMarks .In b = false := by rfl) : PE X (.Compare a [.In] [b] pos) (tE G W (eOp (gInD false) fa fb)) := (pe_cmp (pc_din hu ha hb) hm).impV tDIn_of
theorem de_notinD (hu : X.A.units + 1 < cLine) (ha : PE X a (tE G W fa)) (hb : PE X b (tE G W fb)) (hm : behindInMarks .NotIn b = false := by rfl) : PE X (.Compare a [.NotIn] [b] pos) (tE G W (eOp (gInD true) fa fb)) := (pe_cmp (pc_dnotin hu ha hb) hm).impV tDNotIn_of
theorem tBD_of {g : F2} : ∀ σ H Q, tTs G W (tCmp' g fa fb) σ H Q → tE G W (eOp g fa fb) σ H fun v H' => ∃ k, v = .bl k ∧ Q k H' := fun σ H Q ⟨ρ, F, st, r, p⟩ =>
  seqX (R := RV) r p fun ρ1 F1 H1 x c1 v x1 r1 rv1 p1 => by
    cases rv1 with
    | bl k => exact ⟨k, rfl, p1.here (st := ⟨st.env, c1⟩) r1 rfl⟩
    | _ => exact p1.elim
theorem dt_inD (hu : X.A.units + 1 < cLine) (ha : PE X a (tE G W fa)) (hb : PE X b (tE G W fb)) (hm : behindInMarks .In b = false := by rfl) : PT X (.Compare a [.In] [b] pos) (tTs G W (tCmp' (gInD false) fa fb)) := (pt_cmp (pc_din hu ha hb) hm).impV fun σ H Q h => tDIn_of σ H _ (tBD_of σ H Q h)
theorem dt_notinD (hu : X.A.units + 1 < cLine) (ha : PE X a (tE G W fa)) (hb : PE X b (tE G W fb)) (hm : behindInMarks .NotIn b = false := by rfl) : PT X (.Compare a [.NotIn] [b] pos) (tTs G W (tCmp' (gInD true) fa fb)) := (pt_cmp (pc_dnotin hu ha hb) hm).impV fun σ H Q h => tDNotIn_of σ H _ (tBD_of σ H Q h)
theorem de_ixD (hu : X.A.units + 1 < cLine) (ha : PE X a (tE G W fa)) (hb : PE X b (tE G W fb)) (hs : NoSl b := by intro _ _; rfl) : PE X (.Subscript a b pos) (tE G W (eOp gIxD fa fb)) := (pe_dget hu ha hb hs).impV fun σ H Q ⟨ρ, F, st, r, p⟩ =>
  seqX r p fun ρ1 F1 H1 x c1 v x1 r1 rv1 p1 => seqX (st := ⟨st.env, c1⟩) r1 p1 fun ρ2 F2 H2 y c2 w x2 r2 rv2 p2 => by
    unfold gIxD at p2
    cases q2 : dctOf c2 x with
    | none => rw [q2] at p2; exact p2.elim
    | some z =>
      obtain ⟨ks, ds⟩ := z
      cases q1 : keyD y with
      | none => rw [q2, q1] at p2; exact p2.elim
      | some k =>
        rw [q2, q1] at p2
        obtain ⟨a, o, e1, e2, _, e4⟩ := in_dget (st := ⟨st.env, c2⟩) r2 rv2 (rv1.ext x2) q1 q2
        dsimp only at p2
        cases q3 : lookK k ks ds with
        | none => rw [q3] at p2; exact p2.elim
        | some d =>
          rw [q3] at p2
          obtain ⟨u, e5, e6⟩ := e4 d q3
          subst e5
          exact ⟨a, u, e1, e2, p2.here (st := ⟨st.env, c2⟩) r2 e6⟩
end
/-! ### a new dict becomes a frozen one -/
theorem Rel.freezeD {G : Gx} {ρ0 ρ : List Addr} {F0 F : Hp} {env0 env : List (Option D)} {cs0 cs : List Cell} {ks : List Key} {ds : List D} {σ0 σ : L2.St} {H0 H : Hp} {a : Addr} {n : Nat} (r0 : Rel G ρ0 F0 ⟨env0, cs0⟩ σ0 H0) (hn : n = cs0.length) (x : Ext ρ0 F0 ρ F)
    (r : Rel G ρ F ⟨env, cs ++ [.dk ks ds]⟩ σ H) (hl : cs.length = n) (ha : ρ[n]? = some a) (b1 : belows n ds = true) (b2 : cs.all (belowC n) = true) :
    ∃ F', Ext ρ0 F0 ρ0 F' ∧ Rel G ρ0 F' ⟨env0, cs⟩ σ0 H ∧ RV G.K ρ0 F' (.dct ks ds) (.ref a) := by
  have hρ : ρ.take n = ρ0 := by
    obtain ⟨t, rfl⟩ := x.pre
    rw [hn, ← show ρ0.length = cs0.length from r0.cl, List.take_left]
  obtain ⟨vs, h1, h1l, h2⟩ := r.cell n (.dk ks ds) a (by
    show (cs ++ [Cell.dk ks ds])[n]? = _
    rw [List.getElem?_append_right (by omega), hl, Nat.sub_self]; rfl) ha
  have hm : a ∈ ρ := List.mem_of_getElem? ha
  have hFa : F a = none := r.sep a hm
  have s1 : Same F (upd F a (.dK (ks.zip vs))) := same_upd' hFa
  have hlen : ρ.length = n + 1 := by rw [show ρ.length = (cs ++ [Cell.dk ks ds]).length from r.cl, List.length_append, hl]; rfl
  have hna : a ∉ ρ0 := fun z => by
    rw [← hρ] at z
    obtain ⟨i, hi, e⟩ := List.getElem_of_mem z
    rw [List.length_take] at hi
    have hin : i < n := by omega
    rw [List.getElem_take] at e
    obtain ⟨h3, h3'⟩ := List.getElem?_eq_some_iff.mp ha
    have := (List.getElem_inj r.nd).mp (e.trans h3'.symm)
    omega
  have hA : a ∉ G.A0 := fun z => hna (r0.a0.subset z)
  have hH0 : G.H0 a = none := (r.own a hm).resolve_left hA
  refine ⟨upd F a (.dK (ks.zip vs)), ⟨List.prefix_refl _, x.fz.trans s1⟩, ⟨r0.len, fun i d e => ?_, ?_, fun i c b e1 e2 => ?_, r0.nd, fun b o e => ?_, fun b hb => ?_, r.fr, fun b hb => r.own b (x.pre.subset hb), fun b o e => ?_, r.old.trans s1, r0.a0⟩, ?_⟩
  · obtain ⟨v, e1, e2⟩ := r0.env i d e
    exact ⟨v, e1, e2.ext ⟨List.prefix_refl _, x.fz.trans s1⟩⟩
  · show ρ0.length = cs.length
    rw [hl, hn]; exact r0.cl
  · have e1 : cs[i]? = some c := e1
    have hi : i < cs.length := (List.getElem?_eq_some_iff.mp e1).1
    have e3 : ρ[i]? = some b := x.at e2
    have := r.cell i c b (by show (cs ++ [Cell.dk ks ds])[i]? = _; rw [List.getElem?_append_left hi]; exact e1) e3
    have q := this.cut (n := n) s1 (List.all_eq_true.mp b2 c (List.mem_of_getElem? e1))
    rw [hρ] at q
    exact q
  · by_cases hb : b = a
    · subst hb
      rw [upd_same] at e
      cases e
      exact h1
    · rw [upd_ne hb] at e
      exact r.fz b o e
  · rw [upd_ne (show b ≠ a from fun z => hna (by rw [← z]; exact hb))]
    exact r.sep b (x.pre.subset hb)
  · by_cases hb : b = a
    · subst hb
      exact .inr hH0
    · rw [upd_ne hb] at e
      exact r.new b o e
  · have q := h2.cut (n := n) s1 b1
    rw [hρ] at q
    exact .dct upd_same h1l q
/-! ### dict comprehensions -/
def dcL (g : Gt) (t : Tx) (fk fv : Ex) (keep : List Cell → Bool) (env : List (Option D)) (n : Nat) : List D → List Cell → Option (List Cell)
  | [], cs => if keep cs then some cs else none
  | d :: ds, cs => if keep cs then (match g d ⟨env, cs⟩ with
    | some st1 => (match t st1 with
      | .ok true c2 => (match fk ⟨st1.env, c2⟩ with
        | .ok y c3 => (match fv ⟨st1.env, c3⟩ with
          | .ok z c4 => (match keyD y with
            | some k => (match c4[n]? with
              | some (.dk ks es) => if ks.length < 16777216 then dcL g t fk fv keep env n ds (c4.set n (.dk (putKD k z ks es).1 (putKD k z ks es).2)) else none
              | _ => none)
            | none => none)
          | _ => none)
        | _ => none)
      | .ok false c2 => dcL g t fk fv keep env n ds c2
      | _ => none)
    | none => none) else none
def lastDict (cs : List Cell) : Option (List Cell × List Key × List D) := match cs.reverse with
  | .dk ks ds :: r => some (r.reverse, ks, ds)
  | _ => none
theorem lastDict_eq {cs c1 : List Cell} {ks : List Key} {ds : List D} (h : lastDict cs = some (c1, ks, ds)) : cs = c1 ++ [.dk ks ds] := by
  unfold lastDict at h
  split at h
  · rename_i ks' es r e
    cases h
    rw [← List.reverse_reverse cs, e, List.reverse_cons]
  · cases h
def eDc (src : Ix) (g : Gt) (t : Tx) (fk fv : Ex) (vs : List Nat) : Ex := fun st => (src st).bind fun w c1 => match dcL g t fk fv w.2 (wipeD st.env vs) c1.length w.1 (c1 ++ [.dk [] []]) with
  | some c2 => (match lastDict c2 with
    | some (c3, ks, ds) => if c3.length = c1.length ∧ belows c1.length ds = true ∧ c3.all (belowC c1.length) = true then .ok (.dct ks ds) c3 else .no
    | none => .no)
  | none => .no
section
variable {X : Cx} {G : Gx} {W : WX} {tg iter kx vx : Expr} {ifs : List Expr}
theorem eDc_of {src : Ix} {sl vs : List Nat} {g : Gt} {t : Tx} {fk fv : Ex} (hsl : ∀ i ∈ sl, i ∈ vs) : ∀ σ H Q, tE G W (eDc src g t fk fv vs) σ H Q → tDc (tI G W src) (tG G sl g) (tTs G W0 t) (tE G W0 fk) (tE G W0 fv) vs σ H Q := by
  rintro σ H Q ⟨ρ, F, st, r, p⟩
  refine ⟨ρ, F, st, r, ?_⟩
  unfold eDc at p
  cases q : src st with
  | no => rw [q] at p; exact p
  | ex e' cs =>
    rw [q] at p
    exact fun ρ' F' H' c d x r' xa => p ρ' F' H' c d x r' xa
  | ok w c1 =>
    rw [q] at p
    have pp : Post RV G W ρ F st.env σ Q (match dcL g t fk fv w.2 (wipeD st.env vs) c1.length w.1 (c1 ++ [.dk [] []]) with
      | some c2 => (match lastDict c2 with
        | some (c3, ks, ds) => if c3.length = c1.length ∧ belows c1.length ds = true ∧ c3.all (belowC c1.length) = true then .ok (.dct ks ds) c3 else .no
        | none => .no)
      | none => .no) := p
    cases q2 : dcL g t fk fv w.2 (wipeD st.env vs) c1.length w.1 (c1 ++ [.dk [] []]) with
    | none => rw [q2] at pp; exact pp.elim
    | some c2 =>
    rw [q2] at pp
    obtain ⟨ds, keep⟩ := w
    have q2 : dcL g t fk fv keep (wipeD st.env vs) c1.length ds (c1 ++ [.dk [] []]) = some c2 := q2
    intro ρ1 F1 H1 J x1 r1 wk D hD
    have hl1 : ρ1.length = c1.length := r1.cl
    have y0 : Ext ρ1 F1 (ρ1 ++ [D]) F1 := ⟨List.prefix_append _ _, Same.refl _⟩
    obtain ⟨_, r2⟩ := r1.cellNew (p := D) (o := .dK []) (c := .dk [] []) hD ⟨[], upd_same, rfl, .nil⟩
    have fin : ∀ (ρ2 : List Addr) (F2 H2 : Hp), Ext (ρ1 ++ [D]) F1 ρ2 F2 → Rel G ρ2 F2 ⟨st.env, c2⟩ σ H2 → Q (.ref D) H2 := fun ρ2 F2 H2 x2 r2 => by
      cases q : lastDict c2 with
      | none => simp only [q] at pp; exact pp.elim
      | some z =>
        obtain ⟨c3, ks, ds⟩ := z
        simp only [q] at pp
        have e := lastDict_eq q
        subst e
        by_cases c : c3.length = c1.length ∧ belows c1.length ds = true ∧ c3.all (belowC c1.length) = true
        · rw [if_pos c] at pp
          obtain ⟨F', x3, r3, rv3⟩ := Rel.freezeD (a := D) r1 rfl (y0.trans x2) r2 c.1 (x2.at (by rw [← hl1, List.getElem?_append_right (Nat.le_refl _), Nat.sub_self]; rfl)) c.2.1 c.2.2
          exact pp ρ1 F' H2 _ (x1.trans x3) r3 rv3
        · rw [if_neg c] at pp
          exact pp.elim
    refine ⟨fun i m H2 => ∃ ρ2 F2 cs, Ext (ρ1 ++ [D]) F1 ρ2 F2 ∧ Rel G ρ2 F2 ⟨st.env, cs⟩ σ H2 ∧ i + m = ds.length ∧ dcL g t fk fv keep (wipeD st.env vs) c1.length (ds.drop i) cs = some c2, ⟨ds.length, ρ1 ++ [D], F1, _, Ext.refl, r2, Nat.zero_add _, q2⟩, ?_⟩
    rintro i m H2 ⟨ρ2, F2, cs, x2, r2, em, e2⟩
    cases hd : ds.drop i with
    | nil =>
      rw [hd] at e2
      unfold dcL at e2
      have hi : i = ds.length := by
        have := List.drop_eq_nil_iff.mp hd
        omega
      by_cases hk : keep cs = true
      · rw [if_pos hk] at e2
        cases e2
        exact .inl ⟨(wk ρ2 F2 _ σ H2 i (y0.trans x2) r2 hk).2 hi, fin _ _ _ x2 r2⟩
      · rw [if_neg hk] at e2
        cases e2
    | cons d rest =>
      rw [hd] at e2
      unfold dcL at e2
      have hi : ds[i]? = some d := by
        have := List.getElem?_drop (xs := ds) (i := i) (j := 0)
        rw [hd, Nat.add_zero] at this
        exact this.symm
      have hr : ds.drop (i + 1) = rest := by
        rw [← List.drop_drop, hd]; rfl
      by_cases hk : keep cs = true
      · rw [if_pos hk] at e2
        obtain ⟨go, yl⟩ := (wk ρ2 F2 _ σ H2 i (y0.trans x2) r2 hk).1 d hi
        refine .inr ⟨go, fun H3 => ∃ ρ3 F3 cs3, Ext (ρ1 ++ [D]) F1 ρ3 F3 ∧ Rel G ρ3 F3 ⟨st.env, cs3⟩ σ H3 ∧ dcL g t fk fv keep (wipeD st.env vs) c1.length rest cs3 = some c2, fun H3 ⟨ρ3, F3, cs3, x3, r3, e3⟩ => ⟨m - 1, ?_, ρ3, F3, cs3, x3, r3, ?_, by rw [hr]; exact e3⟩, fun y H3 hy => ?_⟩
        · have := (List.getElem?_eq_some_iff.mp hi).1
          omega
        · have := (List.getElem?_eq_some_iff.mp hi).1
          omega
        · obtain ⟨ρ3, F3, x3, _, _, r3, rv3⟩ := yl y H3 hy
          have x23 := x2.trans x3
          cases q3 : g d ⟨wipeD st.env vs, cs⟩ with
          | none => simp only [q3] at e2; cases e2
          | some st1 =>
            simp only [q3] at e2
            refine ⟨ρ3, F3, _, d, st1, r3.wiped vs, rv3, q3, fun σ4 r4 b4 => ⟨wipe_but b4 hsl, ρ3, F3, st1, r4, ?_⟩⟩
            cases q4 : t st1 with
            | no => simp only [q4] at e2; cases e2
            | ex _ _ => simp only [q4] at e2; cases e2
            | ok b c4 =>
              intro ρ5 F5 H5 b' x5 r5 eb
              have eb : b = b' := eb
              subst eb
              cases b with
              | false =>
                simp only [q4] at e2
                exact ⟨ρ5, F5, c4, x23.trans x5, r3.back x5 r5, e2⟩
              | true =>
                simp only [q4] at e2
                rw [if_pos rfl]
                refine ⟨ρ5, F5, _, r5, ?_⟩
                cases q6 : fk ⟨st1.env, c4⟩ with
                | no => simp only [q6] at e2; cases e2
                | ex _ _ => simp only [q6] at e2; cases e2
                | ok z c6 =>
                  simp only [q6] at e2
                  intro ρ7 F7 H7 v x7 r7 rv7
                  refine ⟨ρ7, F7, _, r7, ?_⟩
                  cases q8 : fv ⟨st1.env, c6⟩ with
                  | no => simp only [q8] at e2; cases e2
                  | ex _ _ => simp only [q8] at e2; cases e2
                  | ok z2 c8 =>
                    simp only [q8] at e2
                    intro ρ9 F9 H9 v2 x9 r9 rv9
                    cases qk : keyD z with
                    | none => simp only [qk] at e2; cases e2
                    | some k =>
                      simp only [qk] at e2
                      cases q7 : c8[c1.length]? with
                      | none => simp only [q7] at e2; cases e2
                      | some c0 =>
                        cases c0 with
                        | lst _ => simp only [q7] at e2; cases e2
                        | tbl _ _ => simp only [q7] at e2; cases e2
                        | ins _ _ _ => simp only [q7] at e2; cases e2
                        | dk ks es =>
                          simp only [q7] at e2
                          by_cases hz : ks.length < 16777216
                          · rw [if_pos hz] at e2
                            have x29 := ((x23.trans x5).trans x7).trans x9
                            have hat : ρ9[c1.length]? = some D := x29.at (by
                              rw [← hl1, List.getElem?_append_right (Nat.le_refl _), Nat.sub_self]; rfl)
                            obtain ⟨ws, h8, h8l, h9⟩ := r9.cell _ _ _ q7 hat
                            obtain ⟨us, u1, u2, u3⟩ := putKD_rel (k := k) rv9 h9 h8l
                            refine ⟨ks.zip ws, k, keyD_of rv7 qk, h8, by rw [List.length_zip, ← h8l, Nat.min_self, sizeLine_eq]; exact hz, ρ9, F9, _, x29, ?_, e2⟩
                            have r8 := r3.back ((x5.trans x7).trans x9) r9
                            exact r8.cellSet (c := .dk (putKD k z2 ks es).1 (putKD k z2 ks es).2) hat ⟨us, by rw [← u3]; exact upd_same, u2, u1⟩
                          · rw [if_neg hz] at e2
                            cases e2
      · rw [if_neg hk] at e2
        cases e2
variable {scope : Scope} {own : List (Str × Nat)} {pos : Pos} {src : Ix} {sl : List Nat} {g : Gt} {t : Tx} {fk fv : Ex}
theorem de_dc (hc : X.calm = true) (hN : X.N.Nodup) (hi : PI X tg iter (tI G W src)) (ok : BlkOk X.N X.env.scope scope own) (hsl : ∀ i ∈ sl, i ∈ own.map (·.2))
    (hg : ∀ (s : Shared) (H : Hp) (C : Addr) (cl : List (Str × Addr)) (fp : List Addr), PG (X.blk s H scope (compEnvC scope cl C X.env) fp) tg (tG G sl g)) (ht : ∀ (s : Shared) (H : Hp) (C : Addr) (cl : List (Str × Addr)) (fp : List Addr), PTs (X.blk s H scope (compEnvC scope cl C X.env) fp) ifs (tTs G W0 t))
    (hk : ∀ (s : Shared) (H : Hp) (C : Addr) (cl : List (Str × Addr)) (fp : List Addr), PE (X.blk s H scope (compEnvC scope cl C X.env) fp) kx (tE G W0 fk))
    (he : ∀ (s : Shared) (H : Hp) (C : Addr) (cl : List (Str × Addr)) (fp : List Addr), PE (X.blk s H scope (compEnvC scope cl C X.env) fp) vx (tE G W0 fv)) (hs : ∀ x, foldedSetIterable iter X.env x = pure x := by intro _; rfl) :
    PE X (.DictComp kx vx [⟨tg, iter, ifs, 0⟩] scope pos) (tE G W (eDc src g t fk fv (own.map (·.2)))) := (pe_dc hc hN hi ok hg ht hk he hs).impV (eDc_of hsl)
end
end VL

/-! VD1: tuple(list) that is known to be bare; dict(pairs) of a list or of such a tuple -/
namespace VL
open PySem L2 PyProof.Rows
section
variable {X : Cx}
/-- tuple(xs) of a list, the new object being told -/
theorem call_tupleB : CallR X (.type "tuple") (fun xs H Q => ∃ p ys, xs = [.ref p] ∧ SqL X.K H p ys ∧ ∀ l o, H l = none → o.dict = none → Q (.ref l) (upd H l (.frz o (.tup ys)))) := by
  intro pins s σ H xs us Q I r h
  obtain ⟨p, ys, rfl, hq, q⟩ := h
  obtain ⟨u, rfl, rx⟩ := vals1 r
  cases rx
  obtain ⟨its, r', pl, hz⟩ := I.list hq
  have hlen := r'.length
  refine call_tuple_list pl.isList (fun h' kp => ?_) (by simp only [List.size_toArray] <;> omega)
  have I1 : Inv X pins σ H { s with heap := h' } := I.kept (t' := s.toks) kp
  have I2 : Inv X pins σ (upd H h'.objs.size (.frz { cls := .type "tuple", data := .seq its.toArray } (.tup ys))) { s with heap := h'.push { cls := .type "tuple", data := .seq its.toArray } } :=
    I1.laid (t' := s.toks) (fun b o e => Heap.get?_push_of_some _ e) (Nat.le_refl _) (show ObjOk X.prog X.w _ _ _ (.frz _ (.tup ys)) from ⟨Heap.get?_push_size _ rfl, hz, its, r', IsTup.new _ _⟩)
  exact ⟨.ref h'.objs.size, _, I2, rfl, q _ _ (I1.hok.fresh (Nat.le_refl _)) rfl⟩
/-- dict(t) of a bare tuple of pairs -/
theorem call_dictB (hcalm : X.calm = true) : CallR X (.type "dict") (fun xs H Q => ∃ (a : Addr) (o : Obj) (ps : List Addr) (kvs : List (Key × V)), xs = [.ref a] ∧ H a = some (.frz o (.tup (ps.map V.ref))) ∧ o.dict = none ∧ Paired (fun p kv => SqT X.K H p [kV kv.1, kv.2]) ps kvs ∧
    ∀ p, H p = none → Q (.ref p) (upd H p (.dK (mergeK [] kvs)))) := by
  intro pins s σ H xs us Q I r q
  obtain ⟨a, o, ps, kvs, ex, hq, hd, hp, q⟩ := q
  subst ex
  obtain ⟨u, eu, rx⟩ := vals1 r
  subst eu
  cases rx
  obtain ⟨ho, hz, its, rv, o', ho', hc', n, hdat⟩ := (show ObjOk X.prog X.w H s.heap a (.frz o (.tup (ps.map V.ref))) from I.hok a _ hq)
  rw [ho] at ho'
  cases ho'
  have ei := refs_at rv
  subst ei
  rw [List.length_map] at hz
  obtain ⟨prs, rel, hl, hpr⟩ := pairs_of I hp
  have hu : ∀ j : Nat, ∃ u : Value, ∀ q' : Key × Value, prs[j]? = some q' → ∃ b, ps[j]? = some b ∧ IsTup s.heap b #[u, q'.2] ∧ keyIs q'.1 u = true := fun j => by
    cases e : prs[j]? with
    | none => exact ⟨.none, fun q' e' => by cases e'⟩
    | some q' =>
      obtain ⟨b, u, e1, e2, e3⟩ := hpr j q' e
      exact ⟨u, fun q'' e'' => by cases e''; exact ⟨b, e1, e2, e3⟩⟩
  have hch := fun j : Nat => Classical.choose_spec (hu j)
  obtain ⟨U, hU⟩ : ∃ U : Nat → Value, U = fun j => Classical.choose (hu j) := ⟨_, rfl⟩
  have hch : ∀ j, ∀ q' : Key × Value, prs[j]? = some q' → ∃ b, ps[j]? = some b ∧ IsTup s.heap b #[U j, q'.2] ∧ keyIs q'.1 (U j) = true := by rw [hU]; exact hch
  have zlen : (List.zipIdx prs).length = prs.length := List.length_zipIdx
  refine PySem.call_dict_pairs (knd := mixKind X.prog X.w) (kvs := prs) (PairArg.tuple a (ps.map Value.ref).toArray (fun j => ps.getD j 0) ((List.zipIdx prs).map fun p => (U p.2, p.1.2))) (I.ok.hd hcalm) ⟨⟨o, n, ho, hc', hd, hdat⟩, by simp [hl], fun j k v e => ?_⟩ ⟨by simp, fun i key v e => ?_⟩ (by simp [hl]; exact hz) fun h' tk hd' k => ?_
  · rw [List.getElem?_map, List.getElem?_zipIdx] at e
    cases e2 : prs[j]? with
    | none => rw [e2] at e; cases e
    | some q' =>
      rw [e2] at e
      simp only [Option.map_some, Option.some.injEq, Prod.mk.injEq, Nat.zero_add] at e
      obtain ⟨b, e3, e4, e5⟩ := hch j q' e2
      obtain ⟨rfl, rfl⟩ := e
      refine ⟨?_, .inl ?_⟩
      · simp [e3]
      · simp only [List.getD_eq_getElem?_getD, e3, Option.getD_some]; exact e4
  · have e : ((List.zipIdx prs).map fun p => (U p.2, p.1.2))[i]? = some (key, v) := e
    rw [List.getElem?_map, List.getElem?_zipIdx] at e
    cases e2 : prs[i]? with
    | none => rw [e2] at e; cases e
    | some q' =>
      rw [e2] at e
      simp only [Option.map_some, Option.some.injEq, Prod.mk.injEq, Nat.zero_add] at e
      obtain ⟨b, e3, e4, e5⟩ := hch i q' e2
      obtain ⟨rfl, rfl⟩ := e
      exact ⟨q'.1, rfl, e5⟩
  · have hm : (s.heap.objs.size == sysModules) = false := beq_eq_false_iff_ne.mpr (Nat.ne_of_gt I.big)
    have hlen : (mergeK [] kvs).length ≤ sizeLine := by
      refine Nat.le_trans (length_mergeK kvs []) ?_
      rw [List.length_nil, Nat.zero_add, rel.length, hl]
      exact hz
    exact ⟨.ref s.heap.objs.size, upd H s.heap.objs.size (.dK (mergeK [] kvs)), I.laid (t' := tk) (fun b o e => k b o (by simp) e) (Nat.le_refl _) (show ObjOk X.prog X.w _ _ _ (.dK (mergeK [] kvs)) from ⟨hlen, hm, merged [] prs, KV.merge rel .nil, hd'⟩), rfl, q _ (I.hok.fresh (Nat.le_refl _))⟩
end
/-! ### as values -/
def pairsD : List D → Option (List (Key × D))
  | [] => some []
  | .tup [k, d] :: r => (match keyD k, pairsD r with
    | some j, some l => some ((j, d) :: l)
    | _, _ => none)
  | _ :: _ => none
def mergeD (kvs : List (Key × D)) (acc : List Key × List D) : List Key × List D := kvs.foldl (fun a kv => putKD kv.1 kv.2 a.1 a.2) acc
inductive RKv (K : Kt) (ρ : List Addr) (F : Hp) : List (Key × D) → List (Key × V) → Prop
  | nil : RKv K ρ F [] []
  | cons {k : Key} {d : D} {v : V} {l : List (Key × D)} {m : List (Key × V)} : RV K ρ F d v → RKv K ρ F l m → RKv K ρ F ((k, d) :: l) ((k, v) :: m)
theorem pairsD_rel {K : Kt} {ρ : List Addr} {F H : Hp} (sm : Same F H) : ∀ {xs : List D} {vs : List V} {kvs : List (Key × D)}, RVs K ρ F xs vs → pairsD xs = some kvs → ∃ (ps : List Addr) (m : List (Key × V)), vs = ps.map V.ref ∧ Paired (fun p kv => SqT K.K H p [kV kv.1, kv.2]) ps m ∧ RKv K ρ F kvs m
  | _, _, _, .nil, e => by cases e; exact ⟨[], [], rfl, .nil, .nil⟩
  | _, _, kvs, @RVs.cons _ _ _ x xs y ys hx r, e => by
    cases hx with
    | tup h1 h2 =>
      cases h2 with
      | nil => simp [pairsD] at e
      | cons a1 t1 =>
        cases t1 with
        | nil => simp [pairsD] at e
        | cons a2 t2 =>
          cases t2 with
          | cons a3 t3 => simp [pairsD] at e
          | nil =>
            rename_i kd _ vd _
            unfold pairsD at e
            cases q1 : keyD kd with
            | none => rw [q1] at e; cases e
            | some j =>
              cases q2 : pairsD xs with
              | none => rw [q1, q2] at e; cases e
              | some l =>
                rw [q1, q2] at e
                cases e
                obtain ⟨ps, m, e1, e2, e3⟩ := pairsD_rel sm r q2
                have hk := keyD_of a1 q1
                subst hk
                exact ⟨_ :: ps, (j, _) :: m, by rw [e1]; rfl, .cons (sqT_same sm h1) e2, .cons a2 e3⟩
    | _ => simp [pairsD] at e
theorem mergeD_rel {K : Kt} {ρ : List Addr} {F : Hp} : ∀ {kvs : List (Key × D)} {m : List (Key × V)} {ks : List Key} {ds : List D} {vs : List V}, RKv K ρ F kvs m → RVs K ρ F ds vs → ks.length = vs.length → ∃ ws, RVs K ρ F (mergeD kvs (ks, ds)).2 ws ∧ (mergeD kvs (ks, ds)).1.length = ws.length ∧ mergeK (ks.zip vs) m = (mergeD kvs (ks, ds)).1.zip ws
  | _, _, _, _, vs, .nil, r, e => ⟨vs, r, e, rfl⟩
  | _, _, ks, ds, vs, @RKv.cons _ _ _ k d v l m hv t, r, e => by
    obtain ⟨ws, h1, h2, h3⟩ := putKD_rel (k := k) hv r e
    obtain ⟨us, g1, g2, g3⟩ := mergeD_rel t h1 h2
    refine ⟨us, g1, g2, ?_⟩
    show mergeK (putK (ks.zip vs) k v) m = _
    rw [h3]
    exact g3
def dictD (xs : List D) : Option (List Key × List D) := (pairsD xs).map fun kvs => mergeD kvs ([], [])
def hDict : FB := fun cs ds => match ds with
  | [.btp xs] => (match dictD xs with
    | some (ks, es) => .ok (.dct ks es) cs
    | none => .no)
  | [d] => (match lstOf cs d with
    | some xs => (match dictD xs with
      | some (ks, es) => .ok (.dct ks es) cs
      | none => .no)
    | none => .no)
  | _ => .no
def hTupleB : FB := fun cs ds => match ds with
  | [.btp xs] => .ok (.btp xs) cs
  | [d] => (match lstOf cs d with
    | some xs => .ok (.btp xs) cs
    | none => .no)
  | _ => .no
def rDictA (K : PySem.W.Frag) : List V → Hp → VK → Prop := fun xs H Q => (∃ (a : Addr) (ps : List Addr) (kvs : List (Key × V)), xs = [.ref a] ∧ SqL K H a (ps.map V.ref) ∧ Paired (fun p kv => SqT K H p [kV kv.1, kv.2]) ps kvs ∧ ∀ p, H p = none → Q (.ref p) (upd H p (.dK (mergeK [] kvs)))) ∨
  (∃ (a : Addr) (o : Obj) (ps : List Addr) (kvs : List (Key × V)), xs = [.ref a] ∧ H a = some (.frz o (.tup (ps.map V.ref))) ∧ o.dict = none ∧ Paired (fun p kv => SqT K H p [kV kv.1, kv.2]) ps kvs ∧ ∀ p, H p = none → Q (.ref p) (upd H p (.dK (mergeK [] kvs))))
def rTupB (K : PySem.W.Frag) : List V → Hp → VK → Prop := fun xs H Q => (∃ p ys, xs = [.ref p] ∧ SqL K H p ys ∧ ∀ l o, H l = none → o.dict = none → Q (.ref l) (upd H l (.frz o (.tup ys)))) ∨ (∃ p ys, xs = [.ref p] ∧ ((SqL K H p ys ∧ ∀ l, H l = none → Q (.ref l) (upd H l (.tup ys))) ∨ (SqT K H p ys ∧ Q (.ref p) H)))
section
variable {X : Cx} {G : Gx} {W : WX} {e : Expr} {es : List Expr} {g : Ax} {pos p : Pos}
theorem _root_.L2.CallR.or' {c : Value} {r1 r2 : List V → Hp → VK → Prop} (h1 : CallR X c r1) (h2 : CallR X c r2) : CallR X c (fun xs H Q => r1 xs H Q ∨ r2 xs H Q) := by
  intro pins s σ H xs us Q I r h
  rcases h with h | h
  · exact h1 pins s σ H xs us Q I r h
  · exact h2 pins s σ H xs us Q I r h
theorem call_dictA (hc : X.calm = true) : CallR X (.type "dict") (rDictA X.K) := CallR.or' (call_dictP hc) (call_dictB hc)
theorem call_tupBA : CallR X (.type "tuple") (rTupB X.K) := CallR.or' call_tupleB call_tuple_of
theorem dict_new {ρ : List Addr} {F : Hp} {st : S} {σ : L2.St} {H : Hp} {Q : VK} {xs : List D} {vs : List V} {ks : List Key} {es : List D} (r : Rel G ρ F st σ H) (rv : RVs G.K ρ F xs vs) (e : dictD xs = some (ks, es)) (po : Post RV G W ρ F st.env σ Q (.ok (.dct ks es) st.cs)) :
    ∃ (ps : List Addr) (kvs : List (Key × V)), vs = ps.map V.ref ∧ Paired (fun p kv => SqT G.K.K H p [kV kv.1, kv.2]) ps kvs ∧ ∀ p, H p = none → Q (.ref p) (upd H p (.dK (mergeK [] kvs))) := by
  unfold dictD at e
  cases q : pairsD xs with
  | none => rw [q] at e; cases e
  | some kvs =>
    rw [q] at e
    obtain ⟨ps, m, e1, e2, e3⟩ := pairsD_rel r.fz rv q
    obtain ⟨ws, w1, w2, w3⟩ := mergeD_rel (ks := []) (ds := []) (vs := []) e3 .nil rfl
    have e : mergeD kvs ([], []) = (ks, es) := Option.some.inj e
    rw [e] at w1 w2 w3
    refine ⟨ps, m, e1, e2, fun p hp => ?_⟩
    obtain ⟨x1, r1⟩ := r.fresh (o := .dK (mergeK [] m)) hp
    have w3 : mergeK [] m = ks.zip ws := w3
    exact po _ _ _ _ x1 r1 (.dct (by rw [← w3]; exact upd_same) w2 (w1.ext x1))
theorem vn_dict : VN G W (rDictA G.K.K) hDict := by
  intro ρ F st σ H ds vs Q r rv po
  unfold hDict at po
  split at po
  · rename_i xs
    cases rv with
    | cons h1 h2 =>
      cases h2
      cases h1 with
      | btp g1 g2 g3 =>
        cases q : dictD xs with
        | none => rw [q] at po; exact po.elim
        | some z =>
          obtain ⟨ks, es⟩ := z
          rw [q] at po
          obtain ⟨ps, kvs, e1, e2, e3⟩ := dict_new r g3 q po
          subst e1
          exact .inr ⟨_, _, ps, kvs, rfl, r.fz _ _ g1, g2, e2, e3⟩
  · rename_i d _
    cases rv with
    | cons h1 h2 =>
      cases h2
      cases q1 : lstOf st.cs d with
      | none => rw [q1] at po; exact po.elim
      | some xs =>
        rw [q1] at po
        obtain ⟨a2, ws, rfl, s2, r2⟩ := lst_read r h1 q1
        dsimp only at po
        cases q : dictD xs with
        | none => rw [q] at po; exact po.elim
        | some z =>
          obtain ⟨ks, es⟩ := z
          rw [q] at po
          obtain ⟨ps, kvs, e1, e2, e3⟩ := dict_new r r2 q po
          subst e1
          exact .inl ⟨_, ps, kvs, rfl, s2, e2, e3⟩
  · exact po.elim
theorem vn_tupleB : VN G W (rTupB G.K.K) hTupleB := by
  intro ρ F st σ H ds vs Q r rv po
  unfold hTupleB at po
  split at po
  · cases rv with
    | cons h1 h2 =>
      cases h2
      have h1' := h1
      cases h1 with
      | btp g1 g2 g3 => exact .inr ⟨_, _, rfl, .inr ⟨.inl (.inr ⟨_, r.fz _ _ g1⟩), po.here r h1'⟩⟩
  · rename_i d _
    cases rv with
    | cons h1 h2 =>
      cases h2
      cases q : lstOf st.cs d with
      | none => rw [q] at po; exact po.elim
      | some xs =>
        rw [q] at po
        obtain ⟨a2, ws, rfl, s2, r2⟩ := lst_read r h1 q
        refine .inl ⟨a2, ws, rfl, s2, fun l o hl ho => ?_⟩
        obtain ⟨x2, r3⟩ := r.fresh (o := .frz o (.tup ws)) hl
        exact po _ _ _ _ x2 r3 (.btp upd_same ho (r2.ext x2))
  · exact po.elim
theorem de_dict1 (hc : X.calm = true) (hK : X.K = G.K.K) (hg : Gl X "dict") (hm : X.mg "dict" = none) (ha : PA X (e :: es) (tAs G W g)) (he : starEach (e :: es) X.env = (false, eval e X.env) :: starEach es X.env := by rfl) (hpl : (backTo pos (starEach es X.env)).any (·.1) = false := by rfl) : PE X (.Call (.Name "dict" p) (e :: es) [] pos) (tE G W (eB hDict g)) :=
  de_callTy (call_dictA hc) (by rw [hK]; exact vn_dict) hg hm (by decide +kernel) ha (he := he) (hpl := hpl)
theorem de_tupleB (hK : X.K = G.K.K) (hg : Gl X "tuple") (hm : X.mg "tuple" = none) (ha : PA X (e :: es) (tAs G W g)) (he : starEach (e :: es) X.env = (false, eval e X.env) :: starEach es X.env := by rfl) (hpl : (backTo pos (starEach es X.env)).any (·.1) = false := by rfl) : PE X (.Call (.Name "tuple" p) (e :: es) [] pos) (tE G W (eB hTupleB g)) :=
  de_callTy call_tupBA (by rw [hK]; exact vn_tupleB) hg hm (by decide +kernel) ha (he := he) (hpl := hpl)
end
end VL

/-! VLX0: an own exception over ValueError whose __init__ says super().__init__(text) and keeps its argument -/
namespace VL
open PySem L2 PySem.W PySem.Calls PyProof.Rows

section
variable {prog : Program} {w : World} {A : Around} {E : Value → Shared → Prop} {h : Heap} {g : Array GenState} {d : Drawn} {t : Nat} {os : OsState}
theorem call_mw {K : Frag} {C u e t0 : Addr} {rest : List Value} {Q : Value → Shared → Prop} (X : K.In h) (T : OexC K C) (he : h.get? e = some (excObj C t0 none .none)) (hu : h.get? u = some (kxs_mw "ValueError.__init__" e)) (hz : rest.length ≤ sizeLine)
    (hq : ∀ h' t1, (∀ b o, b ≠ e → h.get? b = some o → h'.get? b = some o) → h'.get? e = some (excObj C t1 none .none) → Q .none ⟨h', g, d, t, os⟩) :
    wpAny (model prog w) A (call (.ref u) rest) Q E ⟨h, g, d, t, os⟩ := by
  obtain ⟨nm, q, N, bs, bm, sn, sub, ab, col, dd, k0, k1, k2, k3, k5, hC, hbm⟩ := T.cls
  have FB := PySem.F.excBase_ValueError
  refine wpAny_call (codeAny_of_tree ?_)
  show wpAny _ A.in1 (callAny (.ref u) ⟨rest, []⟩) _ _ _
  simp only [callAny]
  refine wpAny_bind (wpAny_load hu ?_)
  simp only [kxs_mw, show (Value.type "method-wrapper" == Value.type "method" || Value.type "method-wrapper" == Value.type "builtin_function_or_method" || Value.type "method-wrapper" == Value.type "method-wrapper") = true by decide, if_true]
  refine KFB.if_so (by decide) ?_
  refine wpAny_bind (check_bound_init FB.toExcCallFacts (X _ _ hC) he rfl ?_)
  refine wpAny_bind (wpAny_pure (wpAny_pure ?_))
  refine ⟨plainId_quiet FB.init.plain _, codeAny_builtin FB.initEntry ?_⟩
  exact exc_init_tree (cls := .ref C) (t0 := t0) (dv := none) (c2 := .none) (c3 := .none) (b4 := .bool false) he hz fun h' k e' _ => hq h' _ k e'
end
/-- what __init__(self, p) promises -/
def spSup (C : Addr) (fld : Str) : Sp := fun vs H Q _ => ∃ a v, vs = [.ref a, v] ∧ H a = some (exo a C none) ∧ ∀ d, H d = none → d ≠ a → Q .non (upd (upd H d (exd d [(fld, v)])) a (exo a C (some d)))
/-- the facts of such an __init__ -/
structure SupI (P : Program) (K : Frag) (mg : Str → Option Value) (C f : Addr) (fd : FuncData) (fld : Str) : Prop where
  T : OexC K C
  no : findIn K (.ref C) fld = some none
  sup : ks_superIn K C C "__init__" = some (some (.builtin "ValueError.__init__"))
  mro : mroIn K C (.ref C) = some true
  ve : subIn K (.ref C) (.type "ValueError") = some true
  any : nsIn K cStatics "thirdparty.any" = some none
  ms : mg "super" = none
  top : (P.main.scope.names.lookup ("super" : Str)).isSome = false
  fn : ∃ (oc cl ccl : Value) (od cld cdd : Option Addr) (osl csl ccs : Array (Option Value)) (vs0 : Array Value) (file : Str) (tf : Tok) (cc cda : Addr), K.lookup f = some ⟨oc, od, .func fd, osl⟩ ∧ fd.closure = [(("__class__" : Str), cc)] ∧ fd.code = .ref cda ∧ codeIn K (.ref cda) fd.qualname = true ∧
    K.lookup cda = some ⟨ccl, cdd, .fields vs0, ccs⟩ ∧ vs0[2]? = some (.str file tf) ∧ ((P.main.file : Str) == file) = true ∧ K.lookup cc = some ⟨cl, cld, .cell (some (.ref C)), csl⟩
def MethEv (o : Expr) (name : Str) (apos : Pos) (args : List Expr) (pos : Pos) : Prop := ∀ env, ∃ pl, eval (.Call (.Attribute o name apos) args [] pos) env = (do
      let ov ← attributeBase o name env (eval o env)
      standAt apos.atName
      let (f, first) ← holding [ov] (getMethod ov name pl)
      callWith pos f first (backTo pos (starEach args env)) [])
theorem fn_super {CX : CXT} {P : Program} {w : World} {K : Frag} {mg : Str → Option Value} {base : Heap} {k : Nat} {f C : Addr} {name qual : Str} {params : Arguments} {scope : Scope} {cls : List (Str × Addr)} {dV kV doc pm cdv ct : Value} {an : Option Addr} {txt fld par : Str} {j : Nat} {p0 p1 p2 p3 p4 p5 p6 p7 p8 p9 : Pos} {ar : Arg}
    (S : SupI P K mg C f (fnX name qual params [.Expr (.Call (.Attribute (.Call (.Name "super" p0) [] [] p1) "__init__" p2) [.Constant (.str txt) j p3] [] p4) p5, .Assign [.Attribute (.Name "self" p6) fld p7] (.Name par p8) p9] scope cls dV kV doc pm an cdv ct) fld)
    (hev : MethEv (.Call (.Name "super" p0) [] [] p1) "__init__" p2 [.Constant (.str txt) j p3] p4) (hp : (params.posonlyargs ++ params.args).head? = some ar) (har : ar.arg = "self") (hks : scope.names.lookup ("super" : Str) = some .globalImplicit) (hkc : scope.names.lookup ("__class__" : Str) = some .free) (hka : scope.names.lookup ("self" : Str) = some .local) (hkp : scope.names.lookup par = some .local)
    (hk : scope.kind = .function) (hcells : ∀ x ∈ scope.names, x.2 ≠ .cell) (hco : scope.isCoroutine = false) (hgen : scope.isGenerator = false) (hpar : par ≠ "self") (hdb : (par == ("__debug__" : Str)) = false) :
    FnOk P w K mg base CX (k + 1) f (fnX name qual params [.Expr (.Call (.Attribute (.Call (.Name "super" p0) [] [] p1) "__init__" p2) [.Constant (.str txt) j p3] [] p4) p5, .Assign [.Attribute (.Name "self" p6) fld p7] (.Name par p8) p9] scope cls dV kV doc pm an cdv ct) ["self", par] (spSup C fld) := by
  refine ⟨fun vs H Q E ⟨a, v, e, _⟩ => by rw [e]; rfl, fun A outer s H args us vs Q E hr e0 hb r hsp => ?_⟩
  obtain ⟨oc, cl, ccl, od, cld, cdd, osl, csl, ccs, vs0, file, tf, cc, cda, lk, hcl, hcv, hcd, hcode, hvs, hfile, hcell⟩ := S.fn
  obtain ⟨nm, q, N, bs, bm, sn, sub, ab, col, dd, k0, k1, k2, k3, k5, hC, hbm⟩ := S.T.cls
  have hcls : clsIn K C = some { name := nm, bases := bs, mro := .ref C :: bm, ns := N, qualname := q, hasDict := true, slotNames := sn, subclasses := sub, abstract := ab, collection := col, hasDel := false } := by unfold clsIn; rw [hC] <;> rfl
  obtain ⟨a, v, rfl, ea, hq⟩ := hsp
  cases r with
  | @cons _ u0 _ ur ra rr =>
  cases rr with
  | @cons _ u _ ur2 ru rn =>
  cases rn with
  | nil =>
  obtain rfl : u0 = Value.ref a := ra
  dsimp only at hcl hcv
  subst hcl hcv
  have KX : K.In s.heap := e0.mod.kin.keeps fun b o e => (e0.bs b o e).1
  have lim : s.heap.NoLimit := e0.mod.nolimit.keeps fun b o e => (e0.bs b o e).1
  have hbin : BindsTo s _ args [("self", Value.ref a), (par, u)] := hb
  refine ks_codeAny_call_defAt (binds := [("self", Value.ref a), (par, u)]) hr.depth (KX _ _ lk) rfl lim (codeRec_of KX hcd) rfl hbin hcells (fun x hx => ?_) (fun h1 hns kp => ?_) hco hgen hk
  · simp only [List.mem_cons, List.not_mem_nil, or_false] at hx
    rcases hx with rfl | rfl
    · exact hka
    · exact hkp
  have m1 : List.lookup ("self" : Str) ([(("self" : Str), Value.ref a), (par, u)].reverse) = some (Value.ref a) := by
    have z : (("self" : Str) == par) = false := by simpa using Ne.symm hpar
    show List.lookup ("self" : Str) [(par, u), ("self", Value.ref a)] = _
    rw [List.lookup_cons, z]
    rfl
  have m2 : ([(("self" : Str), Value.ref a), (par, u)].reverse).lookup par = some u := by
    show List.lookup par [(par, u), ("self", Value.ref a)] = _
    rw [List.lookup_cons, beq_self_eq_true]
  obtain ⟨t0, hx⟩ := exo_at e0.hok ea
  have X1 : K.In h1 := KX.keeps kp
  have x1 : h1.get? a = some (excObj C t0 none .none) := kp _ _ hx
  have I1 : InstAt h1 a (excObj C t0 none .none) C none := ⟨x1, rfl, rfl, trivial⟩
  obtain ⟨mb, hb1, hb2⟩ := e0.mod.blt
  have kb : ∀ b o, base.get? b = some o → h1.get? b = some o := fun b o e => kp b o (e0.bs b o e).1
  have hi : ∀ env : Env, env.scope = scope → interactive env = false := fun env e => by
    unfold interactive
    rw [e, hk]
    rfl
  refine ks_wpAt_execs_cons (ks_wpAt_Expr_any ?_ (hi _ rfl))
  obtain ⟨pl, he⟩ := hev (callEnv (fnX name qual params [.Expr (.Call (.Attribute (.Call (.Name "super" p0) [] [] p1) "__init__" p2) [.Constant (.str txt) j p3] [] p4) p5, .Assign [.Attribute (.Name "self" p6) fld p7] (.Name par p8) p9] scope [(("__class__" : Str), cc)] dV kV doc pm an (.ref cda) ct) s.heap.objs.size f)
  refine ks_wpAt_MethodCall (pl := pl) ?_ he
  refine ks_wpAt_super_base (f := f) (cc := cda) hks hkc (by decide) rfl (X1 _ _ lk) rfl hp rfl (X1 _ _ hcode) rfl hvs hfile S.top ?_
  refine ks_loadName_global hk hks (loadGlobal_builtin (e0.mod.glob.keeps kb) S.ms (hb1.keeps kb) ((hb2 _ (by decide)).trans PyProof.Rows.Boot.«super») ⟨rfl, ?_⟩)
  refine wpAny_loadName_free hk hkc rfl ⟨_, X1 _ _ hcell, rfl⟩ ?_
  refine wpAny_loadName_local (v := .ref a) hk (by rw [har]; exact hka) hns ?_ ?_
  · rw [har]
    exact m1
  refine ks_wpAny_isType_cls (X1 _ _ hC) rfl ⟨rfl, ?_⟩
  refine ks_wpAny_call_super (X1 _ _ hC) rfl x1 rfl (fun c e => by cases e) (looks_mroIn X1 S.mro) (fun h2 so k12 => ?_)
  have X2 : K.In h2 := X1.keeps k12
  have x2 : h2.get? a = some (excObj C t0 none .none) := k12 _ _ x1
  have I2 : InstAt h2 a (excObj C t0 none .none) C none := ⟨x2, rfl, rfl, trivial⟩
  have hsup := S.sup
  unfold ks_superIn at hsup
  rw [hcls] at hsup
  refine kxs_getMethod kxs_ValueError so (looks_opaque X2 S.any) (l₀ := .ref C :: bm) (fun A Q E s k q => wpAny_bind ((looks_clsIn X2 hcls) A _ E s k (wpAny_pure q))) rfl X2 hsup (I2.type.andThen (looks_subIn X2 S.ve)) (ks_ne X2 I2 hcls) (by decide) ?_
  refine kxs_callWith (i := "ValueError.__init__") (x := a) rfl (evalArgs_plain (Calls.spliced_cons (Calls.Constant_str (k := j) (pos := p3) (Calls.spliced_nil ⟨?_, ?_⟩))))
  · exact Heap.get?_push_at rfl rfl
  have k23 : ∀ b o, h2.get? b = some o → (h2.push (kxs_mw "ValueError.__init__" a)).get? b = some o := fun b o e => Heap.get?_push_of_some _ e
  refine call_mw (K := K) (C := C) (e := a) (t0 := t0) (X2.keeps k23) S.T (k23 _ _ x2) (Heap.get?_push_at rfl rfl) (by rw [sizeLine_eq]; simp) (fun h4 t1 k34 x4 => ?_)
  have kAll : ∀ b o, b ≠ a → h1.get? b = some o → h4.get? b = some o := fun b o hb e => k34 b o hb (k23 _ _ (k12 _ _ e))
  have X4 : K.In h4 := fun b o e => by
    have hb : b ≠ a := fun z => by
      have y := (e0.bs b o (e0.mod.kin _ _ e)).2
      rw [z, ea] at y
      cases y
    exact kAll b o hb (X1 _ _ e)
  have La : s.heap.objs.size ≠ a := Nat.ne_of_gt (Heap.lt_size hx)
  have hns4 : h4.Ns s.heap.objs.size (fun x => [(("self" : Str), Value.ref a), (par, u)].reverse.lookup x) := hns.at fun o e => kAll _ o La e
  refine ks_wpAt_execs_cons (ks_wpAt_Assign_Attr (wpAt_of_wpAny (wpAny_Name (wpAny_loadName_local hk hkp hns4 m2 (wpAny_Name (wpAny_loadName_local hk hka hns4 m1 ?_) (by decide))) hdb)))
  refine set_plain X4 (ox := excObj C t1 none .none) (od := none) ⟨x4, rfl, rfl, trivial⟩ S.T.sa ?_
  refine HandSPX.exc_osa X4 x4 hcls (show HandSPX.refsVE (.ref C :: bm) = true from hbm) rfl S.no (fun h5 tk5 dx k45 dn dne x5 n5 => ?_)
  have kFull : ∀ b o, b ≠ a → s.heap.get? b = some o → h5.get? b = some o := fun b o hb e => k45 b o hb (kAll b o hb (kp b o e))
  have Lt : s.heap.objs.size < h4.objs.size := by
    obtain ⟨oL, es, ep, hL, _⟩ := hns4
    exact Heap.lt_size hL
  have hnd : H dx = none := e0.hok.fresh (Nat.le_of_lt (Nat.lt_of_lt_of_le Lt dn))
  have nd : ∀ {b : Addr} {o : Obj}, s.heap.get? b = some o → b ≠ dx := fun {b o} z => Nat.ne_of_lt (Nat.lt_of_lt_of_le (Nat.lt_trans (Heap.lt_size z) Lt) dn)
  have na : ∀ {b : Addr}, H b = none → b ≠ a := fun {b} n z => by
    rw [z, ea] at n
    cases n
  refine wpAt_of_wpAny (wpAny_execs_nil ?_)
  refine ⟨.non, upd (upd H dx (exd dx [(fld, v)])) a (exo a C (some dx)), rfl, e0.bare, ?_, ?_, rfl, hq dx hnd dne⟩
  · exact {
      keep := fun b o q n _ _ => kFull b o (na n) q
      slot := fun b o q n _ _ => ⟨o.slots, kFull b o (na n) q⟩
      free := fun b o q n _ => by rw [upd_ne (na n), upd_ne (nd q)]; exact n
      there := fun b o q _ => by
        by_cases hb : b = a
        · exact ⟨_, by rw [hb]; exact x5⟩
        · exact ⟨o, kFull b o hb q⟩
      tups := fun b xs q => by rw [upd_ne (at_ne ea q exo_tup), upd_ne (ne_of_none q hnd)]; exact q
      frzs := fun b o v q => by rw [upd_ne (at_ne ea q exo_frz), upd_ne (ne_of_none q hnd)]; exact q
      tbls := fun b ps q => ⟨#[], by rw [upd_ne (at_ne ea q exo_tbl), upd_ne (ne_of_none q hnd), q]; simp⟩ }
  · intro b o q
    by_cases hb : b = a
    · subst hb
      rw [upd_same] at q
      cases q
      exact exo_ok x5
    · rw [upd_ne hb] at q
      by_cases hd : b = dx
      · subst hd
        rw [upd_same] at q
        cases q
        exact exd_ok n5 (relO_put (fs := []) ru fun g => True.intro)
      · rw [upd_ne hd] at q
        exact (e0.hok b o q).stay (fun c v hc z => kFull c v (by
            rcases hc with hc | hc
            · rw [hc]
              exact hb
            · exact at_ne ea hc exo_own) z)
          (fun c hc => by rw [upd_ne (at_ne ea hc exo_own), upd_ne (ne_of_none hc hnd)]; exact hc) (fun c xs hc => by rw [upd_ne (at_ne ea hc exo_tup), upd_ne (ne_of_none hc hnd)]; exact hc)
end VL

/-! VXB: own exceptions over other built-in classes (IndexError, KeyError) -/
namespace VL
open PySem L2 PySem.W PySem.Calls PyProof.Rows
abbrev ixTail : List Value := [.type "IndexError", .type "LookupError", .type "Exception", .type "BaseException", .type "object"]
/-- own classes, then those of the base -/
def refsL (tl : List Value) : List Value → Bool
  | .ref _ :: r => refsL tl r
  | l => l == tl
theorem refsL_split {tl : List Value} : ∀ {l : List Value}, refsL tl l = true → ∃ cs : List Addr, l = cs.map Value.ref ++ tl
  | [], e => ⟨[], beq_iff_eq.mp (show (([] : List Value) == tl) = true from e)⟩
  | .ref c :: r, e => by
    obtain ⟨cs, h⟩ := refsL_split (l := r) e
    exact ⟨c :: cs, by rw [h]; rfl⟩
  | .none :: r, e => ⟨[], beq_iff_eq.mp (show ((Value.none :: r) == tl) = true from e)⟩
  | .ellipsis :: r, e => ⟨[], beq_iff_eq.mp (show ((Value.ellipsis :: r) == tl) = true from e)⟩
  | .notImplemented :: r, e => ⟨[], beq_iff_eq.mp (show ((Value.notImplemented :: r) == tl) = true from e)⟩
  | .bool a :: r, e => ⟨[], beq_iff_eq.mp (show ((Value.bool a :: r) == tl) = true from e)⟩
  | .int a b :: r, e => ⟨[], beq_iff_eq.mp (show ((Value.int a b :: r) == tl) = true from e)⟩
  | .float a b :: r, e => ⟨[], beq_iff_eq.mp (show ((Value.float a b :: r) == tl) = true from e)⟩
  | .str a b :: r, e => ⟨[], beq_iff_eq.mp (show ((Value.str a b :: r) == tl) = true from e)⟩
  | .bytes a b :: r, e => ⟨[], beq_iff_eq.mp (show ((Value.bytes a b :: r) == tl) = true from e)⟩
  | .type a :: r, e => ⟨[], beq_iff_eq.mp (show ((Value.type a :: r) == tl) = true from e)⟩
  | .builtin a :: r, e => ⟨[], beq_iff_eq.mp (show ((Value.builtin a :: r) == tl) = true from e)⟩
/-- what is told of a base -/
structure BaseF (B newId initId : String) (tl : List Value) : Prop where
  fb : ExcBaseFacts B newId initId tl
  kf : KxsFacts B initId
  pass : ∀ self : Value, refuseLoop self "__setattr__" tl = pure ()
  obj : tl.contains (.type "object") = true
  ne : tl.isEmpty = false
abbrev vlTail : List Value := [.type "ValueError", .type "Exception", .type "BaseException", .type "object"]
theorem base_ValueError : BaseF "ValueError" "ValueError.__new__" "ValueError.__init__" vlTail := ⟨PySem.F.excBase_ValueError, kxs_ValueError, fun self => by kernel_rfl, by decide +kernel, rfl⟩
theorem base_IndexError : BaseF "IndexError" "IndexError.__new__" "IndexError.__init__" ixTail := ⟨PySem.F.excBase_IndexError, kxs_IndexError, fun self => by kernel_rfl, by decide +kernel, rfl⟩
end VL

/-! VXC: making and raising own exceptions over such a base -/
namespace VL
open PySem L2 PySem.W PySem.Calls PyProof.Rows
/-- what the written part says of the class -/
structure OexB (B newId : String) (tl : List Value) (K : PySem.W.Frag) (C : Addr) : Prop where
  cls : ∃ nm q N bs bm sn sub ab col dd k0 k1 k2 k3 k5, K.lookup C = some (excClassObj nm q C N bs bm true sn sub ab col dd k0 k1 k2 k3 k5 newId) ∧ refsL tl bm = true
  sa : PySem.W.findIn K (.ref C) "__setattr__" = some (some (.builtin "object.__setattr__"))
  exC : PySem.W.subIn K (.ref C) (.type "BaseException") = some true
  tyC : PySem.W.typeIn K (.ref C) = some (.type "type")
  kC : PySem.W.keepIn K (.ref C) = true
theorem contains_refs (Y : String) (tl : List Value) : ∀ cs : List Addr, (cs.map Value.ref ++ tl).contains (.type Y) = tl.contains (.type Y)
  | [] => rfl
  | c :: cs => by
    rw [List.map_cons, List.cons_append, List.contains_cons, contains_refs Y tl cs]
    rfl
theorem pass_refs {self : Value} {tl : List Value} (h : refuseLoop self "__setattr__" tl = pure ()) : ∀ cs : List Addr, refuseLoop self "__setattr__" (cs.map Value.ref ++ tl) = pure ()
  | [] => h
  | c :: cs => by
    rw [List.map_cons, List.cons_append, refuseLoop_ref]
    exact pass_refs h cs
theorem ne_refs {tl : List Value} (h : tl.isEmpty = false) : ∀ cs : List Addr, (cs.map Value.ref ++ tl).isEmpty = false
  | [] => h
  | _ :: _ => rfl
section
open Builtin Builtin.ObjectAttr
variable {prog : Program} {w : World} {A : Around} {E : Value → Shared → Prop} {R : Result → Shared → Prop} {hp : Heap} {g : Array GenState} {d : Drawn} {t : Nat} {os : OsState}
/-- the first field of an exception -/
theorem exc_osaB {B newId initId : String} {tl : List Value} (BF : BaseF B newId initId tl) {K : W.Frag} {name : Str} {tk : Tok} {v : Value} {x C : Addr} {fv : Array Value} {cd : ClassData}
    (X : K.In hp) (hx : hp.get? x = some { cls := .ref C, data := .fields fv }) (hcd : W.clsIn K C = some cd) (hm : refsL tl cd.mro = true) (hh : cd.hasDict = true) (ha : W.findIn K (.ref C) name = some none)
    (hq : ∀ h' tk' dx, (∀ b o, b ≠ x → hp.get? b = some o → h'.get? b = some o) → hp.objs.size ≤ dx → dx ≠ x → h'.get? x = some { cls := .ref C, dict := some dx, data := .fields fv } →
      h'.Ns1 dx (fun y => if y = name then some v else none) → R (.ok (.ret .none)) ⟨h', g, d, tk', os⟩) :
    codeAny (model prog w) A (.call (.builtin "object.__setattr__") ⟨[.ref x, .str name tk, v], []⟩) R ⟨hp, g, d, t, os⟩ := by
  obtain ⟨cs, split⟩ := refsL_split hm
  have here : W.InstAt hp x { cls := .ref C, data := .fields fv } C none := ⟨hx, rfl, rfl, trivial⟩
  have facts := F.store_object
  have full : cd.mro.isEmpty = false := by rw [split]; exact ne_refs BF.ne cs
  have isObj : cd.mro.contains (.type "object") = true := by rw [split, contains_refs]; exact BF.obj
  have fresh : x ≠ hp.objs.size := Nat.ne_of_lt (Heap.lt_size hx)
  have inMro : W.mroIn K C (.type "object") = some true := by
    unfold W.mroIn
    rw [hcd, Option.bind_some, if_neg (by rw [full]; decide), isObj]
  have sub : W.Looks (model prog w) hp (isInstance (.ref x) (.type "object")) true := here.type.andThen (W.looks_mroIn X inMro)
  refine codeAny_call_builtin facts.slot.plain facts.entry (@W.check_slot (model prog w) _ _ ⟨hp, g, d, t, os⟩ "object.__setattr__" "object" "__setattr__" (.ref x) [.str name tk, v] [] _ facts.kind facts.split sub (facts.args (.ref x) (.str name tk) v) ?_)
  have known : W.Looks (model prog w) hp (classData C) cd := W.looks_clsIn X hcd
  have mro : W.Looks (model prog w) hp (mroOf (.ref C)) cd.mro := known.andThen .now
  have noTaker : W.Looks (model prog w) hp (storeTaker? none) none := .now
  rw [W.osa_eq, refuse_eq]
  refine wpAny_bind (wpAny_bind (here.type.at (wpAny_bind (mro.at ?_))))
  rw [show refuseLoop (.ref x) "__setattr__" cd.mro = pure () by rw [split]; exact pass_refs (BF.pass _) cs]
  refine wpAny_pure (wpAny_bind (here.type.at (wpAny_bind ((W.looks_findIn X ha).at (wpAny_bind (noTaker.at ?_))))))
  show wpAny _ _ (storeInOwnDict (.ref x) (.ref C) (.str name tk) name v false) _ _ _
  obtain ⟨nm, bs, mro, ns, qn, hd, sn, sb, ab, col, del⟩ := cd
  dsimp only at hh
  subst hh
  unfold storeInOwnDict ownDictForStores
  repeat (first | with_reducible refine HandSPX.store_in_new ?_ ?_ | with_reducible refine wpAny_loadPart_at hx ?_ | with_reducible refine known.at ?_ | wp_step)
  · exact ⟨_, #[], _, (Heap.get?_update_ne _ _ _ _ fresh.symm).trans (Heap.get?_push_at rfl rfl), rfl, fun e he => absurd he (by simp), fun _ => rfl⟩
  · intro h' tk' hn' hs
    have atX : (hp.push { cls := .type "dict", data := .dict #[] }).get? x = some { cls := .ref C, data := .fields fv } := Heap.get?_push_of_some _ hx
    refine hq h' tk' hp.objs.size ?_ (Nat.le_refl _) fresh.symm ((hs.2 x fresh).trans (Heap.get?_update_self _ atX rfl)) hn'
    intro b o hb ho
    exact (hs.2 b (Nat.ne_of_lt (Heap.lt_size ho))).trans ((Heap.get?_update_ne _ _ _ _ hb).trans (Heap.get?_push_of_some _ ho))
end
section
variable {prog : Program} {w : World} {A : Around} {E : Value → Shared → Prop} {h : Heap} {g : Array GenState} {d : Drawn} {t : Nat} {os : OsState}
theorem call_mwB {B newId initId : String} {tl : List Value} (BF : BaseF B newId initId tl) {K : Frag} {C u e t0 : Addr} {rest : List Value} {Q : Value → Shared → Prop} (X : K.In h) (T : OexB B newId tl K C) (he : h.get? e = some (excObj C t0 none .none)) (hu : h.get? u = some (kxs_mw initId e)) (hz : rest.length ≤ sizeLine)
    (hq : ∀ h' t1, (∀ b o, b ≠ e → h.get? b = some o → h'.get? b = some o) → h'.get? e = some (excObj C t1 none .none) → Q .none ⟨h', g, d, t, os⟩) :
    wpAny (model prog w) A (call (.ref u) rest) Q E ⟨h, g, d, t, os⟩ := by
  obtain ⟨nm, q, N, bs, bm, sn, sub, ab, col, dd, k0, k1, k2, k3, k5, hC, hbm⟩ := T.cls
  have FB := BF.fb
  refine wpAny_call (codeAny_of_tree ?_)
  show wpAny _ A.in1 (callAny (.ref u) ⟨rest, []⟩) _ _ _
  simp only [callAny]
  refine wpAny_bind (wpAny_load hu ?_)
  simp only [kxs_mw, show (Value.type "method-wrapper" == Value.type "method" || Value.type "method-wrapper" == Value.type "builtin_function_or_method" || Value.type "method-wrapper" == Value.type "method-wrapper") = true by decide, if_true]
  refine KFB.if_so (by decide) ?_
  refine wpAny_bind (check_bound_init FB.toExcCallFacts (X _ _ hC) he rfl ?_)
  refine wpAny_bind (wpAny_pure (wpAny_pure ?_))
  refine ⟨plainId_quiet FB.init.plain _, codeAny_builtin FB.initEntry ?_⟩
  exact exc_init_tree (cls := .ref C) (t0 := t0) (dv := none) (c2 := .none) (c3 := .none) (b4 := .bool false) he hz fun h' k e' _ => hq h' _ k e'
end
/-- the facts of such an __init__ -/
structure SupB (B newId initId : String) (tl : List Value) (P : Program) (K : Frag) (mg : Str → Option Value) (C f : Addr) (fd : FuncData) (fld : Str) : Prop where
  T : OexB B newId tl K C
  no : findIn K (.ref C) fld = some none
  sup : ks_superIn K C C "__init__" = some (some (.builtin initId))
  mro : mroIn K C (.ref C) = some true
  ve : subIn K (.ref C) (.type B) = some true
  any : nsIn K cStatics "thirdparty.any" = some none
  ms : mg "super" = none
  top : (P.main.scope.names.lookup ("super" : Str)).isSome = false
  fn : ∃ (oc cl ccl : Value) (od cld cdd : Option Addr) (osl csl ccs : Array (Option Value)) (vs0 : Array Value) (file : Str) (tf : Tok) (cc cda : Addr), K.lookup f = some ⟨oc, od, .func fd, osl⟩ ∧ fd.closure = [(("__class__" : Str), cc)] ∧ fd.code = .ref cda ∧ codeIn K (.ref cda) fd.qualname = true ∧
    K.lookup cda = some ⟨ccl, cdd, .fields vs0, ccs⟩ ∧ vs0[2]? = some (.str file tf) ∧ ((P.main.file : Str) == file) = true ∧ K.lookup cc = some ⟨cl, cld, .cell (some (.ref C)), csl⟩
theorem fn_superB {B newId initId : String} {tl : List Value} (BF : BaseF B newId initId tl) {CX : CXT} {P : Program} {w : World} {K : Frag} {mg : Str → Option Value} {base : Heap} {k : Nat} {f C : Addr} {name qual : Str} {params : Arguments} {scope : Scope} {cls : List (Str × Addr)} {dV kV doc pm cdv ct : Value} {an : Option Addr} {txt fld par : Str} {j : Nat} {p0 p1 p2 p3 p4 p5 p6 p7 p8 p9 : Pos} {ar : Arg}
    (S : SupB B newId initId tl P K mg C f (fnX name qual params [.Expr (.Call (.Attribute (.Call (.Name "super" p0) [] [] p1) "__init__" p2) [.Constant (.str txt) j p3] [] p4) p5, .Assign [.Attribute (.Name "self" p6) fld p7] (.Name par p8) p9] scope cls dV kV doc pm an cdv ct) fld)
    (hev : MethEv (.Call (.Name "super" p0) [] [] p1) "__init__" p2 [.Constant (.str txt) j p3] p4) (hp : (params.posonlyargs ++ params.args).head? = some ar) (har : ar.arg = "self") (hks : scope.names.lookup ("super" : Str) = some .globalImplicit) (hkc : scope.names.lookup ("__class__" : Str) = some .free) (hka : scope.names.lookup ("self" : Str) = some .local) (hkp : scope.names.lookup par = some .local)
    (hk : scope.kind = .function) (hcells : ∀ x ∈ scope.names, x.2 ≠ .cell) (hco : scope.isCoroutine = false) (hgen : scope.isGenerator = false) (hpar : par ≠ "self") (hdb : (par == ("__debug__" : Str)) = false) :
    FnOk P w K mg base CX (k + 1) f (fnX name qual params [.Expr (.Call (.Attribute (.Call (.Name "super" p0) [] [] p1) "__init__" p2) [.Constant (.str txt) j p3] [] p4) p5, .Assign [.Attribute (.Name "self" p6) fld p7] (.Name par p8) p9] scope cls dV kV doc pm an cdv ct) ["self", par] (spSup C fld) := by
  refine ⟨fun vs H Q E ⟨a, v, e, _⟩ => by rw [e]; rfl, fun A outer s H args us vs Q E hr e0 hb r hsp => ?_⟩
  obtain ⟨oc, cl, ccl, od, cld, cdd, osl, csl, ccs, vs0, file, tf, cc, cda, lk, hcl, hcv, hcd, hcode, hvs, hfile, hcell⟩ := S.fn
  obtain ⟨nm, q, N, bs, bm, sn, sub, ab, col, dd, k0, k1, k2, k3, k5, hC, hbm⟩ := S.T.cls
  have hcls : clsIn K C = some { name := nm, bases := bs, mro := .ref C :: bm, ns := N, qualname := q, hasDict := true, slotNames := sn, subclasses := sub, abstract := ab, collection := col, hasDel := false } := by unfold clsIn; rw [hC] <;> rfl
  obtain ⟨a, v, rfl, ea, hq⟩ := hsp
  cases r with
  | @cons _ u0 _ ur ra rr =>
  cases rr with
  | @cons _ u _ ur2 ru rn =>
  cases rn with
  | nil =>
  obtain rfl : u0 = Value.ref a := ra
  dsimp only at hcl hcv
  subst hcl hcv
  have KX : K.In s.heap := e0.mod.kin.keeps fun b o e => (e0.bs b o e).1
  have lim : s.heap.NoLimit := e0.mod.nolimit.keeps fun b o e => (e0.bs b o e).1
  have hbin : BindsTo s _ args [("self", Value.ref a), (par, u)] := hb
  refine ks_codeAny_call_defAt (binds := [("self", Value.ref a), (par, u)]) hr.depth (KX _ _ lk) rfl lim (codeRec_of KX hcd) rfl hbin hcells (fun x hx => ?_) (fun h1 hns kp => ?_) hco hgen hk
  · simp only [List.mem_cons, List.not_mem_nil, or_false] at hx
    rcases hx with rfl | rfl
    · exact hka
    · exact hkp
  have m1 : List.lookup ("self" : Str) ([(("self" : Str), Value.ref a), (par, u)].reverse) = some (Value.ref a) := by
    have z : (("self" : Str) == par) = false := by simpa using Ne.symm hpar
    show List.lookup ("self" : Str) [(par, u), ("self", Value.ref a)] = _
    rw [List.lookup_cons, z]
    rfl
  have m2 : ([(("self" : Str), Value.ref a), (par, u)].reverse).lookup par = some u := by
    show List.lookup par [(par, u), ("self", Value.ref a)] = _
    rw [List.lookup_cons, beq_self_eq_true]
  obtain ⟨t0, hx⟩ := exo_at e0.hok ea
  have X1 : K.In h1 := KX.keeps kp
  have x1 : h1.get? a = some (excObj C t0 none .none) := kp _ _ hx
  have I1 : InstAt h1 a (excObj C t0 none .none) C none := ⟨x1, rfl, rfl, trivial⟩
  obtain ⟨mb, hb1, hb2⟩ := e0.mod.blt
  have kb : ∀ b o, base.get? b = some o → h1.get? b = some o := fun b o e => kp b o (e0.bs b o e).1
  have hi : ∀ env : Env, env.scope = scope → interactive env = false := fun env e => by
    unfold interactive
    rw [e, hk]
    rfl
  refine ks_wpAt_execs_cons (ks_wpAt_Expr_any ?_ (hi _ rfl))
  obtain ⟨pl, he⟩ := hev (callEnv (fnX name qual params [.Expr (.Call (.Attribute (.Call (.Name "super" p0) [] [] p1) "__init__" p2) [.Constant (.str txt) j p3] [] p4) p5, .Assign [.Attribute (.Name "self" p6) fld p7] (.Name par p8) p9] scope [(("__class__" : Str), cc)] dV kV doc pm an (.ref cda) ct) s.heap.objs.size f)
  refine ks_wpAt_MethodCall (pl := pl) ?_ he
  refine ks_wpAt_super_base (f := f) (cc := cda) hks hkc (by decide) rfl (X1 _ _ lk) rfl hp rfl (X1 _ _ hcode) rfl hvs hfile S.top ?_
  refine ks_loadName_global hk hks (loadGlobal_builtin (e0.mod.glob.keeps kb) S.ms (hb1.keeps kb) ((hb2 _ (by decide)).trans PyProof.Rows.Boot.«super») ⟨rfl, ?_⟩)
  refine wpAny_loadName_free hk hkc rfl ⟨_, X1 _ _ hcell, rfl⟩ ?_
  refine wpAny_loadName_local (v := .ref a) hk (by rw [har]; exact hka) hns ?_ ?_
  · rw [har]
    exact m1
  refine ks_wpAny_isType_cls (X1 _ _ hC) rfl ⟨rfl, ?_⟩
  refine ks_wpAny_call_super (X1 _ _ hC) rfl x1 rfl (fun c e => by cases e) (looks_mroIn X1 S.mro) (fun h2 so k12 => ?_)
  have X2 : K.In h2 := X1.keeps k12
  have x2 : h2.get? a = some (excObj C t0 none .none) := k12 _ _ x1
  have I2 : InstAt h2 a (excObj C t0 none .none) C none := ⟨x2, rfl, rfl, trivial⟩
  have hsup := S.sup
  unfold ks_superIn at hsup
  rw [hcls] at hsup
  refine kxs_getMethod BF.kf so (looks_opaque X2 S.any) (l₀ := .ref C :: bm) (fun A Q E s k q => wpAny_bind ((looks_clsIn X2 hcls) A _ E s k (wpAny_pure q))) rfl X2 hsup (I2.type.andThen (looks_subIn X2 S.ve)) (ks_ne X2 I2 hcls) (by decide) ?_
  refine kxs_callWith (i := initId) (x := a) rfl (evalArgs_plain (Calls.spliced_cons (Calls.Constant_str (k := j) (pos := p3) (Calls.spliced_nil ⟨?_, ?_⟩))))
  · exact Heap.get?_push_at rfl rfl
  have k23 : ∀ b o, h2.get? b = some o → (h2.push (kxs_mw initId a)).get? b = some o := fun b o e => Heap.get?_push_of_some _ e
  refine call_mwB BF (K := K) (C := C) (e := a) (t0 := t0) (X2.keeps k23) S.T (k23 _ _ x2) (Heap.get?_push_at rfl rfl) (by rw [sizeLine_eq]; simp) (fun h4 t1 k34 x4 => ?_)
  have kAll : ∀ b o, b ≠ a → h1.get? b = some o → h4.get? b = some o := fun b o hb e => k34 b o hb (k23 _ _ (k12 _ _ e))
  have X4 : K.In h4 := fun b o e => by
    have hb : b ≠ a := fun z => by
      have y := (e0.bs b o (e0.mod.kin _ _ e)).2
      rw [z, ea] at y
      cases y
    exact kAll b o hb (X1 _ _ e)
  have La : s.heap.objs.size ≠ a := Nat.ne_of_gt (Heap.lt_size hx)
  have hns4 : h4.Ns s.heap.objs.size (fun x => [(("self" : Str), Value.ref a), (par, u)].reverse.lookup x) := hns.at fun o e => kAll _ o La e
  refine ks_wpAt_execs_cons (ks_wpAt_Assign_Attr (wpAt_of_wpAny (wpAny_Name (wpAny_loadName_local hk hkp hns4 m2 (wpAny_Name (wpAny_loadName_local hk hka hns4 m1 ?_) (by decide))) hdb)))
  refine set_plain X4 (ox := excObj C t1 none .none) (od := none) ⟨x4, rfl, rfl, trivial⟩ S.T.sa ?_
  refine exc_osaB BF X4 x4 hcls (show refsL tl (.ref C :: bm) = true from hbm) rfl S.no (fun h5 tk5 dx k45 dn dne x5 n5 => ?_)
  have kFull : ∀ b o, b ≠ a → s.heap.get? b = some o → h5.get? b = some o := fun b o hb e => k45 b o hb (kAll b o hb (kp b o e))
  have Lt : s.heap.objs.size < h4.objs.size := by
    obtain ⟨oL, es, ep, hL, _⟩ := hns4
    exact Heap.lt_size hL
  have hnd : H dx = none := e0.hok.fresh (Nat.le_of_lt (Nat.lt_of_lt_of_le Lt dn))
  have nd : ∀ {b : Addr} {o : Obj}, s.heap.get? b = some o → b ≠ dx := fun {b o} z => Nat.ne_of_lt (Nat.lt_of_lt_of_le (Nat.lt_trans (Heap.lt_size z) Lt) dn)
  have na : ∀ {b : Addr}, H b = none → b ≠ a := fun {b} n z => by
    rw [z, ea] at n
    cases n
  refine wpAt_of_wpAny (wpAny_execs_nil ?_)
  refine ⟨.non, upd (upd H dx (exd dx [(fld, v)])) a (exo a C (some dx)), rfl, e0.bare, ?_, ?_, rfl, hq dx hnd dne⟩
  · exact {
      keep := fun b o q n _ _ => kFull b o (na n) q
      slot := fun b o q n _ _ => ⟨o.slots, kFull b o (na n) q⟩
      free := fun b o q n _ => by rw [upd_ne (na n), upd_ne (nd q)]; exact n
      there := fun b o q _ => by
        by_cases hb : b = a
        · exact ⟨_, by rw [hb]; exact x5⟩
        · exact ⟨o, kFull b o hb q⟩
      tups := fun b xs q => by rw [upd_ne (at_ne ea q exo_tup), upd_ne (ne_of_none q hnd)]; exact q
      frzs := fun b o v q => by rw [upd_ne (at_ne ea q exo_frz), upd_ne (ne_of_none q hnd)]; exact q
      tbls := fun b ps q => ⟨#[], by rw [upd_ne (at_ne ea q exo_tbl), upd_ne (ne_of_none q hnd), q]; simp⟩ }
  · intro b o q
    by_cases hb : b = a
    · subst hb
      rw [upd_same] at q
      cases q
      exact exo_ok x5
    · rw [upd_ne hb] at q
      by_cases hd : b = dx
      · subst hd
        rw [upd_same] at q
        cases q
        exact exd_ok n5 (relO_put (fs := []) ru fun g => True.intro)
      · rw [upd_ne hd] at q
        exact (e0.hok b o q).stay (fun c v hc z => kFull c v (by
            rcases hc with hc | hc
            · rw [hc]
              exact hb
            · exact at_ne ea hc exo_own) z)
          (fun c hc => by rw [upd_ne (at_ne ea hc exo_own), upd_ne (ne_of_none hc hnd)]; exact hc) (fun c xs hc => by rw [upd_ne (at_ne ea hc exo_tup), upd_ne (ne_of_none hc hnd)]; exact hc)
section
variable {X : Cx} {e : Expr} {es : List Expr} {ta : TA} {p pos : Pos}
/-- C(e, ..), to be raised -/
theorem pmk_oexB {B newId initId : String} {tl : List Value} (BF : BaseF B newId initId tl) {CX : CXT} {x : Str} {C fI : Addr} {k : Nat} {fd : FuncData} {ps : List Str} {sp : Sp} {ds : List Value} {dvs : List V} (T : OexB B newId tl X.K C) (iC : PySem.W.findIn X.K (.ref C) "__init__" = some (some (.ref fI))) (tI : PySem.W.typeIn X.K (.ref fI) = some (.type "function"))
    (F1 : FnOk X.prog X.w X.K X.mg X.base CX k fI fd ps sp) (hr : Room (k + 1) X.A) (hb : Binds X.K fd ps ds) (hd : Vals dvs ds) (hx : Passes CX X (fun _ _ _ => False)) (hg : Gl X x) (hm : X.mg x = some (.ref C)) (ha : PA X (e :: es) ta)
    (hdb : (x == ("__debug__" : Str)) = false := by decide) (he : starEach (e :: es) X.env = (false, eval e X.env) :: starEach es X.env := by rfl) (hpl : (backTo pos (starEach es X.env)).any (·.1) = false := by rfl) :
    PMk X (.Call (.Name x p) (e :: es) [] pos) (tMkO C sp dvs ta) := by
  intro pins s σ H Q I h
  obtain ⟨nm, q, N, bs, bm, sn, sub, ab, col, dd, k0, k1, k2, k3, k5, hC, hbm⟩ := T.cls
  obtain ⟨own, split⟩ := refsL_split hbm
  refine wpAny_Call_Name_kw (ld_glob I hg hm ?_ hdb)
  refine PySem.W.callWith_K (h₀ := X.base) I.ok.mod.kin T.kC (thn (ha.run pos pins s σ H _ I h) ?_) he hpl
  rintro us s1 ⟨vs, H1, I1, r1, hz, q1⟩
  refine ⟨I1.kIn, ?_⟩
  show wpAny _ _ (call (.ref C) us) _ _ _
  obtain ⟨hp, g, dr, tk, os⟩ := s1
  let a : Addr := hp.objs.size + 1
  let hp2 : Heap := (hp.push (PySem.W.kdv_tup us)).push (PySem.HandSPX.excO C hp.objs.size)
  have size : hp.objs.size ≤ a := Nat.le_succ _
  have newA : H1 a = none := I1.hok.fresh size
  have hq := q1 a newA
  have grow : ∀ b o, hp.get? b = some o → hp2.get? b = some o := fun b o e => Heap.get?_push_of_some _ (Heap.get?_push_of_some _ e)
  have hget : hp2.get? a = some (PySem.HandSPX.excO C hp.objs.size) := by
    show ((hp.push (PySem.W.kdv_tup us)).push (PySem.HandSPX.excO C hp.objs.size)).get? (hp.objs.size + 1) = _
    heap_get
  have I2 : Inv X pins σ (upd H1 a (exo a C none)) ⟨hp2, g, dr, tk, os⟩ := I1.laid (t' := tk) (a := a) (o := exo a C none) (h' := hp2) grow size (exo_ok hget)
  have r2 : Vals (V.ref a :: (vs ++ dvs)) (Value.ref a :: (us ++ ds)) := .cons rfl (r1.append hd)
  have hl : (Value.ref a :: us ++ ds).length = ps.length := by
    have len := r2.length
    rw [F1.len _ _ _ _ hq] at len
    exact len.symm
  have hus : us.length ≤ sizeLine := by
    rw [← Paired.length r1, sizeLine_eq]
    omega
  refine wpAny_call (PySem.HandSPX.call_own BF.fb (fun Y => by rw [split]; exact contains_refs Y tl own) (I1.kIn _ _ hC) (PySem.W.looks_findIn I1.kIn iC) (fun self => PySem.W.bind_fn I1.kIn self tI) hus
    (codeAny_mono (F1.run _ X.stack _ _ ⟨Value.ref a :: us, []⟩ (Value.ref a :: (us ++ ds)) _ _ (fun _ _ _ => False) (hr.make C us []) (I2.env0.make C us []) (hb _ (Value.ref a :: us) I2.kIn hl) r2 hq) ?_))
  intro r s' hq'
  match r, hq' with
  | .error er, hq' => exact hx pins σ _ _ er s' I2 hq'
  | .ok .next, hq' => exact hq'.elim
  | .ok .brk, hq' => exact hq'.elim
  | .ok .cont, hq' => exact hq'.elim
  | .ok (.ret u), hq' =>
    obtain ⟨v, H2, os2, bare2, un2, hok2, rv, ev, d, fs, ea, ed, hd1, q2⟩ := hq'
    subst ev
    obtain ⟨h2, g2, d2, t2, os'⟩ := s'
    exact ⟨rv, mk_end (raises_own T.exC T.tyC) I1 size grow un2 hok2 os2 bare2 ea ed hd1 q2⟩
end
end VL

/-! VLX1: raise of own exceptions -/
namespace VL
open PySem L2
/-- an own exception class with __init__(self, p) over super() -/
structure Xc (P : Program) (w : World) (K : Kt) (mg : Str → Option Value) (base : Heap) (x : Str) (cn : Nat) (fld : Str) : Prop where
  ex : ∃ (B newId initId : String) (tl : List Value) (f : Addr) (fd : FuncData) (ps : List Str), BaseF B newId initId tl ∧ mg x = some (.ref (K.κ cn)) ∧ OexB B newId tl K.K (K.κ cn) ∧ PySem.W.findIn K.K (.ref (K.κ cn)) "__init__" = some (some (.ref f)) ∧ PySem.W.typeIn K.K (.ref f) = some (.type "function") ∧ Binds K.K fd ps [] ∧ FnOk P w K.K mg base (L2.CX P w) 1 f fd ps (spSup (K.κ cn) fld)
def sRaise (cn : Nat) (fld : Str) (fe : Ex) : Sx := fun st => thenS (fe st) st.env fun d st' => .ex ⟨cn, [fld], [d]⟩ st'
theorem tX_mono {α β : Type} {R : Kt → List Addr → Hp → α → β → Prop} {G : Gx} {W : WX} {f : S → Out α} {σ : St} {H : Hp} {Q Q' : β → Hp → Prop} (h : tX R G W f σ H Q) (m : ∀ v H, Q v H → Q' v H) : tX R G W f σ H Q' := by
  obtain ⟨ρ, F, st, r, p⟩ := h
  refine ⟨ρ, F, st, r, ?_⟩
  cases e : f st with
  | ok a cs =>
    rw [e] at p
    exact fun ρ' F' H' v x r rv => m _ _ (p ρ' F' H' v x r rv)
  | ex a cs =>
    rw [e] at p
    exact p
  | no =>
    rw [e] at p
    exact p
section
variable {X : Cx} {G : Gx} {W : WX} {e : Expr} {fe : Ex} {x fld : Str} {cn : Nat} {p pos pos' : Pos}
theorem pmk_raise (d : Xc X.prog X.w G.K X.mg X.base x cn fld) (hK : X.K = G.K.K) (tk : Takes X W) (hr : Room 2 X.A) (he : PE X e (tE G W fe)) (hg : Gl X x := by rfl) (hdb : (x == ("__debug__" : Str)) = false := by decide) (hs : starEach [e] X.env = (false, eval e X.env) :: starEach [] X.env := by rfl) :
    PMk X (.Call (.Name x p) [e] [] pos) (fun σ H Q => tE G W fe σ H fun v H1 => ∀ dx, H1 dx = none → Q (.ref (G.K.κ cn)) (some dx) (upd H1 dx (.xd [(fld, v)]))) := by
  obtain ⟨B, newId, initId, tl, f, fd, ps, bf, h1, h2, h3, h4, h5, h6⟩ := d.ex
  rw [← hK] at h2 h3 h4 h5 h6
  have m := pmk_oexB bf (p := p) (pos := pos) (dvs := []) (ds := []) h2 h3 h4 h6 hr h5 .nil (passes_call tk (fun _ _ _ _ z => z.elim)) hg h1 (pa_cons he pa_nil hs) hdb hs (by rfl)
  intro pins s σ H Q I h
  refine m pins s σ H Q I ?_
  refine tX_mono h ?_
  intro v H1 q
  refine ⟨by simp, fun a ha => ⟨a, v, rfl, upd_same, fun dx hd ne => ⟨rfl, dx, [(fld, v)], upd_same, ?_, ?_, ?_⟩⟩⟩
  · rw [upd_ne ne, upd_same]
  · rw [upd_ne ne] at hd
    exact hd
  · rw [upd_ne ne] at hd
    have e : upd (del (upd (upd (upd H1 a (exo a (G.K.κ cn) none)) dx (exd dx [(fld, v)])) a (exo a (G.K.κ cn) (some dx))) a) dx (.xd [(fld, v)]) = upd H1 dx (.xd [(fld, v)]) := by
      funext b
      by_cases hb : b = dx
      · rw [hb, upd_same, upd_same]
      · rw [upd_ne hb, upd_ne hb]
        by_cases ha' : b = a
        · rw [ha', del_same, ha]
        · rw [del_ne ha', upd_ne ha', upd_ne hb, upd_ne ha']
    rw [e]
    exact q dx hd
theorem ds_raise (d : Xc X.prog X.w G.K X.mg X.base x cn fld) (hK : X.K = G.K.K) (hc : X.calm = true) (tk : Takes X W) (hr : Room 2 X.A) (he : PE X e (tE G W fe)) (hg : Gl X x := by rfl) (hdb : (x == ("__debug__" : Str)) = false := by decide) (hs : starEach [e] X.env = (false, eval e X.env) :: starEach [] X.env := by rfl) :
    PS X (.Raise (some (.Call (.Name x p) [e] [] pos)) none pos') (tS G W (sRaise cn fld fe)) := by
  refine (ps_raise hc tk (pmk_raise (p := p) (pos := pos) d hK tk hr he hg hdb hs)).impV fun D σ H ⟨ρ, F, st, r, p⟩ => seqS (f := fe) r p fun ρ1 F1 H1 x c1 v x1 r1 rv1 p1 dx hd => ?_
  obtain ⟨x2, r2⟩ := r1.fresh (o := .xd [(fld, v)]) hd
  exact p1 _ _ σ _ _ _ x2 r2 ⟨rfl, dx, [v], rfl, upd_same, rfl, .cons (rv1.ext x2) .nil⟩
end
end VL

/-! VLX2: try .. except C as e: y = f(e) -/
namespace VL
open PySem L2
/-- an expression of an except suite: the slot i holds the exception at a -/
def tEx (i : Nat) (a : Addr) (t : TE) : TE := fun σ H Q => σ[i]? = some (some (.ref a)) ∧ t σ H Q
/-- the clause's class: which exceptions it takes -/
def Catch (K : Kt) (c : Value) (ct : Nat → Option Bool) : Prop := ∀ C b, ct C = some b → PySem.W.exmOne K.K (.ref (K.κ C)) c = some b
def sTry1 (ct : Nat → Option Bool) (i j : Nat) (fb : Sx) (fx : Exn → Ex) : Sx := fun st => match fb st with
  | .ex e st1 => (match ct e.C with
    | some true => if i < st1.env.length then (match fx e ⟨st1.env.set i none, st1.cs⟩ with
      | .ok d cs => .nx ⟨((st1.env.set i none).set j (some d)).set i none, cs⟩
      | _ => .no) else .no
    | some false => .ex e st1
    | none => .no)
  | o => o
theorem Rel.hide {G : Gx} {ρ : List Addr} {F : Hp} {st : S} {σ : St} {H : Hp} (r : Rel G ρ F st σ H) (i : Nat) (o : Option V) : Rel G ρ F ⟨st.env.set i none, st.cs⟩ (σ.set i o) H := by
  refine ⟨by simpa using r.len, fun j d e => ?_, r.cl, r.cell, r.nd, r.fz, r.sep, r.fr, r.own, r.new, r.old, r.a0⟩
  have e : (st.env.set i none)[j]? = some (some d) := e
  by_cases h : i = j
  · subst h
    rw [List.getElem?_set_self'] at e
    cases q : st.env[i]? with
    | none => rw [q] at e; cases e
    | some o => rw [q] at e; cases e
  · rw [List.getElem?_set_ne h] at e
    rw [List.getElem?_set_ne h]
    exact r.env j d e
section
variable {X : Cx} {G : Gx} {W : WX} {x n y : Str} {c : Value} {i j : Nat} {body : List Stmt} {e : Expr} {np pos pos' pa py' : Pos} {fb : Sx} {fx : Exn → Ex} {ct : Nat → Option Bool}
/-- what the suite's expression gives, for each exception that is taken -/
def SuiteE (X : Cx) (G : Gx) (i : Nat) (e : Expr) (ct : Nat → Option Bool) (fx : Exn → Ex) : Prop :=
  ∀ (a : Addr) (oe : Obj) (cls : Value) (d : Option Addr) (pn : List (Addr × Obj)), Zc cls d oe → (∃ vs, oe.data = .fields vs) →
    PE (X.suite a ((a, oe) :: pn)) e (fun σ H Q => ∃ ex : Exn, ct ex.C = some true ∧ σ[i]? = some (some (.ref a)) ∧ ∃ ρ F st, Rel G ρ F st σ H ∧ XAt G.K ρ F ex cls d ∧ Post RV G W0 ρ F st.env σ Q (fx ex st))
theorem ds_try1 (hK : X.K = G.K.K) (hs : X.stack = X.env :: X.outer) (hf : X.env.frame = some X.env.locals) (hN : X.N.Nodup) (hi : X.N[i]? = some n) (hj : X.N[j]? = some y) (hln : X.env.kindOf n = some .local) (hc : Names X x c) (hct : Catch G.K c ct) (tk : Takes X W)
    (hb : ∀ (W : WX) (pn : List (Addr × Obj)) (xe : Value → Shared → Prop), Takes (X.tr pn xe) W → PassesOwn (model X.prog X.w) X.A X.env xe → PSs (X.tr pn xe) body (tS G W fb))
    (he : SuiteE X G i e ct fx) (hx : Loc X.env.scope y := by first | exact Or.inl rfl | exact Or.inr rfl) (hsw : swapsWith e (some (.Name y py')) pa.line X.env = pure false := by rfl) (hfn : X.fn y = true ∨ X.env.scope.names.lookup y = some .local := by first | exact .inl rfl | exact .inr rfl) :
    PS X (.Try body [.ExceptHandler (some (.Name x np)) (some n) [.Assign [.Name y py'] e pa] pos'] [] [] pos) (tS G W (sTry1 ct i j fb fx)) := by
  have P := ps_try_as (np := np) (pos := pos) (pos' := pos') hs hf hN hi hln hc tk hb (fun a oe cls d pn hz hd => pss_one (ps_set (i := j) (pos := pa) (pos' := py') hN hj hx (he a oe cls d pn hz hd) hsw hfn))
  refine P.impV fun D σ H ⟨ρ, F, st, r, p⟩ => ?_
  refine ⟨ρ, F, st, r, ?_⟩
  unfold sTry1 at p
  cases q : fb st with
  | ex ex st1 =>
    rw [q] at p
    intro ρ1 F1 σ1 H1 cls d x1 r1 xa
    dsimp only at p
    obtain ⟨rfl, hxa⟩ := xa
    cases b : ct ex.C with
    | none => rw [b] at p; exact p.elim
    | some k =>
      rw [b] at p
      refine ⟨k, by rw [hK]; exact hct _ _ b, fun hk a ha => ?_, fun hk => ?_⟩
      · subst hk
        dsimp only at p
        by_cases hli : i < st1.env.length
        rotate_left
        · rw [if_neg hli] at p
          exact p.elim
        rw [if_pos hli] at p
        have r2 := r1.hide i (some (.ref a))
        refine ⟨ex, b, ?_, ρ1, F1, _, r2, ⟨rfl, hxa⟩, ?_⟩
        · have hl : i < σ1.length := by
            rw [← r1.len]
            exact hli
          simp [hl]
        · cases v : fx ex ⟨st1.env.set i none, st1.cs⟩ with
          | ok dv cs =>
            rw [v] at p
            intro ρ2 F2 H2 vv x2 r3 rv
            exact p ρ2 F2 _ H2 (x1.trans x2) ((r3.slot rv).hide i none)
          | ex _ _ => rw [v] at p; exact p.elim
          | no => rw [v] at p; exact p.elim
      · subst hk
        dsimp only at p
        exact p ρ1 F1 σ1 H1 _ d x1 r1 ⟨rfl, hxa⟩
  | nx _ => rw [q] at p; exact p
  | rt _ _ => rw [q] at p; exact p
  | bk _ => rw [q] at p; exact p
  | ct _ => rw [q] at p; exact p
  | no => rw [q] at p; exact p
end
end VL

/-! VLX3: expressions of an except suite -/
namespace VL
open PySem L2
/-- what is known of the suite's exception -/
structure XHere (G : Gx) (cn i : Nat) (a : Addr) (cls : Value) (d : Option Addr) (σ : St) (H : Hp) : Prop where
  slot : σ[i]? = some (some (.ref a))
  cls : cls = .ref (G.K.κ cn)
  dict : ∃ dd fs, d = some dd ∧ H dd = some (.xd fs)
section
variable {X : Cx} {G : Gx} {cn i : Nat} {e e1 e2 c : Expr} {n f x : Str} {p pos p1 p2 : Pos} {ct : Nat → Option Bool} {fx f1 f2 : Exn → Ex} {b b1 b2 : Bool}
theorem xhere_of {ρ : List Addr} {F : Hp} {st : S} {σ : St} {H : Hp} {ex : Exn} {a : Addr} {cls : Value} {d : Option Addr} (r : Rel G ρ F st σ H) (xa : XAt G.K ρ F ex cls d) (hs : σ[i]? = some (some (.ref a))) : XHere G ex.C i a cls d σ H := by
  obtain ⟨h1, dx, vs, h2, h3, _⟩ := xa
  exact ⟨hs, h1, dx, _, h2, r.fz _ _ h3⟩
theorem look_zip {K : Kt} {ρ : List Addr} {F : Hp} {f : Str} : ∀ {ks : List Str} {ds : List D} {vs : List V} {d : D}, lookD f ks ds = some d → RVs K ρ F ds vs → ∃ v, (ks.zip vs).lookup f = some v ∧ RV K ρ F d v
  | [], _, _, _, h, _ => by cases h
  | _ :: _, [], _, _, h, _ => by cases h
  | k :: ks, x :: ds, _, d, h, .cons (v := v) (vs := vs) rv r => by
    have h : (if f = k then some x else lookD f ks ds) = some d := h
    by_cases q : f = k
    · rw [if_pos q] at h
      cases h
      exact ⟨v, by rw [q]; simp [List.lookup], rv⟩
    · rw [if_neg q] at h
      obtain ⟨v', e1, e2⟩ := look_zip h r
      have z : (f == k) = false := by simpa using q
      exact ⟨v', by simp [List.lookup, z, e1], e2⟩
/-- e.f -/
theorem se_fld (hK : X.K = G.K.K) (T : XfC G.K.K (G.K.κ cn)) (hno : PySem.W.findIn G.K.K (.ref (G.K.κ cn)) f = some none) (only : ∀ C, ct C = some true → C = cn) (hv : ∀ a pn, PE (X.suite a pn) (.Name n p) (tVar i)) (hb : attributeBase (.Name n p) f X.env (eval (.Name n p) X.env) = eval (.Name n p) X.env := by rfl) :
    SuiteE X G i (.Attribute (.Name n p) f pos) ct (fun ex st => match lookD f ex.ks ex.ds with
      | some d => .ok d st.cs
      | none => .no) := by
  intro a oe cls d pn hz hd
  refine (pe_xf (pos := pos) (hK ▸ T) (hK ▸ hno) hz hd (hv a _) hb).impV ?_
  rintro σ H Q ⟨ex, hc, hs, ρ, F, st, r, xa, po⟩
  have ec := only _ hc
  refine ⟨.ref a, hs, rfl, ?_, ?_⟩
  · rw [xa.1, ec]
  obtain ⟨_, dx, vs, h2, h3, h4, h5⟩ := xa
  dsimp only at po
  cases q : lookD f ex.ks ex.ds with
  | none => rw [q] at po; exact po.elim
  | some dv =>
    rw [q] at po
    obtain ⟨v, l1, l2⟩ := look_zip q h5
    exact ⟨dx, _, v, h2, r.fz _ _ h3, l1, po ρ F H v Ext.refl r l2⟩
/-- a written text -/
theorem se_str {s : Str} {j : Nat} : SuiteE X G i (.Constant (.str s) j pos) ct (fun _ st => .ok (.str s) st.cs) := by
  intro a oe cls d pn hz hd
  refine (pe_str (x := s)).impV ?_
  rintro σ H Q ⟨ex, hc, hs, ρ, F, st, r, xa, po⟩
  exact po ρ F H _ Ext.refl r (.str _)
/-- a test whose answer hangs on the class alone -/
def SuiteB (X : Cx) (G : Gx) (cn i : Nat) (e : Expr) (b : Bool) : Prop :=
  ∀ (a : Addr) (oe : Obj) (cls : Value) (d : Option Addr) (pn : List (Addr × Obj)), Zc cls d oe → (∃ vs, oe.data = .fields vs) →
    PT (X.suite a ((a, oe) :: pn)) e (fun σ H Q => XHere G cn i a cls d σ H ∧ Q b H)
theorem se_if (hc : SuiteB X G cn i c b) (only : ∀ C, ct C = some true → C = cn) (h1 : SuiteE X G i e1 ct f1) (h2 : SuiteE X G i e2 ct f2) : SuiteE X G i (.IfExp c e1 e2 pos) ct (if b then f1 else f2) := by
  intro a oe cls d pn hz hd
  refine (pe_ifExp (hc a oe cls d pn hz hd) (h1 a oe cls d pn hz hd) (h2 a oe cls d pn hz hd)).impV ?_
  rintro σ H Q ⟨ex, hct, hs, ρ, F, st, r, xa, po⟩
  have xh := xhere_of (i := i) r xa hs
  rw [only _ hct] at xh
  refine ⟨xh, ?_⟩
  cases b with
  | true => exact ⟨ex, hct, hs, ρ, F, st, r, xa, po⟩
  | false => exact ⟨ex, hct, hs, ρ, F, st, r, xa, po⟩
theorem sb_not (h : SuiteB X G cn i c b) : SuiteB X G cn i (.UnaryOp .Not c pos) (!b) := fun a oe cls d pn hz hd => (pt_not (h a oe cls d pn hz hd)).impV fun σ H Q h => h
theorem sb_and (h1 : SuiteB X G cn i e1 b1) (h2 : SuiteB X G cn i e2 b2) : SuiteB X G cn i (.BoolOp .And [e1, e2] pos) (b1 && b2) := by
  intro a oe cls d pn hz hd
  refine (pw_and (h1 a oe cls d pn hz hd) (pw_and1 (h2 a oe cls d pn hz hd))).pt.impV ?_
  rintro σ H Q ⟨xh, q⟩
  refine ⟨xh, ?_⟩
  cases b1 with
  | true => exact ⟨xh, q⟩
  | false => exact q
/-- isinstance(e, C) -/
def rIsE2 (K : PySem.W.Frag) (D a : Addr) (cls : Value) (d : Option Addr) : List V → Hp → VK → Prop := fun xs H Q => ∃ (c : V) (cv : Value) (b : Bool), xs = [.ref a, c] ∧ (∀ u, RelV c u → u = cv) ∧ PySem.W.kitOne K (.ref D) cv = some b ∧ cls = .ref D ∧ (∃ dd fs, d = some dd ∧ H dd = some (.xd fs)) ∧ Q (.bl b) H
theorem call_isE2 {a D : Addr} {oe : Obj} {cls : Value} {d : Option Addr} {pn : List (Addr × Obj)} (C : ExcC X.K D) (hz : Zc cls d oe) (hf : ∃ vs, oe.data = .fields vs) : CallR (X.suite a ((a, oe) :: pn)) (.builtin "isinstance") (rIsE2 X.K D a cls d) := by
  intro pins s σ H xs us Q I r h
  obtain ⟨c, cv, b, rfl, hcv, e, rfl, ⟨dd, fs, rfl, ed⟩, q⟩ := h
  cases r with
  | cons rx rr =>
    cases rr with
    | cons rt rr =>
      cases rr
      cases rx
      have ec := hcv _ rt
      subst ec
      have hget := (I.pin (a, oe) (List.mem_append.mpr (.inl List.mem_cons_self))).1
      obtain ⟨vs, hv⟩ := hf
      have hx : ObjOk X.prog X.w H s.heap dd (.xd fs) := I.hok dd _ ed
      obtain ⟨mA, hns, _⟩ := hx
      obtain ⟨od, ho, _⟩ := lookIn_ns hns
      have J : PySem.W.InstAt s.heap a oe D (some od) := ⟨hget, hz.1, by unfold PySem.W.notCls; rw [hv] <;> rfl, by rw [hz.2]; exact ho⟩
      obtain ⟨cdD, hcD, _⟩ := PySem.W.any_some C.hd
      exact PySem.W.kia_one (PySem.W.kitx_exc (od := some od) (by rw [hcD]; rfl) C.hg C.hk C.hs C.ha C.hn C.ht C.hm) I.kIn J e (fun z => nomatch z) fun tk => ⟨.bl b, H, I.kept (t' := tk) fun _ _ z => z, rfl, q⟩
theorem sb_isi {D2 : Addr} (hK : X.K = G.K.K) (T : ExcC G.K.K (G.K.κ cn)) (hg : Gl X "isinstance") (hm : X.mg "isinstance" = none) (hgx : Gl X x) (hmx : X.mg x = some (.ref D2)) (hk : PySem.W.kitOne G.K.K (.ref (G.K.κ cn)) (.ref D2) = some b) (hv : ∀ a pn, PE (X.suite a pn) (.Name n p) (tVar i))
    (hd : (x == ("__debug__" : Str)) = false := by decide) (hs : starEach [.Name n p, .Name x p2] X.env = (false, eval (.Name n p) X.env) :: starEach [.Name x p2] X.env := by rfl) (hpl : (backTo pos (starEach [.Name x p2] X.env)).any (·.1) = false := by rfl) (hs2 : starEach [.Name x p2] X.env = (false, eval (.Name x p2) X.env) :: starEach [] X.env := by rfl)
    (he : ∀ whole, isTrue (.Call (.Name "isinstance" p1) [.Name n p, .Name x p2] [] pos) X.env whole = (do let v ← whole; standAt (Expr.Call (.Name "isinstance" p1) [.Name n p, .Name x p2] [] pos).pos; holding [v] (truthy v)) := by intro _; rfl) :
    SuiteB X G cn i (.Call (.Name "isinstance" p1) [.Name n p, .Name x p2] [] pos) b := by
  intro a oe cls d pn hz hf
  have hT : PE (X.suite a ((a, oe) :: pn)) (.Name x p2) (tC (.ref D2)) := pe_glob hgx hmx rfl hd
  have P := pe_callB (p := p1) (pos := pos) (call_isE2 (a := a) (pn := pn) (hK ▸ T) hz hf) hg hm PyProof.Rows.Boot.«isinstance» (pa_cons (hv a _) (pa_cons hT pa_nil hs2) hs) (he := hs) (hpl := hpl)
  refine (pt_truth P he).impV ?_
  rintro σ H Q ⟨xh, q⟩
  refine ⟨.ref a, xh.slot, ?_⟩
  refine ⟨.ref D2, .ref D2, b, rfl, fun u hu => ?_, by rw [hK]; exact hk, xh.cls, xh.dict, ?_⟩
  · exact hu
  · exact ⟨b, rfl, q⟩
end
end VL

/-! VTM: try with several clauses that name the exception -/
namespace VL
open PySem PySem.Spec PyProof.Rows L2
abbrev Clause := Value × (Addr → Value → Option Addr → TS)
/-- what the clauses wish, from the first on: slot i is the name's -/
def wNamed (K : PySem.W.Frag) (i : Nat) (Wout : WX) (D : Ends) : List Clause → WX
  | [] => Wout
  | (c, ts) :: r => wAs K c i ts (wNamed K i Wout D r) D
inductive Named (X : Cx) (n : Str) : List ExceptHandler → List Clause → Prop
  | nil : Named X n [] []
  | cons {x : Str} {c : Value} {ts : Addr → Value → Option Addr → TS} {s0 : Stmt} {ss : List Stmt} {np hp : Pos} {hs : List ExceptHandler} {l : List Clause} (hc : Names X x c)
      (hsu : ∀ (a : Addr) (oe : Obj) (cls : Value) (d : Option Addr) (pn : List (Addr × Obj)), Zc cls d oe → (∃ vs, oe.data = .fields vs) → PSs (X.suite a ((a, oe) :: pn)) (s0 :: ss) (ts a cls d)) (r : Named X n hs l) :
      Named X n (.ExceptHandler (some (.Name x np)) (some n) (s0 :: ss) hp :: hs) ((c, ts) :: l)
section
variable {X : Cx} {n : Str} {i : Nat} {body : List Stmt} {h0 : ExceptHandler} {hds : List ExceptHandler} {l : List Clause} {pos : Pos} {tb : WX → TS} {Wout : WX}
theorem ps_try_named (hs : X.stack = X.env :: X.outer) (hf : X.env.frame = some X.env.locals) (hN : X.N.Nodup) (hi : X.N[i]? = some n) (hln : X.env.kindOf n = some .local) (tk : Takes X Wout)
    (hb : ∀ (W : WX) (pn : List (Addr × Obj)) (xe : Value → Shared → Prop), Takes (X.tr pn xe) W → PassesOwn (model X.prog X.w) X.A X.env xe → PSs (X.tr pn xe) body (tb W))
    (hh : Named X n (h0 :: hds) l) : PS X (.Try body (h0 :: hds) [] [] pos) (fun D σ H => tb (wNamed X.K i Wout D l) D σ H) := by
  constructor
  intro pins s σ H D I h
  have ok := I.ok
  have frames : X.A.frames = some (X.env :: X.outer) := ok.frames.trans (by rw [hs])
  refine wpAny_Try_except ?_
  let after : Value → Shared → Prop := fun e s₁ => wpAny (model X.prog X.w) X.A (noteFrame e X.env) (fun _ s₂ => wpAny (model X.prog X.w) X.A (setFlight e none) (fun _ s₃ =>
    wpAny (model X.prog X.w) X.A (handleBy e X.env (h0 :: hds)) (SP X pins D) X.xe s₃) X.xe s₂) X.xe s₁
  have caught : Takes (X.tr (X.pn ++ pins) after) (wNamed X.K i Wout D l) := by
    intro u s' xx
    obtain ⟨a, B, sI, pins', σ', H', cls, d, rfl, J', nb, up, sky, na, os, ag, w⟩ := xx
    have J : Inv X pins σ' H' sI := J'.ofTry ok
    rw [show (X.tr (X.pn ++ pins) after).stack = X.env :: X.outer from hs] at sky
    show wpAny (model X.prog X.w) X.A (noteFrame (.ref a) X.env) _ _ _
    refine Sky.land Zc.steady frames hf sky ?_
    intro h3 fl3 up3
    have J3 : Inv X pins σ' H' { s' with heap := h3 } := J.landed nb fl3.1 (up.trans up3) os ag
    obtain ⟨oe3, vs3, he3, hz3, hd3⟩ := fl3.there
    have outside : a ∉ frs (X.env :: X.outer) := by
      intro hm
      obtain ⟨_, o', e', hnf⟩ := fl3.2.2.1.mem hm
      have z := he3.symm.trans e'
      cases z
      exact hnf _ hd3
    have nL : a ≠ X.env.locals := by
      intro z
      refine outside (List.mem_filterMap.mpr ⟨X.env, List.mem_cons_self, ?_⟩)
      rw [hf, z]
    have nF : a ∉ X.fs := by
      intro hm
      obtain ⟨e, he, q⟩ := List.mem_filterMap.mp hm
      exact outside (List.mem_filterMap.mpr ⟨e, List.mem_cons_of_mem _ he, q⟩)
    have S3 := J3.suite he3 hd3 na nL nF
    have go : ∀ {hs' : List ExceptHandler} {l' : List Clause}, Named X n hs' l' → wNamed X.K i Wout D l' cls d σ' H' →
        wpAny (model X.prog X.w) X.A (handleBy (.ref a) X.env hs') (SP X pins D) X.xe { s' with heap := h3 } := by
      intro hs' l' hk
      induction hk with
      | nil =>
        intro w
        refine wpAny_handleBy_nil ?_
        obtain ⟨k1, k2, k3, oe, vs, T, oT, ts', he, hz, hd, h1, hr⟩ := id fl3
        unfold PySem.passOn
        refine wpAny_bind (wpAny_field he hd h1 ?_)
        have hT : ¬ ((Value.ref T == Value.none) = true) := by simp
        rw [if_neg hT]
        have last : wpAny (model X.prog X.w) X.A (setFlight (.ref a) X.env.frame) (fun _ s4 => wpAny (model X.prog X.w) X.A (throw (.ref a) : Sem Flow) (SP X pins D) X.xe s4) X.xe { s' with heap := h3 } := by
          rw [hf]
          refine HandSPX.setFlight_upZ fl3 ?_
          intro h4 hh4 up4
          refine wpAny_throw (tk _ _ ⟨a, B, sI, pins, σ', H', cls, d, rfl, J, nb, (up.trans up3).trans up4, .inr (.inr ?_), na, os, ag, w⟩)
          rw [hs]
          exact hh4
        first
          | exact wpAny_bind (wpAny_pure (wpAny_bind last))
          | exact wpAny_bind last
      | @cons x c ts s0 ss np hp hs2 l2 hc hsu r ih =>
        intro w
        obtain ⟨b, hb1, hyes, hno⟩ := w
        refine wpAny_handleBy_cons (codeAny_handlers_test ?_) (fun q => nomatch q)
        have look : PySem.W.Looks (model X.prog X.w) h3 (typeOf (.ref a)) cls := by
          intro A Q E s k q
          refine wpAny_typeOf_ref (k _ _ he3) ?_
          rw [hz3.1]
          exact q
        have asked := PySem.W.exm_one (M := model X.prog X.w) J3.kIn look hb1
        have named : ∀ {Q : Value → Shared → Prop} {E : Value → Shared → Prop}, Q c { s' with heap := h3 } → wpAny (model X.prog X.w) (X.A.mark (some (.ref a))) (eval (.Name x np) X.env) Q E { s' with heap := h3 } := by
          intro Q E q
          obtain ⟨hg, hdbg, hm | ⟨hm, hv, hnn⟩⟩ := hc
          · exact ld_glob (X := X.suite a ((a, oe3) :: (X.pn ++ pins))) S3 hg hm q hdbg
          · exact ld_blt (X := X.suite a ((a, oe3) :: (X.pn ++ pins))) S3 hg hm hv q hnn hdbg
        refine named (asked.here ?_)
        cases b with
        | false => exact ih (hno rfl)
        | true =>
          refine codeAny_handlers_suite_as ?_
          refine HandSPX.lands_againZ fl3 ?_
          intro h4 fl4 up4
          have J4 : Inv X pins σ' H' { s' with heap := h4 } := J.landed nb fl4.1 ((up.trans up3).trans up4) os ag
          obtain ⟨oe4, vs4, he4, hz4, hd4⟩ := fl4.there
          have S4 := J4.suite he4 hd4 na nL nF
          refine store_ok (X := X.suite a ((a, oe4) :: (X.pn ++ pins))) (v := .ref a) S4 hN hi (.inl hln) rfl (fun s5 S5 => ?_) (.inr hln)
          refine wpAny_mono ((hsu a oe4 cls d (X.pn ++ pins) hz4 ⟨_, hd4⟩).run [] s5 _ H' _ S5 (hyes rfl a na)) (fun f s6 hsp => ?_) (fun _ _ z => False.elim z)
          have gone : ∀ {σ6 : L2.St} {H6 : Hp} {Q : Shared → Prop}, Inv (X.suite a ((a, oe4) :: (X.pn ++ pins))) [] σ6 H6 s6 → (∀ s7, Inv X pins (σ6.set i none) H6 s7 → Q s7) →
              wpAny (model X.prog X.w) X.A (do bindName X.env n .none; unbindBehindTheSuite X.env n hp) (fun _ s7 => Q s7) X.xe s6 := by
            intro σ6 H6 Q S6 hq
            exact gone_ok (S6.unsuite ok) hN hi hln hq
          match f, hsp with
          | .next, ⟨σ6, H6, S6, q6⟩ => exact gone S6 fun s7 J7 => ⟨_, _, J7, q6⟩
          | .brk, ⟨σ6, H6, S6, q6⟩ => exact gone S6 fun s7 J7 => ⟨_, _, J7, q6⟩
          | .cont, ⟨σ6, H6, S6, q6⟩ => exact gone S6 fun s7 J7 => ⟨_, _, J7, q6⟩
          | .ret u, ⟨v6, σ6, H6, S6, r6, q6⟩ => exact gone S6 fun s7 J7 => ⟨_, _, _, J7, r6, q6⟩
    exact go hh w
  refine wpAny_mono ((hb (wNamed X.K i Wout D l) (X.pn ++ pins) after caught PassesOwn.looking).run [] s σ H D (I.toTry _) h) (fun f s1 hsp => ?_) (fun e s1 he => he)
  match f, hsp with
  | .next, ⟨σ', H', J', q⟩ => exact wpAny_execs_nil ⟨σ', H', J'.ofTry ok, q⟩
  | .brk, ⟨σ', H', J', q⟩ => exact ⟨σ', H', J'.ofTry ok, q⟩
  | .cont, ⟨σ', H', J', q⟩ => exact ⟨σ', H', J'.ofTry ok, q⟩
  | .ret u, ⟨v, σ', H', J', r, q⟩ => exact ⟨v, σ', H', J'.ofTry ok, r, q⟩
end
end VL

/-! VLam: a lambda handed to a def that listens: x(lambda: e) -/
namespace VL
open PySem PySem.Spec PyProof.Rows L2
open LamX (CodeO TabS TabB LamS lamEnv lamCx)
abbrev lamQ (X : Cx) : Str := X.env.qual ++ "<lambda>"
/-- the table has one more code object, or all is as it was -/
def Grown (P : Addr) (q : Str) (c' : Addr) (H H1 : Hp) : Prop := H1 = H ∨ ∃ ps more : Array Value, H P = some (.tbl ps) ∧ H c' = none ∧ TriplesOk (ps ++ more).toList ∧
  (∀ (pos : Pos) (cv : Value), codeAmong pos (ps ++ more).toList = some cv → codeAmong pos ps.toList = some cv ∨ cv = .ref c') ∧ H1 = upd (upd H P (.tbl (ps ++ more))) c' (CodeO c' q)
abbrev lamObj (X : Cx) (params : Arguments) (body : Expr) (scope : Scope) (pm ctv : Value) (c' : Addr) : Obj := PySem.W.kla_obj "<lambda>" (lamQ X) params body scope (cloFrom X.env.cells scope.names []) pm c' ctv
section
variable {X : Cx} {pins : List (Addr × Obj)} {σ : L2.St} {H : Hp} {s : Shared}
theorem lam_made {c P : Addr} {params : Arguments} {body : Expr} {scope : Scope} {pos : Pos} {E : Value → Shared → Prop} {Q : Value → Shared → Prop} (I : Inv X pins σ H s) (TB : TabB X.base X.mg c P) (hcode : X.env.code = .ref c) (hT : TabS H P (lamQ X))
    (hdef : defaultsOf params X.env = ([], [])) (hfree : ∀ y ∈ scope.names, y.2 = .free → ∃ c, X.env.cells.lookup y.1 = some c)
    (h : ∀ (f c' : Addr) (pm ctv : Value) (H1 : Hp) (s' : Shared), Inv X pins σ H1 s' → Grown P (lamQ X) c' H H1 → s'.heap.get? f = some (lamObj X params body scope pm ctv c') → H1 f = none → f ∉ frs X.stack → H1 c' = some (CodeO c' (lamQ X)) → Q (.ref f) s') :
    wpAny (model X.prog X.w) X.A (eval (.Lambda params body scope pos) X.env) Q E s := by
  obtain ⟨ps, hP, trip, among⟩ := hT
  refine PySem.W.kla_eval hdef ?_
  have built : s.heap.BuiltinsAt X.mg P := TB.bm.keeps I.bk
  have tabP : s.heap.get? P = some { cls := .none, data := .fields ps } := I.hok P _ hP
  have outside : ∀ f, s.heap.objs.size ≤ f → f ∉ frs X.stack := by
    intro f hf z
    rcases List.mem_cons.mp (I.stkSub _ z) with e | e
    · have lt := I.lt
      rw [← e] at lt
      exact absurd hf (Nat.not_le.mpr lt)
    · exact I.nofs hf e
  cases hc : codeAmong pos ps.toList with
  | some cv =>
    obtain ⟨c', rfl, known⟩ := among pos cv hc
    refine PySem.W.kla_makeFunctionHit (mg := X.mg) (c := c) (P := P) (ps := ps) (closure_ok hfree) I.ok.glob (I.mod.glob.keeps I.bk) hcode (TB.code.keeps I.bk) tabP trip hc built ?_
    intro ctv h' tk grow size
    refine h h'.objs.size c' ((X.mg "__name__").getD .none) ctv H _ (I.kept ?_) (.inl rfl) (Heap.get?_push_size _ rfl) (I.hok.fresh size) (outside _ size) known
    intro b o e
    exact Heap.get?_push_of_some _ (grow b o e)
  | none =>
    refine PySem.W.kla_makeFunction (mg := X.mg) (c := c) (P := P) (ps := ps) (closure_ok hfree) I.ok.glob (I.mod.glob.keeps I.bk) hcode (TB.code.keeps I.bk) tabP trip hc TB.gP built ?_
    intro c' ctv h' tk grow ge lt rec tab'
    obtain ⟨c2, oc, vs, t, e2, hoc, hd, hv⟩ := rec
    cases e2
    have size : s.heap.objs.size ≤ h'.objs.size := Nat.le_trans ge (Nat.le_of_lt lt)
    have newC : H c' = none := I.hok.fresh ge
    have whole : (ps ++ #[rawInt pos.line, rawInt pos.col, Value.ref c']).toList = ps.toList ++ [rawInt pos.line, rawInt pos.col, .ref c'] := by simp
    have I1 := LamX.inv_table (q := lamQ X) (t' := tk) (more := #[rawInt pos.line, rawInt pos.col, .ref c']) (h' := h'.push (lamObj X params body scope ((X.mg "__name__").getD .none) ctv c')) I hP
      (fun b o hb e => Heap.get?_push_of_some _ (grow b o hb e)) (Heap.get?_push_of_some _ tab') ge ⟨oc, vs, t, Heap.get?_push_of_some _ hoc, hd, hv⟩
    refine h h'.objs.size c' ((X.mg "__name__").getD .none) ctv _ _ I1 (.inr ⟨ps, _, hP, newC, ?_, ?_, rfl⟩) (Heap.get?_push_size _ rfl) ?_ (outside _ size) upd_same
    · rw [whole]
      exact PySem.TriplesOk_snoc _ _ _ _ trip
    · intro p' cv q
      rw [whole] at q
      exact LamX.among_app _ trip q
    · have n1 : h'.objs.size ≠ c' := Nat.ne_of_gt lt
      have n2 : h'.objs.size ≠ P := Nat.ne_of_gt (Nat.lt_of_lt_of_le (Heap.lt_size tabP) size)
      rw [upd_ne n1, upd_ne n2]
      exact I.hok.fresh size
end
theorem Takes.byLen {X : Cx} {W : WX} (t : Takes X W) : Takes X (fun c d σ H => σ.length = X.N.length → W c d σ H) := by
  intro u s' x
  obtain ⟨a, B, sI, pins, σ, H, cls, d, e, I, nb, up, sky, na, os, ag, w⟩ := x
  exact t u s' ⟨a, B, sI, pins, σ, H, cls, d, e, I, nb, up, sky, na, os, ag, w I.len⟩
def tLamV (P : Addr) (q : Str) (TT : (XK → Hp → VK → Prop) → Hp → VK → Prop) (t : XK → TE) : TE := fun σ H Q => TabS H P q ∧ ∀ c' H1, Grown P q c' H H1 → TT (fun E H' Q' => t E σ H' Q') H1 Q
section
variable {X : Cx}
/-- x(lambda: body) -/
theorem pe_lamV {TT : (XK → Hp → VK → Prop) → Hp → VK → Prop} {x a : Str} {g c P : Addr} {k : Nat} {pg : Arguments} {bg : List Stmt} {sg : Scope} {dV kV doc pm cdv ct oc : Value} {an od : Option Addr} {osl : Array (Option Value)} {Ng : List Str}
    {params : Arguments} {body : Expr} {scope : Scope} {t : XK → TE} {p lpos pos : Pos} (hg : Gl X x) (hm : X.mg x = some (.ref g)) (hk : PySem.W.keepIn X.K (.ref g) = true)
    (lk : X.K.lookup g = some ⟨oc, od, .func (PySem.W.fnOf x x pg bg sg dV kV doc pm an cdv ct), osl⟩) (hcg : PySem.W.codeIn X.K cdv x = true) (hb : L2.Binds X.K (PySem.W.fnOf x x pg bg sg dV kV doc pm an cdv ct) [a] []) (Sg : FnScope Ng [a] sg) (hNg : Ng[0]? = some a) (hva : Vis sg a)
    (hG : LamX.GivesTo X Ng x sg g cdv bg a (lamQ X) TT) (TB : TabB X.base X.mg c P) (hcode : X.env.code = .ref c) (hr : Room (k + 2) X.A) (L : LamS X.env.scope scope) (hdef : defaultsOf params X.env = ([], []))
    (hbind : ∀ (q : Str) (cl : List (Str × Addr)) (pm cv ctv : Value), bindArgs (PySem.W.kla_fn "<lambda>" q params body scope cl pm cv ctv) ⟨[], []⟩ = pure [])
    (hbody : ∀ (A : Around) (outer : List Env) (s : Shared) (H : Hp) (E : XK) (f c' : Addr), Room k (A.deeper (lamEnv X scope s.heap.objs.size f c')) → PE (lamCx X A outer s H E scope f c') body (t E))
    (hdb : (x == ("__debug__" : Str)) = false := by decide) (hd : (a == ("__debug__" : Str)) = false := by decide) (hcd : (a == ("__classdict__" : Str)) = false := by decide) :
    PE X (.Call (.Name x p) [.Lambda params body scope lpos] [] pos) (tLamV P (lamQ X) TT t) := by
  constructor
  intro pins s σ H Q I ⟨hT, h⟩
  refine wpAny_Call_Name_kw (ld_glob I hg hm ?_ hdb)
  refine PySem.W.callWith_K (h₀ := X.base) I.ok.mod.kin hk ?_ (by rfl) (by rfl)
  show wpAny _ _ (spliced ((false, eval (.Lambda params body scope lpos) X.env) :: backTo pos (starEach [] X.env))) _ _ s
  refine Calls.spliced_cons (lam_made I TB hcode hT hdef (L.has I.ok) ?_)
  intro f c' pm' ctv H1 s' I1 grown hf hfn hfr hco
  refine Calls.spliced_nil ⟨I1.kIn, ?_⟩
  have run : codeAny (model X.prog X.w) X.A (.call (.ref g) ⟨[.ref f], []⟩) (CR C8.CX0 X.stack X.prog X.w H1 s' Q C8.E0) s' := by
    refine LamX.run_ofS (N := Ng) (ps := [a]) (us := [.ref f]) (vs := [.ref f]) lk hcg Sg hr I1.env0 (hb s' [.ref f] I1.kIn rfl) (.cons rfl .nil) rfl ?_
    intro hr'
    have act := fun (W : WX) (pn : List (Addr × Obj)) (xe : Value → Shared → Prop) (E : XK) (p1 p2 : Pos) (tk : Takes ((cxOf C8.CX0 X.prog X.w X.K X.mg X.base Ng x sg g cdv X.A X.stack s' H1 C8.E0).tr pn xe) W) (hW : ∀ cls d σ' H', E cls d H' → W cls d σ' H') =>
      LamX.pe_act (i := 0) (p1 := p1) (p2 := p2) I1 L hf hfn hfr (hbind _ _ _ _ _) tk hW hr' (fun A outer s H hr2 => hbody A outer s H E f c' hr2) hNg hva hd hcd
    obtain ⟨t', ht', hq'⟩ := hG f c' s' H1 Q (fun E H' Q' => t E σ H' Q') act hco (h c' H1 grown)
    exact ⟨t', ht'.nox, hq'⟩
  refine wpAny_call (codeAny_mono run ?_)
  intro r s2 hq
  match r, hq with
  | .error e, hq => exact (show False from hq).elim
  | .ok (.ret u), hq => exact I1.after hq
  | .ok .next, hq => exact hq.elim
  | .ok .brk, hq => exact hq.elim
  | .ok .cont, hq => exact hq.elim
end
end VL

/-! VLan: a def that listens: found = v0; try: work() / except C as e: found = f(e) / ..; return found -/
namespace VL
open PySem PySem.Spec PyProof.Rows L2
open LamX (CodeO TabS TabB LamS lamEnv lamCx)
abbrev HC := (Nat → Option Bool) × (Exn → Ex)
def hearC (n : Nat) : List HC → Exn → List Cell → Out D
  | [], _, _ => .no
  | (ct, fx) :: r, e, cs => match ct e.C with
    | some true => (match fx e ⟨List.replicate n none, cs⟩ with
      | .ok d c => .ok d c
      | _ => .no)
    | some false => hearC n r e cs
    | none => .no
def hearD (n : Nat) (v0 : D) (l : List HC) : Out D → Out D
  | .ok _ cs => .ok v0 cs
  | .ex e cs => hearC n l e cs
  | .no => .no
/-- the first cell is the table k of the name q -/
def tblAt (k : Nat) (q : Str) : List Cell → Bool
  | .tbl n q' :: _ => decide (n = k) && decide (q' = q)
  | _ => false
def eHear (k : Nat) (q : Str) (n : Nat) (v0 : D) (l : List HC) (fe : Ex) : Ex := fun st => if tblAt k q st.cs then hearD n v0 l (fe st) else .no
theorem Rel.blank {G : Gx} {ρ : List Addr} {F : Hp} {st : S} {σ : L2.St} {H : Hp} (r : Rel G ρ F st σ H) (σ2 : L2.St) (n : Nat) (h : σ2.length = n) : Rel G ρ F ⟨List.replicate n none, st.cs⟩ σ2 H := by
  refine ⟨by rw [List.length_replicate]; exact h.symm, fun i d e => ?_, r.cl, r.cell, r.nd, r.fz, r.sep, r.fr, r.own, r.new, r.old, r.a0⟩
  have e : (List.replicate n (none : Option D))[i]? = some (some d) := e
  rw [List.getElem?_replicate] at e
  split at e <;> cases e
inductive ClsOk (X : Cx) (G : Gx) (n y : Str) (i : Nat) : List ExceptHandler → List HC → Prop
  | nil : ClsOk X G n y i [] []
  | cons {x : Str} {c : Value} {ct : Nat → Option Bool} {fx : Exn → Ex} {e : Expr} {np py' pa hp : Pos} {hs : List ExceptHandler} {l : List HC} (hc : Names X x c) (hct : Catch G.K c ct) (he : SuiteE X G i e ct fx) (hsw : swapsWith e (some (.Name y py')) pa.line X.env = pure false) (r : ClsOk X G n y i hs l) :
      ClsOk X G n y i (.ExceptHandler (some (.Name x np)) (some n) [.Assign [.Name y py'] e pa] hp :: hs) ((ct, fx) :: l)
section
variable {X : Cx} {G : Gx} {n y : Str} {i j : Nat}
theorem clauses_of (hK : X.K = G.K.K) (hN : X.N.Nodup) (hj : X.N[j]? = some y) (hy : Loc X.env.scope y) (hfn : X.fn y = true ∨ X.env.scope.names.lookup y = some .local) (hij : i ≠ j) (hjn : j < X.N.length) (hin : i < X.N.length) {hs : List ExceptHandler} {l : List HC} (h : ClsOk X G n y i hs l) :
    ∃ l' : List Clause, Named X n hs l' ∧ ∀ (D0 : Ends) (Wout : WX) (ex : Exn) (cls : Value) (dx : Option Addr) (ρ : List Addr) (F : Hp) (cs : List Cell) (σ' : L2.St) (H' : Hp), σ'.length = X.N.length → Rel G ρ F ⟨List.replicate X.N.length none, cs⟩ σ' H' → XAt G.K ρ F ex cls dx →
      (match hearC X.N.length l ex cs with
        | .ok d cs' => ∀ ρ2 F2 H2 v σ2, Ext ρ F ρ2 F2 → Rel G ρ2 F2 ⟨[], cs'⟩ [] H2 → RV G.K ρ2 F2 d v → σ2[j]? = some (some v) → D0.nx σ2 H2
        | _ => False) → wNamed X.K i Wout D0 l' cls dx σ' H' := by
  induction h with
  | nil => exact ⟨[], .nil, fun D0 Wout ex cls dx ρ F cs σ' H' _ _ _ p => p.elim⟩
  | @cons x c ct fx e np py' pa hp hs l hc hct he hsw r ih =>
    obtain ⟨l', hn, hw⟩ := ih
    refine ⟨(c, _) :: l', .cons hc (fun a oe cls d pn hz hd => pss_one (ps_set (i := j) (pos := pa) (pos' := py') hN hj hy (he a oe cls d pn hz hd) hsw hfn)) hn, ?_⟩
    intro D0 Wout ex cls dx ρ F cs σ' H' hl rl xa p
    unfold hearC at p
    cases b : ct ex.C with
    | none => rw [b] at p; exact p.elim
    | some k =>
      rw [b] at p
      obtain ⟨ecls, hxa⟩ := id xa
      refine ⟨k, by rw [hK, ecls]; exact hct _ _ b, fun hk a ha => ?_, fun hk => ?_⟩
      · subst hk
        dsimp only at p
        refine ⟨ex, b, ?_, ρ, F, _, rl.blank (σ'.set i (some (.ref a))) X.N.length (by rw [List.length_set]; exact hl), xa, ?_⟩
        · rw [List.getElem?_set_self (by rw [hl]; exact hin)]
        · cases q : fx ex ⟨List.replicate X.N.length none, cs⟩ with
          | ok dv cs2 =>
            rw [q] at p
            intro ρ2 F2 H2 v x2 r2 rv
            refine p ρ2 F2 H2 v _ x2 r2.noenv rv ?_
            rw [List.getElem?_set_ne hij, List.getElem?_set_self]
            rw [List.length_set, hl]
            exact hjn
          | ex _ _ => rw [q] at p; exact p.elim
          | no => rw [q] at p; exact p.elim
      · subst hk
        exact hw D0 Wout ex cls dx ρ F cs σ' H' hl rl xa p
end
abbrev hearCx (X : Cx) (Ng : List Str) (x : Str) (sg : Scope) (g : Addr) (cdg : Value) (s : Shared) (H : Hp) : Cx := (cxOf C8.CX0 X.prog X.w X.K X.mg X.base Ng x sg g cdg X.A X.stack s H C8.E0).nox
/-- what the listener makes of the lambda's reading -/
def TTv (K : Kt) (fe : Ex) (n : Nat) (v0 : D) (l : List HC) : (XK → Hp → VK → Prop) → Hp → VK → Prop := fun tl H Q =>
  ∃ (σL : L2.St) (ρ : List Addr) (F : Hp) (env : List (Option D)) (cs : List Cell), Rel ⟨K, H, F, ρ⟩ ρ F ⟨env, cs⟩ σL H ∧ (∀ E H' Q', (∃ G : Gx, G.K = K ∧ tE G (fun cls d _ H2 => E cls d H2) fe σL H' Q') → tl E H' Q') ∧
    (match hearD n v0 l (fe ⟨env, cs⟩) with
      | .ok d cs' => ∀ ρ' F' H' v, Ext ρ F ρ' F' → Rel ⟨K, H, F, ρ⟩ ρ' F' ⟨[], cs'⟩ [] H' → RV K ρ' F' d v → Q v H'
      | _ => False)
section
variable {X : Cx} {K : Kt} {Ng : List Str} {x a y n : Str} {sg : Scope} {g : Addr} {cdg : Value} {i j : Nat} {e0 : Expr} {v0 : D} {u0 : V} {h0 : ExceptHandler} {hds : List ExceptHandler} {l : List HC} {fe : Ex} {q : Str} {py' pa pc pc2 pe pt pr prr : Pos}
theorem hear_gives (hK : X.K = K.K) (hN : Ng.Nodup) (hj : Ng[j]? = some y) (hi : Ng[i]? = some n) (hij : i ≠ j) (hj0 : j ≠ 0) (hy : sg.names.lookup y = some .local) (hn : sg.names.lookup n = some .local) (hNl : 0 < Ng.length)
    (he0 : ∀ s H, PE (hearCx X Ng x sg g cdg s H) e0 (tC u0)) (hv0 : ∀ ρ F, RV K ρ F v0 u0) (hsw0 : ∀ s H, swapsWith e0 (some (.Name y py')) pa.line (hearCx X Ng x sg g cdg s H).env = pure false) (hdy : (y == ("__debug__" : Str)) = false) (hcy : (y == ("__classdict__" : Str)) = false)
    (hsw1 : ∀ s H, swapsWith (.Call (.Name a pc) [] [] pc2) none pe.line (hearCx X Ng x sg g cdg s H).env = pure false)
    (hcl : ∀ s H (G : Gx), G.K = K → ClsOk (hearCx X Ng x sg g cdg s H) G n y i (h0 :: hds) l) :
    LamX.GivesTo X Ng x sg g cdg [.Assign [.Name y py'] e0 pa, .Try [.Expr (.Call (.Name a pc) [] [] pc2) pe] (h0 :: hds) [] [] pt, .Return (some (.Name y pr)) prr] a q (TTv K fe Ng.length v0 l) := by
  intro f c' s H Q tl act hc ⟨σL, ρ, F, env, cs, r, htl, post⟩
  have hjl : j < Ng.length := (List.getElem?_eq_some_iff.mp hj).1
  have hil : i < Ng.length := (List.getElem?_eq_some_iff.mp hi).1
  obtain ⟨l', named, wish⟩ := clauses_of (X := hearCx X Ng x sg g cdg s H) (G := ⟨K, H, F, ρ⟩) (j := j) hK hN hj (.inl hy) (.inr hy) hij hjl hil (hcl s H ⟨K, H, F, ρ⟩ rfl)
  have tr := ps_try_named (X := hearCx X Ng x sg g cdg s H) (i := i) (pos := pt) (body := [.Expr (.Call (.Name a pc) [] [] pc2) pe])
    (tb := fun (W : WX) (D : Ends) (σ : L2.St) (H2 : Hp) => σ[0]? = some (some (V.ref f)) ∧ H2 c' = some (CodeO c' q) ∧ tl (fun cls d H' => ∀ σ' : L2.St, σ'.length = Ng.length → W cls d σ' H') H2 (fun _ H' => D.nx σ H'))
    rfl rfl hN hi hn LamX.takes0 (fun W pn xe tk _ => pss_one (ps_expr (act (fun c d σ' H' => σ'.length = Ng.length → W c d σ' H') pn xe (fun cls d H' => ∀ σ' : L2.St, σ'.length = Ng.length → W cls d σ' H') pc pc2 (Takes.byLen tk) fun cls d σ' H' h => h σ') (hsw1 s H))) named
  refine ⟨_, pss_cons (ps_set (i := j) (pos := pa) (pos' := py') hN hj (.inl hy) (he0 s H) (hsw0 s H) (.inr hy)) (pss_cons tr (pss_one (ps_ret (pe_var (pos := pr) (i := j) hj (.inl hy) hdy hcy)))), ?_⟩
  have hlen : (L2.start Ng [V.ref f]).length = Ng.length := by
    unfold L2.start
    simp
    omega
  have h00 : (L2.start Ng [V.ref f])[0]? = some (some (V.ref f)) := rfl
  refine ⟨?_, hc, ?_⟩
  · rw [List.getElem?_set_ne hj0]
    exact h00
  refine htl _ _ _ ⟨⟨K, H, F, ρ⟩, rfl, ρ, F, ⟨env, cs⟩, r, ?_⟩
  unfold hearD at post
  cases q1 : fe ⟨env, cs⟩ with
  | no => rw [q1] at post; exact post.elim
  | ok d cs' =>
    rw [q1] at post
    intro ρ' F' H' v x' r' _
    refine ⟨u0, ?_, post ρ' F' H' u0 x' r'.noenv (hv0 _ _)⟩
    rw [List.getElem?_set_self (by rw [hlen]; exact hjl)]
  | ex e cs' =>
    rw [q1] at post
    intro ρ' F' H' cls dx x' r' xa σ' hl
    refine wish _ _ e cls dx ρ' F' cs' σ' H' hl (r'.blank σ' Ng.length hl) xa ?_
    have post : (match hearC Ng.length l e cs' with
      | .ok d cs' => ∀ ρ' F' H' v, Ext ρ F ρ' F' → Rel ⟨K, H, F, ρ⟩ ρ' F' ⟨[], cs'⟩ [] H' → RV K ρ' F' d v → Q v H'
      | _ => False) := post
    show (match hearC Ng.length l e cs' with
      | .ok d cs' => _
      | _ => False)
    cases q2 : hearC Ng.length l e cs' with
    | ok d c2 =>
      rw [q2] at post
      intro ρ2 F2 H2 v σ2 x2 r2 rv h2
      exact ⟨v, h2, post ρ2 F2 H2 v (x'.trans x2) r2 rv⟩
    | ex _ _ => rw [q2] at post; exact post.elim
    | no => rw [q2] at post; exact post.elim
end
/-- the table, one more code object in it -/
theorem Rel.table {G : Gx} {ρ : List Addr} {F : Hp} {st : S} {σ : L2.St} {H H1 : Hp} {k : Nat} {q : Str} {c' : Addr} (r : Rel G ρ F st σ H) (h : tblAt k q st.cs = true) (g : Grown (G.K.κ k) q c' H H1) : ∃ F1, Ext ρ F ρ F1 ∧ Rel G ρ F1 st σ H1 := by
  rcases g with rfl | ⟨ps, more, hP, hc, trip, am, rfl⟩
  · exact ⟨F, Ext.refl, r⟩
  obtain ⟨x1, r1⟩ := r.fresh (o := CodeO c' q) hc
  obtain ⟨env, cs⟩ := st
  match cs, h with
  | .tbl n q' :: rest, h =>
    have h : (decide (n = k) && decide (q' = q)) = true := h
    simp only [Bool.and_eq_true, decide_eq_true_eq] at h
    obtain ⟨rfl, rfl⟩ := h
    have hl : 0 < ρ.length := by rw [r.cl]; simp
    have h0 : ρ[0]? = some ρ[0] := List.getElem?_eq_getElem hl
    obtain ⟨eP, ps0, e1, _, codes⟩ := r.cell 0 _ ρ[0] rfl h0
    have eP : ρ[0] = G.K.κ n := eP
    rw [eP] at h0 e1
    have eps : ps0 = ps := by
      rw [hP] at e1
      cases e1
      rfl
    subst eps
    have nP : G.K.κ n ≠ c' := ne_of_none hP hc
    have same : upd (upd H (G.K.κ n) (.tbl (ps0 ++ more))) c' (CodeO c' q') = upd (upd H c' (CodeO c' q')) (G.K.κ n) (.tbl (ps0 ++ more)) := by
      funext b
      by_cases h1 : b = c'
      · subst h1
        rw [upd_same, upd_ne (fun z => nP z.symm), upd_same]
      · rw [upd_ne h1]
        by_cases h2 : b = G.K.κ n
        · subst h2
          rw [upd_same, upd_same]
        · rw [upd_ne h2, upd_ne h2, upd_ne h1]
    rw [same]
    refine ⟨_, x1, r1.cellSet (n := 0) (c := .tbl n q') h0 ⟨rfl, _, upd_same, trip, fun pos cv hcv => ?_⟩⟩
    rcases am pos cv hcv with z | z
    · obtain ⟨b, w1, w2⟩ := codes pos cv z
      exact ⟨b, w1, x1.fz _ _ w2⟩
    · exact ⟨c', z, upd_same⟩
theorem lamQ_cx {CX : CXT} {P : Program} {w : World} {K : PySem.W.Frag} {mg : Str → Option Value} {base : Heap} {N : List Str} {qual : Str} {sc : Scope} {f : Addr} {cdv : Value} {A : Around} {outer : List Env} {s : Shared} {H : Hp} {E : XK} : lamQ (cxOf CX P w K mg base N qual sc f cdv A outer s H E) = (qual ++ (".<locals>." : Str)) ++ ("<lambda>" : Str) := rfl
/-- what the listener's def must be -/
structure HearD (X : Cx) (K : Kt) (x a : Str) (Ng : List Str) (q : Str) (v0 : D) (l : List HC) : Prop where
  ex : ∃ (g : Addr) (pg : Arguments) (bg : List Stmt) (sg : Scope) (dV kV doc pm cdv ct oc : Value) (an od : Option Addr) (osl : Array (Option Value)),
    X.mg x = some (.ref g) ∧ PySem.W.keepIn X.K (.ref g) = true ∧ X.K.lookup g = some ⟨oc, od, .func (PySem.W.fnOf x x pg bg sg dV kV doc pm an cdv ct), osl⟩ ∧ PySem.W.codeIn X.K cdv x = true ∧ L2.Binds X.K (PySem.W.fnOf x x pg bg sg dV kV doc pm an cdv ct) [a] [] ∧ FnScope Ng [a] sg ∧ Vis sg a ∧
    ∀ fe : Ex, LamX.GivesTo X Ng x sg g cdv bg a q (TTv K fe Ng.length v0 l)
section
variable {X : Cx} {G : Gx} {W : WX} {x a : Str} {Ng : List Str} {v0 : D} {l : List HC} {fe : Ex} {k n : Nat} {c : Addr} {params : Arguments} {body : Expr} {scope : Scope} {p lpos pos : Pos}
/-- x(lambda: body) -/
theorem de_hear (h : HearD X G.K x a Ng (lamQ X) v0 l) (hNg : Ng[0]? = some a) (TB : TabB X.base X.mg c (G.K.κ n)) (hcode : X.env.code = .ref c) (hr : Room (k + 2) X.A) (L : LamS X.env.scope scope) (hdef : defaultsOf params X.env = ([], []))
    (hbind : ∀ (q : Str) (cl : List (Str × Addr)) (pm cv ctv : Value), bindArgs (PySem.W.kla_fn "<lambda>" q params body scope cl pm cv ctv) ⟨[], []⟩ = pure [])
    (hbody : ∀ (G' : Gx), G'.K = G.K → ∀ (A : Around) (outer : List Env) (s : Shared) (H : Hp) (E : XK) (f c' : Addr), Room k (A.deeper (lamEnv X scope s.heap.objs.size f c')) → PE (lamCx X A outer s H E scope f c') body (tE G' (fun cls d _ H2 => E cls d H2) fe))
    {m : Nat} {q : Str} (hm : Ng.length = m) (hq : lamQ X = q) (hg : Gl X x := by rfl) (hdb : (x == ("__debug__" : Str)) = false := by decide) (hd : (a == ("__debug__" : Str)) = false := by decide) (hcd : (a == ("__classdict__" : Str)) = false := by decide) :
    PE X (.Call (.Name x p) [.Lambda params body scope lpos] [] pos) (tE G W (eHear n q m v0 l fe)) := by
  subst hm hq
  obtain ⟨g, pg, bg, sg, dV, kV, doc, pm, cdv, ct, oc, an, od, osl, h1, h2, h3, h4, h5, h6, h7, h8⟩ := h.ex
  have P := pe_lamV (TT := TTv G.K fe Ng.length v0 l) (t := fun E σ H Q => ∃ G' : Gx, G'.K = G.K ∧ tE G' (fun cls d _ H2 => E cls d H2) fe σ H Q) (p := p) (lpos := lpos) (pos := pos) hg h1 h2 h3 h4 h5 h6 hNg h7 (h8 fe) TB hcode hr L hdef hbind
    (fun A outer s H E f c' hr2 => ⟨fun pins s2 σ H2 Q I ⟨G', e, ht⟩ => (hbody G' e A outer s H E f c' hr2).run pins s2 σ H2 Q I ht⟩) hdb hd hcd
  refine P.impV ?_
  rintro σ H Q ⟨ρ, F, st, r, po⟩
  unfold eHear at po
  by_cases ht : tblAt n (lamQ X) st.cs = true
  rotate_left
  · rw [if_neg ht] at po
    exact po.elim
  rw [if_pos ht] at po
  refine ⟨?_, ?_⟩
  · obtain ⟨env, cs⟩ := st
    match cs, ht with
    | .tbl n' q' :: rest, ht =>
      have ht : (decide (n' = n) && decide (q' = lamQ X)) = true := ht
      simp only [Bool.and_eq_true, decide_eq_true_eq] at ht
      obtain ⟨rfl, rfl⟩ := ht
      have hl : 0 < ρ.length := by rw [r.cl]; simp
      have h0 : ρ[0]? = some ρ[0] := List.getElem?_eq_getElem hl
      obtain ⟨eP, ps0, e1, trip, codes⟩ := r.cell 0 _ ρ[0] rfl h0
      have eP : ρ[0] = G.K.κ n' := eP
      rw [eP] at e1
      refine ⟨ps0, e1, trip, fun ps cv hcv => ?_⟩
      obtain ⟨b, w1, w2⟩ := codes ps cv hcv
      exact ⟨b, w1, r.fz _ _ w2⟩
  · intro c' H1 gr
    obtain ⟨F1, x1, r1⟩ := r.table ht gr
    have here : Rel ⟨G.K, H1, F1, ρ⟩ ρ F1 st σ H1 := ⟨r1.len, r1.env, r1.cl, r1.cell, r1.nd, r1.fz, r1.sep, fun _ _ z _ => z, fun _ z => .inl z, fun _ _ z => .inl z, Same.refl _, List.prefix_refl _⟩
    refine ⟨σ, ρ, F1, st.env, st.cs, here, fun E H' Q' z => z, ?_⟩
    cases q2 : hearD Ng.length v0 l (fe st) with
    | ok d cs' =>
      rw [q2] at po
      intro ρ' F' H' v x2 r2 rv
      exact po ρ' F' H' v (x1.trans x2) (r1.after x2 r2) rv
    | ex e cs' =>
      exfalso
      unfold hearD at q2
      cases q3 : fe st with
      | ok _ _ => rw [q3] at q2; cases q2
      | no => rw [q3] at q2; cases q2
      | ex e1 c1 =>
        rw [q3] at q2
        have q2 : hearC Ng.length l e1 c1 = .ex e cs' := q2
        have never : ∀ (l : List HC) (e1 : Exn) (c1 : List Cell), hearC Ng.length l e1 c1 ≠ .ex e cs' := by
          intro l
          induction l with
          | nil => intro e1 c1 z; cases z
          | cons hc l ih =>
            intro e1 c1 z
            unfold hearC at z
            split at z
            · split at z <;> cases z
            · exact ih _ _ z
            · cases z
        exact never _ _ _ q2
    | no => rw [q2] at po; exact po.elim
end
end VL

/-! VLao: pairs in a clause; a law with lambdas, as a whole -/
namespace VL
open PySem PySem.Spec PyProof.Rows L2
open LamX (CodeO TabS TabB LamS lamEnv lamCx)
theorem XAt.ext {K : Kt} {ρ ρ' : List Addr} {F F' : Hp} {e : Exn} {cls : Value} {d : Option Addr} (x : Ext ρ F ρ' F') (h : XAt K ρ F e cls d) : XAt K ρ' F' e cls d := by
  obtain ⟨h1, dx, vs, h2, h3, h4, h5⟩ := h
  exact ⟨h1, dx, vs, h2, x.fz _ _ h3, h4, h5.ext x⟩
def fxT2 (f1 f2 : Exn → Ex) : Exn → Ex := fun ex st => (f1 ex st).bind fun x c1 => (f2 ex ⟨st.env, c1⟩).bind fun y c2 => .ok (.tup [x, y]) c2
section
variable {X : Cx} {G : Gx} {i : Nat} {e1 e2 : Expr} {ct : Nat → Option Bool} {f1 f2 : Exn → Ex} {kk : Nat} {pos : Pos}
theorem se_tup2 (h1 : SuiteE X G i e1 ct f1) (h2 : SuiteE X G i e2 ct f2) (hs : ∀ a pn, starEach [e1, e2] (X.suite a pn).env = (false, eval e1 (X.suite a pn).env) :: starEach [e2] (X.suite a pn).env := by intro _ _; rfl) (hs2 : ∀ a pn, starEach [e2] (X.suite a pn).env = (false, eval e2 (X.suite a pn).env) :: starEach [] (X.suite a pn).env := by intro _ _; rfl) :
    SuiteE X G i (.Tuple [e1, e2] kk pos) ct (fxT2 f1 f2) := by
  intro a oe cls d pn hz hd
  refine (pe_tup (pa_cons (h1 a oe cls d pn hz hd) (pa_cons (h2 a oe cls d pn hz hd) pa_nil (hs2 _ _)) (hs _ _))).impV ?_
  rintro σ H Q ⟨ex, hc, hs, ρ, F, st, r, xa, po⟩
  unfold fxT2 at po
  refine ⟨ex, hc, hs, ρ, F, st, r, xa, ?_⟩
  cases q1 : f1 ex st with
  | no => rw [q1] at po; exact po.elim
  | ex e' c' => rw [q1] at po; exact po
  | ok x c1 =>
    rw [q1] at po
    intro ρ1 F1 H1 v x1 r1 rv1
    refine ⟨ex, hc, hs, ρ1, F1, ⟨st.env, c1⟩, r1, xa.ext x1, ?_⟩
    have po : Post RV G W0 ρ F st.env σ Q ((f2 ex ⟨st.env, c1⟩).bind fun y c2 => .ok (.tup [x, y]) c2) := po
    cases q2 : f2 ex ⟨st.env, c1⟩ with
    | no => rw [q2] at po; exact po.elim
    | ex e' c' =>
      rw [q2] at po
      exact fun ρ2 F2 H2 c dd x2 r2 xa2 => po ρ2 F2 H2 c dd (x1.trans x2) r2 xa2
    | ok y c2 =>
      rw [q2] at po
      intro ρ2 F2 H2 w x2 r2 rv2
      refine ⟨by rw [sizeLine_eq]; simp, fun q hq => ?_⟩
      obtain ⟨x3, r3⟩ := r2.fresh (o := .tup [v, w]) hq
      exact po _ _ _ _ (x1.trans (x2.trans x3)) r3 (.tup (SqT.of upd_same) (.cons ((rv1.ext x2).ext x3) (.cons (rv2.ext x3) .nil)))
end
/-! ### the law -/
/-- the table of a code object of the written part -/
def tabOf (K : PySem.W.Frag) (c : Addr) : Addr := match K.lookup c with
  | some ⟨_, _, .fields vs, _⟩ => (match (vs[11]? : Option Value) with
    | some (.ref P) => P
    | _ => 0)
  | _ => 0
section
variable {P : Program} {w : World} {K : Kt} {mg : Str → Option Value} {base : Heap} {k : Nat} {f : Addr} {name qual x : Str} {st : Stmt} {N : List Str} {body : Sx} {oc dV kV doc pm ct : Value} {od an : Option Addr} {osl : Array (Option Value)} {c : Addr}
theorem okL (lk : K.K.lookup f = some ⟨oc, od, .func (PySem.W.fnOf name qual (defArgs st) (defBody st) (defScope st) dV kV doc pm an (.ref c) ct), osl⟩) (hcd : PySem.W.codeIn K.K (.ref c) qual = true) (S : FnScope N [x] (defScope st))
    (hbody : ∀ (G : Gx), G.K = K → ∀ (A : Around) (outer : List Env) (s : Shared) (H : Hp) (E : XK), Room k (A.deeper (envOfC qual (defScope st) s.heap.objs.size f (.ref c))) →
      PSs (cxOf (L2.CX P w) P w K.K mg base N qual (defScope st) f (.ref c) A outer s H E) (defBody st) (tS G (fun cls d _ H' => E cls d H') body)) :
    FnOk P w K.K mg base (L2.CX P w) (k + 1) f (PySem.W.fnOf name qual (defArgs st) (defBody st) (defScope st) dV kV doc pm an (.ref c) ct) [x] (spF K 1 (runF N.length body)) := by
  refine fn_of lk hcd S (fun vs H Q E h => spF_len h) ?_
  intro A outer s H vs Q E hr h
  obtain ⟨G, e, t⟩ := body_of h
  exact ⟨_, hbody G e A outer s H E hr, t⟩
/-- the script and the table, handed to the law -/
theorem law_preT {n t : Nat} {q : Str} {fn : Fn} (h : ∀ ns : List Int, ns.length ≤ n → ∃ cs, fn [.frl (ns.map D.int)] [.tbl t q] = .ok (.bl true) cs) (H : Hp) (a : Addr) (ns : List Int) (hl : ns.length ≤ n) (hT : H (K.κ t) = some (.tbl #[])) (hs : SqL K.K H a (ns.map V.int)) :
    spF K 1 fn [.ref a] H (fun v _ => v = .bl true) fun _ _ _ => False := by
  obtain ⟨cs, e⟩ := h ns hl
  have nA : ∀ {o : HO}, H a = some o → (∀ ps, o ≠ .tbl ps) → a ≠ K.κ t := fun e1 e2 z => by
    rw [z, hT] at e1
    exact e2 _ (Option.some.inj e1).symm
  have hs' : SqL K.K (fun b => if b = K.κ t then none else H b) a (ns.map V.int) := by
    rcases hs with (h1 | ⟨o, h1⟩) | h1
    · exact .inl (.inl ((if_neg (nA h1 fun ps z => nomatch z)).trans h1))
    · exact .inl (.inr ⟨o, (if_neg (nA h1 fun ps z => nomatch z)).trans h1⟩)
    · exact .inr h1
  have len1 : ∀ {α : Type} {i : Nat} {y z : α}, ([y] : List α)[i]? = some z → i = 0 ∧ y = z := fun {α i y z} h => by
    cases i with
    | zero => exact ⟨rfl, Option.some.inj h⟩
    | succ i => simp at h
  refine ⟨[K.κ t], fun b => if b = K.κ t then none else H b, [.frl (ns.map D.int)], [.tbl t q], ⟨rfl, fun i d e => by simp at e, rfl, fun i c b e1 e2 => ?_, List.nodup_cons.mpr ⟨List.not_mem_nil, List.nodup_nil⟩, fun b o z => ?_, fun b hb => ?_, fun b o z _ => z, fun b hb => .inl hb, fun _ _ z => .inl z, Same.refl _, List.prefix_refl _⟩, .cons (.frl hs' (ints_back ns)) .nil, rfl, ?_⟩
  · obtain ⟨_, rfl⟩ := len1 e1
    obtain ⟨_, rfl⟩ := len1 e2
    exact ⟨rfl, #[], hT, True.intro, fun pos cv z => by simp [codeAmong] at z⟩
  · have z : (if b = K.κ t then none else H b) = some o := z
    by_cases hb : b = K.κ t
    · rw [if_pos hb] at z
      cases z
    · rw [if_neg hb] at z
      exact z
  · rw [List.mem_singleton.mp hb]
    exact if_pos rfl
  · rw [e]
    intro ρ F H' v x r rv
    cases rv
    rfl
end
end VL

/-! VLX4: own methods by special names: __str__, __eq__ -/
namespace VL
open PySem L2
section
variable {X : Cx} {C f : Addr} {fd : FuncData} {ps : List Str} {sp : Sp} {k : Nat} {W : WX}
/-- str(o), o's class saying __str__ -/
def rStrO (C : Addr) (sp : Sp) (W : WX) (σ : St) : List V → Hp → VK → Prop := fun xs H Q => ∃ a dx fs, xs = [.ref a] ∧ H a = some (.ins C dx fs) ∧ sp xs H (fun v H' => (∃ y, v = .str y) ∧ Q v H') (fun cls d H' => W cls d σ H')
theorem run_strO (F : FnOk X.prog X.w X.K X.mg X.base (L2.CX X.prog X.w) k f fd ps sp) (hs : PySem.W.findIn X.K (.ref C) "__str__" = some (some (.ref f))) (hf : PySem.W.isFn X.K (.ref f) = true) (hb : Binds X.K fd ps []) (tk : Takes X W) (hr : Room (k + 2) X.A)
    {pins : List (Addr × Obj)} {s : Shared} {σ : St} {H : Hp} {xs : List V} {us : List Value} {Q : VK} (I : Inv X pins σ H s) (r : Vals xs us) (h : rStrO C sp W σ xs H Q) : wpAny (model X.prog X.w) X.A (call (.type "str") us) (EP X pins σ Q) X.xe s := by
  obtain ⟨a, dx, fs, rfl, ha, hsp⟩ := h
  cases r with
  | cons rx rr =>
  cases rr
  cases rx
  obtain ⟨mA, J, _⟩ := ins_get I.hok ha
  obtain ⟨od, J, _⟩ := J.look
  have hr1 := hr.in1
  have hr2 := hr1.in1
  have hl := F.len _ _ _ _ hsp
  have r2 : Vals [V.ref a] [Value.ref a] := .cons rfl .nil
  refine PySem.W.kso_call (by have := hr2.un; omega) I.kIn J hs hf ?_
  refine wpAny_call (codeAny_mono (F.run _ X.stack s H ⟨[.ref a], []⟩ [.ref a] [.ref a] _ _ hr2 I.env0.in1.in1 (by simpa using hb s [.ref a] I.kIn (by simpa using hl)) r2 hsp) fun q s' hq => ?_)
  cases q with
  | error e => exact tk e s' (XE.of_call I (fun _ _ _ h => h) hq)
  | ok fl =>
    cases fl with
    | ret w =>
      obtain ⟨z, H', I', rz, ⟨y, rfl⟩, ex⟩ := I.after hq
      obtain ⟨t, rfl⟩ := rz
      exact ⟨.str y, H', I', ⟨t, rfl⟩, ex⟩
    | next => exact False.elim hq
    | brk => exact False.elim hq
    | cont => exact False.elim hq
end
section
variable {prog : Program} {w : World} {A : Around} {E : Value → Shared → Prop} {h : Heap} {g : Array GenState} {d : Drawn} {t : Nat} {os : OsState} {K : PySem.W.Frag} {C x f : Addr} {ox : Obj} {od : Option Obj} {y ty : Value}
/-- object.__ne__ asks an own __eq__ -/
theorem objNe_own (X : K.In h) (I : PySem.W.InstAt h x ox C od) (he : PySem.W.findIn K (.ref C) "__eq__" = some (some (.ref f))) (hf : PySem.W.isFn K (.ref f) = true) (hu : A.units < cLine) {Q : Fin → Shared → Prop}
    (hc : wpAny (model prog w) A (call (.ref f) [.ref x, y]) (fun v s' => ∃ b, v = .bool b ∧ Q (.done (.ret (.bool (!b)))) s') E ⟨h, g, d, t, os⟩) :
    wpAny (model prog w) A (Builtin.«object.__ne__» ⟨[.ref x, y], []⟩) Q E ⟨h, g, d, t, os⟩ := by
  unfold Builtin.«object.__ne__»
  repeat (first
    | with_reducible refine wpAny_cRoomFor hu ?_
    | (refine wpAny_bind (m := callSpecialIfBound? (.ref x) (Str.ofString "__eq__") [y])
        (PySem.W.ifBound_K X I he hf (wpAny_mono hc (fun r s' hr => by
          obtain ⟨b, rfl, hq⟩ := hr
          repeat (first | exact hq | exact wpAny_pure hq | exact wpAny_truthy_bool hq | (refine wpAny_bind (m := truthy (.bool _)) (wpAny_truthy_bool ?_)) | wp_step)) fun _ _ e => e)))
    | wp_step)
theorem ne_own (X : K.In h) (I : PySem.W.InstAt h x ox C od) (hb : PySem.W.Looks (model prog w) h (typeOf y) ty) (hn : PySem.W.notFirst K C ty = true) (hne : PySem.W.findIn K (.ref C) "__ne__" = some (some (.builtin "object.__ne__"))) (he : PySem.W.findIn K (.ref C) "__eq__" = some (some (.ref f))) (hf : PySem.W.isFn K (.ref f) = true)
    (ho : PySem.W.mroIn K C (.type "object") = some true) (hu : A.units + 1 < cLine) {Q : Value → Shared → Prop}
    (hc : wpAny (model prog w) A.in1 (call (.ref f) [.ref x, y]) (fun v s' => ∃ b, v = .bool b ∧ Q (.bool (!b)) s') E ⟨h, g, d, t, os⟩) :
    wpAny (model prog w) A (richCompare .NotEq (.ref x) y) Q E ⟨h, g, d, t, os⟩ := by
  have FB := F.cmp_object
  have one : wpAny (model prog w) A (tryCompare (.ref x) "__ne__" y) (fun r s' => ∃ v, r = some v ∧ Q v s') E ⟨h, g, d, t, os⟩ := by
    simp only [tryCompare]
    refine wpAny_bind ?_
    have fin0 : wpAny (model prog w) A (call (.builtin "object.__ne__") [.ref x, y]) (fun v s' => ∃ b, v = .bool b ∧ Q (.bool b) s') E ⟨h, g, d, t, os⟩ := by
      refine wpAny_call (codeAny_call_builtin FB.ne.plain F.cmpEntry_ne (PySem.W.check_slot F.cmpKind_ne F.cmpSplit_ne (I.type.andThen (PySem.W.looks_mroIn X ho)) (F.cmpArgs_ne _ _) ?_))
      refine objNe_own (A := A.in1) X I he hf hu (wpAny_mono hc (fun v s' hv => ?_) fun _ _ e => e)
      obtain ⟨b, rfl, hq⟩ := hv
      exact ⟨b, rfl, !b, rfl, hq⟩
    simp only [callSpecialIfBound?, bindSpecialIfBound?]
    refine wpAny_holding (wpAny_bind (wpAny_bind (wpAny_bind (I.type.here ((PySem.W.looks_findIn X hne).here ?_)))))
    refine wpAny_bind (wpAny_askSetting (wpAny_ite ?_))
    simp only [FB.ne.bind]
    split
    · exact wpAny_bind (wpAny_pure (wpAny_pure (wpAny_bind (wpAny_mono fin0 (fun v s' ⟨b, e, q⟩ => by subst e; exact wpAny_pure (wpAny_pure ⟨_, rfl, q⟩)) fun _ _ h' => h'))))
    · exact wpAny_tryCatch (wpAny_bind (wpAny_pure (wpAny_pure (wpAny_bind (wpAny_mono fin0 (fun v s' ⟨b, e, q⟩ => by subst e; exact wpAny_pure (wpAny_pure ⟨_, rfl, q⟩)) fun _ _ h' => h')))))
  unfold richCompare
  simp only [oneThing_ref]
  refine wpAny_holding (wpAny_bind (wpAny_cRoomFor (Nat.lt_of_succ_lt hu) ?_))
  rw [cmpInfo_NotEq]
  dsimp only
  refine wpAny_bind (I.type.here (wpAny_bind (hb.here ?_)))
  split
  · rename_i q
    have e : PySem.W.subIn K ty (.ref C) = some false := by
      rcases Bool.or_eq_true_iff.mp hn with e | e
      · rw [beq_iff_eq.mp e] at q; simp at q
      · exact beq_iff_eq.mp e
    refine wpAny_bind ((PySem.W.looks_subIn X e).here ?_)
    simp only [Bool.false_eq_true, if_false]
    refine wpAny_bind (wpAny_mono one (fun r s' z => ?_) fun _ _ e => e)
    obtain ⟨v, rfl, hq⟩ := z
    exact wpAny_pure hq
  · refine wpAny_bind (wpAny_pure ?_)
    simp only [Bool.false_eq_true, if_false]
    refine wpAny_bind (wpAny_mono one (fun r s' z => ?_) fun _ _ e => e)
    obtain ⟨v, rfl, hq⟩ := z
    exact wpAny_pure hq
end
end VL

/-! VLX5: own objects: ==, !=, str -/
namespace VL
open PySem L2
/-- a def of a class, by its name there -/
structure DefM (P : Program) (w : World) (K : Kt) (mg : Str → Option Value) (base : Heap) (cn : Nat) (name : Str) (k : Nat) (ps : List Str) (fn : Fn) : Prop where
  ex : ∃ (f : Addr) (fd : FuncData), PySem.W.findIn K.K (.ref (K.κ cn)) name = some (some (.ref f)) ∧ PySem.W.isFn K.K (.ref f) = true ∧ Binds K.K fd ps [] ∧ FnOk P w K.K mg base (L2.CX P w) k f fd ps (spF K ps.length fn)
section
variable {X : Cx} {C f : Addr} {fd : FuncData} {ps : List Str} {sp : Sp} {k : Nat} {W : WX}
/-- what stands beside an own object in == -/
def BesideV (C : Addr) (H : Hp) (y : V) : Prop := (∃ z, y = .str z) ∨ ∃ b dx fs, y = .ref b ∧ H b = some (.ins C dx fs)
def rCmpO (neg : Bool) (C : Addr) (sp : Sp) (W : WX) : R2 := fun x y H Q => ∃ a dx fs σ0, x = .ref a ∧ H a = some (.ins C dx fs) ∧ BesideV C H y ∧ sp [x, y] H (fun v H' => ∃ b, v = .bl b ∧ Q (.bl (if neg then !b else b)) H') (WE W σ0)
theorem beside_type {P : Program} {w : World} {K : PySem.W.Frag} {H : Hp} {h : Heap} {y : V} {u : Value} (hok : HOk P w H h) (hs : PySem.W.subIn K (.type "str") (.ref C) = some false) (ry : RelV y u) (b : BesideV C H y) : ∃ ty, PySem.W.Looks (model P w) h (typeOf u) ty ∧ PySem.W.notFirst K C ty = true := by
  rcases b with ⟨z, rfl⟩ | ⟨b, dx, fs, rfl, e⟩
  · obtain ⟨t, rfl⟩ := ry
    exact ⟨.type "str", .now, by unfold PySem.W.notFirst; rw [hs]; rfl⟩
  · obtain rfl : u = Value.ref b := ry
    obtain ⟨mA, J, _⟩ := ins_get hok e
    obtain ⟨od, J, _⟩ := J.look
    exact ⟨.ref C, J.type, by simp [PySem.W.notFirst]⟩
theorem run_eqO (F : FnOk X.prog X.w X.K X.mg X.base (L2.CX X.prog X.w) k f fd ps sp) (he : PySem.W.findIn X.K (.ref C) "__eq__" = some (some (.ref f))) (hf : PySem.W.isFn X.K (.ref f) = true) (hb : Binds X.K fd ps []) (hst : PySem.W.subIn X.K (.type "str") (.ref C) = some false) (hW : Flat W) (tk : Takes X W) (hr : Room k X.A) :
    OpR X (compareOp .Eq) (rCmpO false C sp W) := by
  intro pins s σ H x y v u Q I rx ry h
  obtain ⟨a, dx, fs, σ0, rfl, ha, hbe, hsp⟩ := h
  obtain rfl : v = Value.ref a := rx
  obtain ⟨mA, J, _⟩ := ins_get I.hok ha
  obtain ⟨od, J, _⟩ := J.look
  obtain ⟨ty, lt, nf⟩ := beside_type I.hok hst ry hbe
  obtain ⟨m, hF⟩ := I.fr
  have hl := F.len _ _ _ _ hsp
  have r2 : Vals [V.ref a, y] [Value.ref a, u] := .cons rfl (.cons ry .nil)
  refine PySem.W.cmp_ofEq (PySem.W.cmp_K (op := .Eq) (tb := ty) (by have := hr.un; omega) hF I.ok.mod.kin J lt nf he hf ?_)
  refine wpAny_call (codeAny_mono (F.run _ X.stack s H ⟨[.ref a, u], []⟩ [.ref a, u] [.ref a, y] _ _ hr I.env0 (by simpa using hb s [.ref a, u] I.kIn (by simpa using hl)) r2 hsp) fun q s' hq => ?_)
  cases q with
  | error e => exact tk e s' (XE.of_call I (fun _ _ _ h => hW _ _ _ _ _ h) hq)
  | ok fl =>
    cases fl with
    | ret w =>
      obtain ⟨z, H', I', rz, b, rfl, ex⟩ := I.after hq
      obtain rfl : w = Value.bool b := rz
      exact ⟨.bl b, H', I', rfl, ex⟩
    | next => exact False.elim hq
    | brk => exact False.elim hq
    | cont => exact False.elim hq
theorem run_neO (F : FnOk X.prog X.w X.K X.mg X.base (L2.CX X.prog X.w) k f fd ps sp) (he : PySem.W.findIn X.K (.ref C) "__eq__" = some (some (.ref f))) (hne : PySem.W.findIn X.K (.ref C) "__ne__" = some (some (.builtin "object.__ne__"))) (ho : PySem.W.mroIn X.K C (.type "object") = some true) (hf : PySem.W.isFn X.K (.ref f) = true) (hb : Binds X.K fd ps []) (hst : PySem.W.subIn X.K (.type "str") (.ref C) = some false) (hW : Flat W) (tk : Takes X W) (hr : Room (k + 1) X.A) :
    OpR X (compareOp .NotEq) (rCmpO true C sp W) := by
  intro pins s σ H x y v u Q I rx ry h
  obtain ⟨a, dx, fs, σ0, rfl, ha, hbe, hsp⟩ := h
  obtain rfl : v = Value.ref a := rx
  obtain ⟨mA, J, _⟩ := ins_get I.hok ha
  obtain ⟨od, J, _⟩ := J.look
  obtain ⟨ty, lt, nf⟩ := beside_type I.hok hst ry hbe
  have hl := F.len _ _ _ _ hsp
  have r2 : Vals [V.ref a, y] [Value.ref a, u] := .cons rfl (.cons ry .nil)
  refine PySem.W.cmp_ofNotEq (ne_own I.kIn J lt nf hne he hf ho (by have := hr.un; omega) ?_)
  refine wpAny_call (codeAny_mono (F.run _ X.stack s H ⟨[.ref a, u], []⟩ [.ref a, u] [.ref a, y] _ _ hr.in1 I.env0.in1 (by simpa using hb s [.ref a, u] I.kIn (by simpa using hl)) r2 hsp) fun q s' hq => ?_)
  cases q with
  | error e => exact tk e s' (XE.of_call I (fun _ _ _ h => hW _ _ _ _ _ h) hq)
  | ok fl =>
    cases fl with
    | ret w =>
      obtain ⟨z, H', I', rz, b, rfl, ex⟩ := I.after hq
      obtain rfl : w = Value.bool b := rz
      exact ⟨b, rfl, .bl (!b), H', I', rfl, ex⟩
    | next => exact False.elim hq
    | brk => exact False.elim hq
    | cont => exact False.elim hq
end
def beside (cn : Nat) : D → Bool
  | .str _ => true
  | .obj C _ _ => C == cn
  | _ => false
def boolO (neg : Bool) (d : D) (c : List Cell) : Out D := match d with
  | .bl b => .ok (.bl (if neg then !b else b)) c
  | _ => .no
def gCmpO (neg : Bool) (cn : Nat) (fn : Fn) : F2 := fun cs x y => match x with
  | .obj C ks ds => if C = cn ∧ beside cn y = true then (callV 0 fn [.obj C ks ds, y] cs).bind (boolO neg) else .no
  | _ => .no
section
variable {X : Cx} {G : Gx} {W : WX} {a b : Expr} {fa fb : Ex} {pos : Pos} {cn k : Nat} {fn : Fn} {ps : List Str}
theorem post_bool {ρ : List Addr} {F : Hp} {env : List (Option D)} {σ : St} {Q : VK} {neg : Bool} {o : Out D} (p : Post RV G W ρ F env σ Q (o.bind (boolO neg))) : Post RV G W ρ F env σ (fun v H' => ∃ b, v = .bl b ∧ Q (.bl (if neg then !b else b)) H') o := by
  cases o with
  | ok d cs =>
    cases d with
    | bl b =>
      intro ρ' F' H' v x r rv
      cases rv
      exact ⟨b, rfl, p ρ' F' H' _ x r (.bl _)⟩
    | _ => exact p.elim
  | ex e cs => exact p
  | no => exact p
theorem v2_cmpO {neg : Bool} : V2 G W (rCmpO neg (G.K.κ cn) (spF G.K 2 fn) W) (gCmpO neg cn fn) := by
  intro ρ F st σ H x y v w Q r h1 h2 p
  cases h1 with
  | obj h hl hr =>
    unfold gCmpO at p
    dsimp only at p
    rename_i a dx C ks vs ds
    by_cases c : C = cn ∧ beside cn y = true
    · rw [if_pos c] at p
      obtain ⟨rfl, c⟩ := c
      refine ⟨a, dx, _, σ, rfl, r.fz _ _ h, ?_, callV_of (m := 2) (n := 0) (fn := fn) r (.cons (.obj h hl hr) (.cons h2 .nil)) rfl (post_bool p)⟩
      cases h2 with
      | str z => exact .inl ⟨z, rfl⟩
      | obj h' hl' hr' =>
        have e := beq_iff_eq.mp c
        subst e
        exact .inr ⟨_, _, _, rfl, r.fz _ _ h'⟩
      | _ => cases c
    · rw [if_neg c] at p
      exact p.elim
  | _ => exact p.elim
/-- what the written part says of the class, for == and != -/
structure EqC (K : Kt) (cn : Nat) : Prop where
  ne : PySem.W.findIn K.K (.ref (K.κ cn)) "__ne__" = some (some (.builtin "object.__ne__"))
  ob : PySem.W.mroIn K.K (K.κ cn) (.type "object") = some true
  st : PySem.W.subIn K.K (.type "str") (.ref (K.κ cn)) = some false
theorem de_eqO (d : DefM X.prog X.w G.K X.mg X.base cn "__eq__" k ps fn) (hp : ps.length = 2) (T : EqC G.K cn) (hK : X.K = G.K.K) (hW : Flat W) (tk : Takes X W) (hr : Room k X.A) (ha : PE X a (tE G W fa)) (hb : PE X b (tE G W fb)) : PE X (.Compare a [.Eq] [b] pos) (tE G W (eOp (gCmpO false cn fn) fa fb)) := by
  obtain ⟨f, fd, h1, h2, h3, h4⟩ := d.ex
  rw [hp, ← hK] at h4
  rw [← hK] at h1 h2 h3
  exact de_cmp (run_eqO h4 h1 h2 h3 (hK ▸ T.st) hW tk hr) v2_cmpO ha hb (nomark _)
theorem dt_eqO (d : DefM X.prog X.w G.K X.mg X.base cn "__eq__" k ps fn) (hp : ps.length = 2) (T : EqC G.K cn) (hK : X.K = G.K.K) (hW : Flat W) (tk : Takes X W) (hr : Room k X.A) (ha : PE X a (tE G W fa)) (hb : PE X b (tE G W fb)) : PT X (.Compare a [.Eq] [b] pos) (tTs G W (tCmp' (gCmpO false cn fn) fa fb)) := by
  obtain ⟨f, fd, h1, h2, h3, h4⟩ := d.ex
  rw [hp, ← hK] at h4
  rw [← hK] at h1 h2 h3
  exact dt_cmp (run_eqO h4 h1 h2 h3 (hK ▸ T.st) hW tk hr) v2_cmpO ha hb (nomark _)
theorem dt_neO (d : DefM X.prog X.w G.K X.mg X.base cn "__eq__" k ps fn) (hp : ps.length = 2) (T : EqC G.K cn) (hK : X.K = G.K.K) (hW : Flat W) (tk : Takes X W) (hr : Room (k + 1) X.A) (ha : PE X a (tE G W fa)) (hb : PE X b (tE G W fb)) : PT X (.Compare a [.NotEq] [b] pos) (tTs G W (tCmp' (gCmpO true cn fn) fa fb)) := by
  obtain ⟨f, fd, h1, h2, h3, h4⟩ := d.ex
  rw [hp, ← hK] at h4
  rw [← hK] at h1 h2 h3
  exact dt_cmp (run_neO h4 h1 (hK ▸ T.ne) (hK ▸ T.ob) h2 h3 (hK ▸ T.st) hW tk hr) v2_cmpO ha hb (nomark _)
/-! ### str(o) -/
def strO (d : D) (c : List Cell) : Out D := match d with
  | .str y => .ok (.str y) c
  | _ => .no
def hStrO (cn : Nat) (fn : Fn) : FB := fun cs xs => match xs with
  | [.obj C ks ds] => if C = cn then (callV 0 fn [.obj C ks ds] cs).bind strO else .no
  | _ => .no
theorem call_strO (d : DefM X.prog X.w G.K X.mg X.base cn "__str__" k ps fn) (hp : ps.length = 1) (hK : X.K = G.K.K) (hW : Flat W) (tk : Takes X W) (hr : Room (k + 2) X.A) : CallR X (.type "str") (fun xs H Q => ∃ σ0, rStrO (G.K.κ cn) (spF G.K 1 fn) W σ0 xs H Q) := by
  obtain ⟨f, fd, h1, h2, h3, h4⟩ := d.ex
  rw [hp, ← hK] at h4
  rw [← hK] at h1 h2 h3
  intro pins s σ H xs us Q I r ⟨σ0, q⟩
  refine run_strO h4 h1 h2 h3 tk hr I r ?_
  obtain ⟨a, dx, fs, rfl, ha, hsp⟩ := q
  refine ⟨a, dx, fs, rfl, ha, ?_⟩
  obtain ⟨ρ0, F0, ds, cs, r0, rv, hl, po⟩ := hsp
  refine ⟨ρ0, F0, ds, cs, r0, rv, hl, ?_⟩
  cases e : fn ds cs with
  | ok d cs' => rw [e] at po; exact po
  | ex d cs' => rw [e] at po; exact fun ρ F H cls dx x r xa => hW _ _ _ _ _ (po ρ F H cls dx x r xa)
  | no => rw [e] at po; exact po
theorem vn_strO : VN G W (fun xs H Q => ∃ σ0, rStrO (G.K.κ cn) (spF G.K 1 fn) W σ0 xs H Q) (hStrO cn fn) := by
  intro ρ F st σ H ds vs Q r rv p
  unfold hStrO at p
  split at p
  · rename_i C ks ds
    cases rv with
    | cons h1 h2 =>
      cases h2
      cases h1 with
      | obj h hl hr =>
        by_cases c : C = cn
        · subst c
          rw [if_pos rfl] at p
          refine ⟨σ, _, _, _, rfl, r.fz _ _ h, callV_of (m := 1) (n := 0) (fn := fn) r (.cons (.obj h hl hr) .nil) rfl ?_⟩
          cases o : callV 0 fn [.obj C ks ds] st.cs with
          | ok d cs =>
            rw [o] at p
            cases d with
            | str y =>
              intro ρ' F' H' v x r rv
              cases rv
              exact ⟨⟨y, rfl⟩, p ρ' F' H' _ x r (.str _)⟩
            | _ => exact p.elim
          | ex e cs => rw [o] at p; exact p
          | no => rw [o] at p; exact p
        · rw [if_neg c] at p
          exact p.elim
  · exact p.elim
end
end VL

/-! VLX6: texts, starred displays, all -/
namespace VL
open PySem L2 PyProof.Rows
section
variable {X : Cx} {G : Gx} {W : WX} {e a : Expr} {es : List Expr} {fa fb : Ex} {g : Ax} {pos p apos : Pos}
def aStar (fa : Ex) (g : Ax) : Ax := fun st => (fa st).bind fun x c1 => match seqOf c1 x with
  | some xs => (g ⟨st.env, c1⟩).bind fun ys c2 => .ok (xs ++ ys) c2
  | none => .no
theorem da_star (hK : X.K = G.K.K) (h : PE X e (tE G W fa)) (hr : PA X es (tAs G W g)) (hs : starEach (.Starred e p :: es) X.env = (true, eval e X.env) :: starEach es X.env := by rfl) : PA X (.Starred e p :: es) (tAs G W (aStar fa g)) := by
  refine (StX.pa_star h hr hs).impV fun σ H Q ⟨ρ, F, st, r, po⟩ => seqX r po fun ρ1 F1 H1 x c1 v x1 r1 rv1 p1 => ?_
  cases q : seqOf c1 x with
  | none => rw [q] at p1; exact p1.elim
  | some xs =>
    rw [q] at p1
    obtain ⟨a, vs, rfl, hsq, rvs⟩ := seq_read (st := ⟨st.env, c1⟩) r1 rv1 q
    rw [hK]
    refine ⟨a, vs, rfl, hsq.symm, ?_⟩
    exact seqX (st := ⟨st.env, c1⟩) r1 p1 fun ρ2 F2 H2 ys c2 ws x2 r2 rv2 p2 => p2.here (st := ⟨st.env, c2⟩) r2 ((rvs.ext x2).append rv2)
def strsOf : List D → Option (List Str)
  | [] => some []
  | .str x :: r => (strsOf r).map (x :: ·)
  | _ => none
theorem strs_read {K : Kt} {ρ : List Addr} {F : Hp} : ∀ {ds : List D} {vs : List V} {ys : List Str}, RVs K ρ F ds vs → strsOf ds = some ys → vs = ys.map V.str
  | [], _, _, .nil, h => by cases h; rfl
  | d :: ds, _, ys, .cons hd hr, h => by
    cases d with
    | str x =>
      have h : (strsOf ds).map (x :: ·) = some ys := h
      cases q : strsOf ds with
      | none => rw [q] at h; cases h
      | some zs =>
        rw [q] at h
        cases h
        cases hd
        rw [strs_read hr q]
        rfl
    | _ => cases h
/-- a text's method with one argument -/
def eMS (g : Str → List Cell → D → Out D) (fa fb : Ex) : Ex := fun st => (fa st).bind fun x c1 => match x with
  | .str z => (fb ⟨st.env, c1⟩).bind fun y c2 => g z c2 y
  | _ => .no
theorem tM1_of {r : V → List V → Hp → VK → Prop} {g : Str → List Cell → D → Out D} (h : ∀ (ρ : List Addr) (F : Hp) (st : S) (σ : L2.St) (H : Hp) (z : Str) (y : D) (w : V) (Q : VK), Rel G ρ F st σ H → RV G.K ρ F y w → Post RV G W ρ F st.env σ Q (g z st.cs y) → r (.str z) [w] H Q) : ∀ σ H Q, tE G W (eMS g fa fb) σ H Q → tM1 r (tE G W fa) (tE G W fb) σ H Q := by
  intro σ H Q ⟨ρ, F, st, r', po⟩
  refine seqX r' po fun ρ1 F1 H1 x c1 v x1 r1 rv1 p1 => ?_
  cases rv1 with
  | str z => exact ⟨⟨z, rfl⟩, seqX (st := ⟨st.env, c1⟩) r1 p1 fun ρ2 F2 H2 y c2 w x2 r2 rv2 p2 => h ρ2 F2 ⟨st.env, c2⟩ σ H2 z y w Q r2 rv2 p2⟩
  | _ => exact p1.elim
def joinOk (a : Str) (ys : List Str) : Bool := decide ((ys.map (·.length)).sum + ys.length * a.length ≤ 16777216)
def gJoin (z : Str) (cs : List Cell) (y : D) : Out D := match seqOf cs y with
  | some ds => (match strsOf ds with
    | some ys => if joinOk z ys then .ok (.str (Txt.join z ys)) cs else .no
    | none => .no)
  | none => .no
theorem de_join (hK : X.K = G.K.K) (ho : PE X a (tE G W fa)) (he : PE X e (tE G W fb)) (hs : starEach [e] X.env = [(false, eval e X.env)] := by rfl) (hbase : attributeBase a "join" X.env (eval a X.env) = eval a X.env := by rfl) (hline : (apos.endLine == pos.line) = true := by rfl) :
    PE X (.Call (.Attribute a "join" apos) [e] [] pos) (tE G W (eMS gJoin fa fb)) := by
  refine (pe_join ho he hs hbase hline).impV (tM1_of fun ρ F st σ H z y w Q r rv p => ?_)
  unfold gJoin at p
  cases q : seqOf st.cs y with
  | none => rw [q] at p; exact p.elim
  | some ds =>
    rw [q] at p
    obtain ⟨b, vs, rfl, hsq, rvs⟩ := seq_read r rv q
    cases q2 : strsOf ds with
    | none => simp only [q2] at p; exact p.elim
    | some ys =>
      simp only [q2] at p
      have ev := strs_read rvs q2
      subst ev
      by_cases c : joinOk z ys = true
      · rw [if_pos c] at p
        exact ⟨z, b, ys, rfl, rfl, by rw [hK]; exact hsq, of_decide_eq_true c, p.here r (.str _)⟩
      · rw [if_neg c] at p
        exact p.elim
def gSplit (z : Str) (cs : List Cell) (y : D) : Out D := match y with
  | .str b => if (b.length == 0) = false ∧ z.length + 2 ≤ 16777216 then .ok (.lst ((Txt.split z b).map .str)) cs else .no
  | _ => .no
theorem rvs_strs {K : Kt} {ρ : List Addr} {F : Hp} : ∀ {ys : List Str}, RVs K ρ F (ys.map D.str) (ys.map V.str)
  | [] => .nil
  | y :: ys => .cons (.str y) rvs_strs
theorem de_split (ho : PE X a (tE G W fa)) (he : PE X e (tE G W fb)) (hs : starEach [e] X.env = [(false, eval e X.env)] := by rfl) (hbase : attributeBase a "split" X.env (eval a X.env) = eval a X.env := by rfl) (hline : (apos.endLine == pos.line) = true := by rfl) :
    PE X (.Call (.Attribute a "split" apos) [e] [] pos) (tE G W (eMS gSplit fa fb)) := by
  refine (pe_split ho he hs hbase hline).impV (tM1_of fun ρ F st σ H z y w Q r rv p => ?_)
  unfold gSplit at p
  cases rv with
  | str b =>
    dsimp only at p
    by_cases c : (b.length == 0) = false ∧ z.length + 2 ≤ 16777216
    · rw [if_pos c] at p
      refine ⟨z, b, rfl, rfl, c.1, line_of c.2, fun q hq => ?_⟩
      obtain ⟨x3, r3⟩ := r.fresh (o := .lst ((Txt.split z b).map V.str)) hq
      exact p _ _ _ _ x3 r3 (.lst upd_same rvs_strs)
    · rw [if_neg c] at p
      exact p.elim
  | _ => exact p.elim
/-! ### int(text), str(int), str(text), all -/
def hIntS : FB := fun cs xs => match xs with
  | [.str z] => (match PySem.intText? z with
    | some n => if z.length ≤ 640 then .ok (.int n) cs else .no
    | none => .no)
  | _ => .no
theorem de_intS (hg : Gl X "int") (hm : X.mg "int" = none) (ha : PA X (e :: es) (tAs G W g)) (he : starEach (e :: es) X.env = (false, eval e X.env) :: starEach es X.env := by rfl) (hpl : (backTo pos (starEach es X.env)).any (·.1) = false := by rfl) : PE X (.Call (.Name "int" p) (e :: es) [] pos) (tE G W (eB hIntS g)) := by
  refine de_callTy call_int_str ?_ hg hm boot_int ha (he := he) (hpl := hpl)
  intro ρ F st σ H ds vs Q r rv p
  unfold hIntS at p
  split at p
  · rename_i z
    cases rv with
    | cons h1 h2 =>
      cases h2
      cases h1
      cases q : PySem.intText? z with
      | none => rw [q] at p; exact p.elim
      | some n =>
        rw [q] at p
        dsimp only at p
        by_cases c : z.length ≤ 640
        · rw [if_pos c] at p
          exact ⟨z, n, rfl, q, c, p.here r (.int _)⟩
        · rw [if_neg c] at p
          exact p.elim
  · exact p.elim
def hStrI : FB := fun cs xs => match xs with
  | [.int i] => if i.natAbs.log2 < 1920 then .ok (.str (toString i)) cs else .no
  | _ => .no
theorem de_strI (hg : Gl X "str") (hm : X.mg "str" = none) (ha : PA X (e :: es) (tAs G W g)) (he : starEach (e :: es) X.env = (false, eval e X.env) :: starEach es X.env := by rfl) (hpl : (backTo pos (starEach es X.env)).any (·.1) = false := by rfl) : PE X (.Call (.Name "str" p) (e :: es) [] pos) (tE G W (eB hStrI g)) := by
  refine de_callTy call_str_int ?_ hg hm boot_str ha (he := he) (hpl := hpl)
  intro ρ F st σ H ds vs Q r rv p
  unfold hStrI at p
  split at p
  · rename_i i
    cases rv with
    | cons h1 h2 =>
      cases h2
      cases h1
      by_cases c : i.natAbs.log2 < 1920
      · rw [if_pos c] at p
        exact ⟨i, rfl, c, p.here r (.str _)⟩
      · rw [if_neg c] at p
        exact p.elim
  · exact p.elim
def hStrS : FB := fun cs xs => match xs with
  | [.str z] => .ok (.str z) cs
  | _ => .no
theorem de_strS (hg : Gl X "str") (hm : X.mg "str" = none) (ha : PA X (e :: es) (tAs G W g)) (he : starEach (e :: es) X.env = (false, eval e X.env) :: starEach es X.env := by rfl) (hpl : (backTo pos (starEach es X.env)).any (·.1) = false := by rfl) : PE X (.Call (.Name "str" p) (e :: es) [] pos) (tE G W (eB hStrS g)) := by
  refine de_callTy SkE.call_str_str ?_ hg hm boot_str ha (he := he) (hpl := hpl)
  intro ρ F st σ H ds vs Q r rv p
  unfold hStrS at p
  split at p
  · rename_i z
    cases rv with
    | cons h1 h2 =>
      cases h2
      cases h1
      exact ⟨z, rfl, p.here r (.str _)⟩
  · exact p.elim
theorem de_strObj {cn k : Nat} {ps : List Str} {fn : Fn} (d : DefM X.prog X.w G.K X.mg X.base cn "__str__" k ps fn) (hp : ps.length = 1) (hK : X.K = G.K.K) (hW : Flat W) (tk : Takes X W) (hr : Room (k + 2) X.A) (hg : Gl X "str") (hm : X.mg "str" = none) (ha : PA X (e :: es) (tAs G W g)) (he : starEach (e :: es) X.env = (false, eval e X.env) :: starEach es X.env := by rfl) (hpl : (backTo pos (starEach es X.env)).any (·.1) = false := by rfl) : PE X (.Call (.Name "str" p) (e :: es) [] pos) (tE G W (eB (hStrO cn fn) g)) :=
  de_callTy (call_strO d hp hK hW tk hr) vn_strO hg hm boot_str ha (he := he) (hpl := hpl)
def boolsOf : List D → Option (List Bool)
  | [] => some []
  | .bl x :: r => (boolsOf r).map (x :: ·)
  | _ => none
theorem bools_read {K : Kt} {ρ : List Addr} {F : Hp} : ∀ {ds : List D} {vs : List V} {ys : List Bool}, RVs K ρ F ds vs → boolsOf ds = some ys → vs = ys.map V.bl
  | [], _, _, .nil, h => by cases h; rfl
  | d :: ds, _, ys, .cons hd hr, h => by
    cases d with
    | bl x =>
      have h : (boolsOf ds).map (x :: ·) = some ys := h
      cases q : boolsOf ds with
      | none => rw [q] at h; cases h
      | some zs =>
        rw [q] at h
        cases h
        cases hd
        rw [bools_read hr q]
        rfl
    | _ => cases h
def hAll : FB := fun cs xs => match xs with
  | [d] => (match lstOf cs d with
    | some ds => (match boolsOf ds with
      | some bs => .ok (.bl (bs.all id)) cs
      | none => .no)
    | none => .no)
  | _ => .no
theorem de_all (hK : X.K = G.K.K) (hc : X.calm = true) (hg : Gl X "all") (hm : X.mg "all" = none) (ha : PA X (e :: es) (tAs G W g)) (he : starEach (e :: es) X.env = (false, eval e X.env) :: starEach es X.env := by rfl) (hpl : (backTo pos (starEach es X.env)).any (·.1) = false := by rfl) : PE X (.Call (.Name "all" p) (e :: es) [] pos) (tE G W (eB hAll g)) := by
  refine de_callB (cr_all hc) ?_ hg hm boot_all ha (he := he) (hpl := hpl)
  intro ρ F st σ H ds vs Q r rv p
  unfold hAll at p
  split at p
  · rename_i d
    cases rv with
    | cons h1 h2 =>
      cases h2
      cases q : lstOf st.cs d with
      | none => rw [q] at p; exact p.elim
      | some ds =>
        rw [q] at p
        obtain ⟨b, vs, rfl, hsq, rvs⟩ := lst_read r h1 q
        cases q2 : boolsOf ds with
        | none => simp only [q2] at p; exact p.elim
        | some bs =>
          simp only [q2] at p
          have ev := bools_read rvs q2
          subst ev
          exact ⟨b, bs, rfl, by rw [hK]; exact hsq, p.here r (.bl _)⟩
  · exact p.elim
end
end VL

/-! VLX7: isinstance by a table of answers; chains -/
namespace VL
open PySem L2 PyProof.Rows
inductive Ty where
  | t (n : String)
  | c (C : Nat)
def Ty.val (K : Kt) : Ty → Value
  | .t n => .type n
  | .c C => .ref (K.κ C)
def tyG (cs : List Cell) : D → Option Ty
  | .obj C _ _ => some (.c C)
  | d => (tyD cs d).map .t
/-- what isinstance asks of an own class -/
structure InsC (K : PySem.W.Frag) (C : Addr) : Prop where
  cl : Cls K C
  ha : PySem.W.findIn K (.ref C) "__class__" = some (some (.builtin "object.__class__"))
  hn : PySem.W.specialIn K (.builtin "object.__class__") "__get__" = some (some (.builtin "getset_descriptor.__get__"))
  htk : PySem.W.takesIn K (.builtin "object.__class__") = some true
  hm : PySem.W.mroIn K C (.type "object") = some true
/-- the answers of isinstance(x, u) by x's type -/
def AnsOk (K : Kt) (u : Value) (ans : Ty → Option Bool) : Prop := ∀ t b, ans t = some b → PySem.W.kitOne K.K (t.val K) u = some b ∧ ∀ C, t = .c C → InsC K.K (K.κ C)
def gIsiG (ans : Ty → Option Bool) : F1 := fun cs x => match tyG cs x with
  | some t => (match ans t with
    | some k => .ok (.bl k) cs
    | none => .no)
  | none => .no
section
variable {X : Cx} {G : Gx} {W : WX} {e a b c : Expr} {es : List Expr} {fa fb fc : Ex} {g : Ax} {pos p p1 p2 : Pos} {ans : Ty → Option Bool} {x : Str}
theorem tyX_G {ρ : List Addr} {F : Hp} {st : S} {σ : L2.St} {H : Hp} {x : D} {v : V} {t : Ty} (r : Rel G ρ F st σ H) (h : RV G.K ρ F x v) (e : tyG st.cs x = some t) (hi : ∀ C, t = .c C → InsC G.K.K (G.K.κ C)) : TyX G.K.K H v (t.val G.K) := by
  have other : ∀ {y : D}, RV G.K ρ F y v → (tyD st.cs y).map Ty.t = some t → TyX G.K.K H v (t.val G.K) := by
    intro y hy e
    cases q : tyD st.cs y with
    | none => rw [q] at e; cases e
    | some n =>
      rw [q] at e
      cases e
      exact tyX_of r hy q
  cases h with
  | obj h1 h2 h3 =>
    cases e
    have i := hi _ rfl
    exact .base (.ins (r.fz _ _ h1) i.cl i.ha i.hn i.htk i.hm)
  | dct h1 h2 h3 => cases e
  | btp h1 h2 h3 => exact other (.btp h1 h2 h3) e
  | cls C => exact other (.cls C) e
  | non => exact other .non e
  | bl b => exact other (.bl b) e
  | int i => exact other (.int i) e
  | str z => exact other (.str z) e
  | tup h1 h2 => exact other (.tup h1 h2) e
  | lst h1 h2 => exact other (.lst h1 h2) e
  | frl h1 h2 => exact other (.frl h1 h2) e
  | loc h1 => exact other (.loc h1) e
theorem isiG_of {u : Value} {cv : V} (hK : X.K = G.K.K) (k : ClsV cv u) (ha : AnsOk G.K u ans) : ∀ σ H Q, tE G W (eUn (gIsiG ans) fa) σ H Q → tE G W fa σ H fun v H1 => rIsi X.K [v, cv] H1 Q := by
  rintro σ H Q ⟨ρ, F, st, r, po⟩
  refine seqX r po fun ρ1 F1 H1 x c1 v x1 r1 rv1 p1 => ?_
  unfold gIsiG at p1
  cases q : tyG c1 x with
  | none => rw [q] at p1; exact p1.elim
  | some t =>
    rw [q] at p1
    simp only at p1
    cases q2 : ans t with
    | none => rw [q2] at p1; exact p1.elim
    | some kk =>
      rw [q2] at p1
      rw [hK]
      obtain ⟨h1, h2⟩ := ha t kk q2
      exact ⟨v, cv, t.val G.K, u, kk, rfl, k, tyX_G (st := ⟨st.env, c1⟩) r1 rv1 q h2, h1, p1.here (st := ⟨st.env, c1⟩) r1 (.bl _)⟩
theorem de_isiB {T : String} (hK : X.K = G.K.K) (hans : AnsOk G.K (.type T) ans) (hg : Gl X "isinstance") (hm : X.mg "isinstance" = none) (hgT : Gl X x) (hmT : X.mg x = none) (hbT : bootBuiltins x = some (.type T)) (ha : PE X a (tE G W fa)) (hn : x ≠ "__name__" := by decide) (hd : (x == ("__debug__" : Str)) = false := by decide)
    (hs : starEach [a, .Name x p2] X.env = (false, eval a X.env) :: starEach [.Name x p2] X.env := by rfl) (hpl : (backTo pos (starEach [.Name x p2] X.env)).any (·.1) = false := by rfl) (hs2 : starEach [.Name x p2] X.env = (false, eval (.Name x p2) X.env) :: starEach [] X.env := by rfl) :
    PE X (.Call (.Name "isinstance" p1) [a, .Name x p2] [] pos) (tE G W (eUn (gIsiG ans) fa)) := by
  have hT : PE X (.Name x p2) (tC (.ty T)) := pe_bltn hgT hmT hbT rfl hn hd
  exact (pe_callB call_isi hg hm boot_isinstance (pa_cons ha (pa_cons hT pa_nil hs2) hs) (he := hs) (hpl := hpl)).impV (isiG_of hK (.ty T) hans)
theorem de_isiO {C2 : Addr} (hK : X.K = G.K.K) (hans : AnsOk G.K (.ref C2) ans) (hg : Gl X "isinstance") (hm : X.mg "isinstance" = none) (hgT : Gl X x) (hmT : X.mg x = some (.ref C2)) (ha : PE X a (tE G W fa)) (hd : (x == ("__debug__" : Str)) = false := by decide)
    (hs : starEach [a, .Name x p2] X.env = (false, eval a X.env) :: starEach [.Name x p2] X.env := by rfl) (hpl : (backTo pos (starEach [.Name x p2] X.env)).any (·.1) = false := by rfl) (hs2 : starEach [.Name x p2] X.env = (false, eval (.Name x p2) X.env) :: starEach [] X.env := by rfl) :
    PE X (.Call (.Name "isinstance" p1) [a, .Name x p2] [] pos) (tE G W (eUn (gIsiG ans) fa)) := by
  have hT : PE X (.Name x p2) (tC (.ref C2)) := pe_glob hgT hmT rfl hd
  exact (pe_callB call_isi hg hm boot_isinstance (pa_cons ha (pa_cons hT pa_nil hs2) hs) (he := hs) (hpl := hpl)).impV (isiG_of hK (.own C2) hans)
/-! ### a < b < c -/
def tChn (g1 g2 : F2) (fa fb fc : Ex) : Tx := fun st => (fa st).bind fun x c1 => (fb ⟨st.env, c1⟩).bind fun y c2 => (g1 c2 x y).bind fun d c3 => match d with
  | .bl true => (fc ⟨st.env, c3⟩).bind fun z c4 => (g2 c4 y z).bind fun d' c5 => (match d' with
    | .bl k => .ok k c5
    | _ => .no)
  | .bl false => .ok false c3
  | _ => .no
theorem dt_chain {op op' : CmpOp} {r r' : R2} {g1 g2 : F2} (ho : OpR X (compareOp op) r) (ho' : OpR X (compareOp op') r') (hv : V2 G W r g1) (hv' : V2 G W r' g2) (ha : PE X a (tE G W fa)) (hb : PE X b (tE G W fb)) (hc : PE X c (tE G W fc)) (hm : lastMarks [op, op'] [b, c] = false := by with_unfolding_all rfl) :
    PT X (.Compare a [op, op'] [b, c] pos) (tTs G W (tChn g1 g2 fa fb fc)) := by
  refine (pt_chain ho ho' ha hb hc hm).impV ?_
  rintro σ H Q ⟨ρ, F, st, r0, po⟩
  refine seqX r0 po fun ρ1 F1 H1 x c1 v x1 r1 rv1 p1 => seqX (st := ⟨st.env, c1⟩) r1 p1 fun ρ2 F2 H2 y c2 w x2 r2 rv2 p2 => ?_
  refine hv ρ2 F2 ⟨st.env, c2⟩ σ H2 x y v w _ r2 (rv1.ext x2) rv2 ?_
  show Post RV G W ρ2 F2 st.env σ _ (g1 c2 x y)
  cases q : g1 c2 x y with
  | no => rw [q] at p2; exact p2.elim
  | ex e cs => rw [q] at p2; exact p2
  | ok d c3 =>
    rw [q] at p2
    intro ρ3 F3 H3 z x3 r3 rv3
    cases d with
    | bl k =>
      cases rv3
      refine ⟨k, rfl, ?_⟩
      cases k with
      | false => exact ⟨false, rfl, p2 ρ3 F3 H3 false x3 r3 rfl⟩
      | true =>
        have p3 := Post.ext x3 p2
        refine seqX (st := ⟨st.env, c3⟩) r3 p3 fun ρ4 F4 H4 z c4 u x4 r4 rv4 p4 => ?_
        refine hv' ρ4 F4 ⟨st.env, c4⟩ σ H4 y z w u _ r4 ((rv2.ext x3).ext x4) rv4 ?_
        show Post RV G W ρ4 F4 st.env σ _ (g2 c4 y z)
        cases q4 : g2 c4 y z with
        | no => rw [q4] at p4; exact p4.elim
        | ex e cs => rw [q4] at p4; exact p4
        | ok d5 c5 =>
          rw [q4] at p4
          intro ρ5 F5 H5 z5 x5 r5 rv5
          cases d5 with
          | bl k5 =>
            cases rv5
            exact ⟨k5, rfl, p4 ρ5 F5 H5 k5 x5 r5 rfl⟩
          | _ => exact p4.elim
    | _ => exact p2.elim
end
end VL

/-! VLX8: x in a sequence of data of any depth -/
namespace VL
open PySem L2 PyProof.Rows
section
variable {X : Cx} {G : Gx} {W : WX} {a b : Expr} {fa fb : Ex} {pos : Pos}
def rInT (neg : Bool) (K : PySem.W.Frag) : R2 := fun x y H Q => ∃ d ds, Dp K H x d ∧ Dp K H y (.tuple ds) ∧ SeqAt.shaped d = true ∧ SeqAt.shaped (.tuple ds) = true ∧ Q (.bl (if neg then !(ds.any fun z => PyData.eqv z d) else ds.any fun z => PyData.eqv z d)) H
theorem op_inT (hu : X.A.units + 65 < cLine) : OpR X (compareOp .In) (rInT false X.K) := by
  intro pins s σ H x y v u Q I rx ry h
  obtain ⟨d, ds, hd, he, sd, se, q⟩ := h
  obtain ⟨as, r1⟩ := Dp.reads I d x v hd rx
  obtain ⟨bs, r2⟩ := Dp.reads I (.tuple ds) y u he ry
  exact SeqAt.in_tuple_reads r2 r1 (SeqAt.canLay_of_shaped se) (SeqAt.canLay_of_shaped sd) (room_in_shaped sd hu) ⟨.bl _, H, I, rfl, q⟩
theorem op_notInT (hu : X.A.units + 65 < cLine) : OpR X (compareOp .NotIn) (rInT true X.K) := by
  intro pins s σ H x y v u Q I rx ry h
  obtain ⟨d, ds, hd, he, sd, se, q⟩ := h
  obtain ⟨as, r1⟩ := Dp.reads I d x v hd rx
  obtain ⟨bs, r2⟩ := Dp.reads I (.tuple ds) y u he ry
  exact SeqAt.notIn_tuple_reads r2 r1 (SeqAt.canLay_of_shaped se) (SeqAt.canLay_of_shaped sd) (room_in_shaped sd hu) ⟨.bl _, H, I, rfl, q⟩
def gInT (neg : Bool) : F2 := fun cs x y => match y with
  | .tup ds => if VL.plain (norm cs x) && SeqAt.shaped (py (norm cs x)) && plains ds && SeqAt.shaped (.tuple (pys ds)) then .ok (.bl (if neg then !((pys ds).any fun z => PyData.eqv z (py (norm cs x))) else (pys ds).any fun z => PyData.eqv z (py (norm cs x)))) cs else .no
  | _ => .no
theorem v2_inT {neg : Bool} : V2 G W (rInT neg G.K.K) (gInT neg) := by
  intro ρ F st σ H x y v w Q r h1 h2 p
  unfold gInT at p
  cases y with
  | tup ds =>
    dsimp only at p
    by_cases c : (VL.plain (norm st.cs x) && SeqAt.shaped (py (norm st.cs x)) && plains ds && SeqAt.shaped (.tuple (pys ds))) = true
    · rw [if_pos c] at p
      simp only [Bool.and_eq_true] at c
      refine ⟨_, _, dp_norm r h1 c.1.1.1, dp_norm (x := .tup ds) r h2 (by show VL.plain (.tup ds) = true; unfold VL.plain; exact c.1.2), c.1.1.2, c.2, p.here r (.bl _)⟩
    · rw [if_neg c] at p
      exact p.elim
  | _ => exact p.elim
theorem dt_notinT (hK : X.K = G.K.K) (hu : X.A.units + 65 < cLine) (ha : PE X a (tE G W fa)) (hb : PE X b (tE G W fb)) (hm : behindInMarks .NotIn b = false) : PT X (.Compare a [.NotIn] [b] pos) (tTs G W (tCmp' (gInT true) fa fb)) := dt_cmp (op_notInT hu) (by rw [hK]; exact v2_inT) ha hb hm
theorem dt_inT (hK : X.K = G.K.K) (hu : X.A.units + 65 < cLine) (ha : PE X a (tE G W fa)) (hb : PE X b (tE G W fb)) (hm : behindInMarks .In b = false) : PT X (.Compare a [.In] [b] pos) (tTs G W (tCmp' (gInT false) fa fb)) := dt_cmp (op_inT hu) (by rw [hK]; exact v2_inT) ha hb hm
end
end VL

/-! VLX9: classmethods; a class that a local name holds is called -/
namespace VL
open PySem L2 PyProof.Rows
section
variable {X : Cx} {G : Gx} {W : WX} {o e : Expr} {es : List Expr} {g : Ax} {pos p apos : Pos} {x : Str} {cn k i n : Nat} {fn : Fn} {f : Addr} {fd : FuncData} {ps : List Str}
theorem pe_makeL {CX : CXT} {C : Addr} {sp : Sp} {E : XK} {t : TA} (M : Mk X.K C f) (F : FnOk X.prog X.w X.K X.mg X.base CX k f fd ps sp) (hr : Room (k + 1) X.A) (hN : X.N[i]? = some x) (hv : Vis X.env.scope x) (hb : Binds X.K fd ps []) (hx : Passes CX X E) (ha : PA X (e :: es) t)
    (hdb : (x == ("__debug__" : Str)) = false := by decide) (hcd : (x == ("__classdict__" : Str)) = false := by decide) (he : starEach (e :: es) X.env = (false, eval e X.env) :: starEach es X.env := by rfl) (hpl : (backTo pos (starEach es X.env)).any (·.1) = false := by rfl) :
    PE X (.Call (.Name x p) (e :: es) [] pos) (fun σ H Q => σ[i]? = some (some (.ref C)) ∧ tMake C sp [] E t σ H Q) := by
  refine ⟨fun pins s σ H Q I h => ?_⟩
  refine wpAny_Call_Name_kw (thn ((pe_var (pos := p) hN hv hdb hcd).run pins s σ H (fun v H1 => v = .ref C ∧ H1 = H) I ⟨.ref C, h.1, rfl, rfl⟩) fun u s1 ⟨v, H1, I1, r1, q1⟩ => ?_)
  obtain ⟨e1, e2⟩ := q1
  subst e1 e2
  obtain rfl : u = Value.ref C := r1
  refine PySem.W.callWith_K (h₀ := X.base) I1.ok.mod.kin M.kp (thn (ha.run pos pins s1 σ _ _ I1 h.2) fun us s2 ⟨vs, H2, I2, r, q⟩ => ⟨I2.kIn, ?_⟩) he hpl
  exact run_make M F hr hb .nil hx I2 r q
def eMakeL (i cn : Nat) (fn : Fn) (g : Ax) : Ex := fun st => match st.env[i]? with
  | some (some (.cls c)) => if c = cn then (g st).bind fun ds c1 => makeD cn fn ds c1 else .no
  | _ => .no
theorem de_makeL (hW : Flat W) (tk : Takes X W) (M : Mk X.K (G.K.κ cn) f) (hF : FnOk X.prog X.w X.K X.mg X.base (L2.CX X.prog X.w) k f fd ps (spF G.K ps.length fn)) (hr : Room (k + 1) X.A) (hN : X.N[i]? = some x) (hv : Vis X.env.scope x) (hb : Binds X.K fd ps [])
    (ha : PA X (e :: es) (tAs G W g)) (hlen : ∀ st ds c1, g st = .ok ds c1 → ds.length + 1 = ps.length) (hdb : (x == ("__debug__" : Str)) = false := by decide) (hcd : (x == ("__classdict__" : Str)) = false := by decide) (he : starEach (e :: es) X.env = (false, eval e X.env) :: starEach es X.env := by rfl) (hpl : (backTo pos (starEach es X.env)).any (·.1) = false := by rfl) :
    PE X (.Call (.Name x p) (e :: es) [] pos) (tE G W (eMakeL i cn fn g)) := by
  refine (pe_makeL M hF hr hN hv hb (passF tk hW) ha hdb hcd he hpl).impV ?_
  rintro σ H Q ⟨ρ, F, st, r, po⟩
  unfold eMakeL at po
  cases q0 : st.env[i]? with
  | none => rw [q0] at po; exact po.elim
  | some oo =>
    cases oo with
    | none => rw [q0] at po; exact po.elim
    | some d =>
      cases d with
      | cls c =>
        rw [q0] at po
        dsimp only at po
        by_cases hc : c = cn
        · subst hc
          rw [if_pos rfl] at po
          obtain ⟨v, e1, e2⟩ := r.env i _ q0
          cases e2
          refine ⟨e1, ρ, F, st, r, ?_⟩
          cases q : g st with
          | no => rw [q] at po; exact po.elim
          | ex e' cs => rw [q] at po; exact po
          | ok ds c1 =>
            rw [q] at po
            have po : Post RV G W ρ F st.env σ Q (makeD c fn ds c1) := po
            intro ρ1 F1 H1 vs x1 r1 rv1 x dx nx ndx ne
            rw [List.append_nil]
            exact make_of (st := ⟨st.env, c1⟩) hW r1 rv1 (hlen _ _ _ q) nx ndx ne (Post.ext x1 po)
        · rw [if_neg hc] at po
          exact po.elim
      | _ => rw [q0] at po; exact po.elim
theorem fnR_of {P : Program} {w : World} {K : PySem.W.Frag} {mg : Str → Option Value} {base : Heap} {CX : CXT} {sp : Sp} (F : FnOk P w K mg base CX k f fd ps sp) (hb : Binds K fd ps []) : FnR P w K mg base CX k f sp := fun A outer s H us vs Q E hr e0 r hs =>
  F.run A outer s H ⟨us, []⟩ us vs Q E hr e0 (by
    have hl := F.len _ _ _ _ hs
    rw [Paired.length r] at hl
    simpa using hb s us (e0.mod.kin.keeps fun b o z => (e0.bs b o z).1) (by simpa using hl)) r hs
theorem spF_flat {K : Kt} {m : Nat} {vs : List V} {H : Hp} {Q : VK} {σ σ' : L2.St} (hW : Flat W) (h : spF K m fn vs H Q (WE W σ)) : spF K m fn vs H Q (fun c d H => W c d σ' H) := by
  obtain ⟨ρ0, F0, ds, cs, r0, rv, hl, po⟩ := h
  refine ⟨ρ0, F0, ds, cs, r0, rv, hl, ?_⟩
  cases e : fn ds cs with
  | ok d cs' => rw [e] at po; exact po
  | ex d cs' => rw [e] at po; exact fun ρ F H cls dx x r xa => hW _ _ _ _ _ (po ρ F H cls dx x r xa)
  | no => rw [e] at po; exact po
/-- C.m(..), m a classmethod -/
def eCMeth (n cn : Nat) (fn : Fn) (g : Ax) : Ex := fun st => (g st).bind fun ds c1 => callV n fn (.cls cn :: ds) c1
theorem de_cmeth {m : Str} {mc : Value} {pc : Addr} {pl : Sem Bool} (n : Nat) (hK : X.K = G.K.K) (hW : Flat W) (tk : Takes X W) (rc : ClX.CRead X.K (G.K.κ cn) mc) (c : ClX.CMet X.K (G.K.κ cn) mc m pc f) (hF : FnOk X.prog X.w X.K X.mg X.base (L2.CX X.prog X.w) k f fd ps (spF G.K ps.length fn)) (hb : Binds X.K fd ps []) (hr : Room k X.A)
    (hg : Gl X x) (hm : X.mg x = some (.ref (G.K.κ cn))) (ha : PA X (e :: es) (tAs G W g)) (hlen : ∀ st ds c1, g st = .ok ds c1 → ds.length + 1 = ps.length) (hdb : (x == ("__debug__" : Str)) = false := by decide) (hst : starEach (e :: es) X.env = (false, eval e X.env) :: starEach es X.env := by rfl) (hpl : (backTo pos (starEach es X.env)).any (·.1) = false := by rfl)
    (ht : eval (.Call (.Attribute (.Name x p) m apos) (e :: es) [] pos) X.env = (do
      let ov ← eval (.Name x p) X.env
      standAt apos.atName
      let (f, first) ← holding [ov] (getMethod ov m pl)
      callWith pos f first (backTo pos (starEach (e :: es) X.env)) (backToKw pos (keywordEach [] X.env))) := by rfl) :
    PE X (.Call (.Attribute (.Name x p) m apos) (e :: es) [] pos) (tE G W (eCMeth n cn fn g)) := by
  have hC : PE X (.Name x p) (tC (.ref (G.K.κ cn))) := pe_glob hg hm rfl hdb
  refine (ClX.pe_cmeth (pl := pl) hC rc c (fnR_of hF hb) hr (passF tk hW) ha hst hpl ht).impV ?_
  rintro σ H Q ⟨ρ, F, st, r, po⟩
  unfold eCMeth at po
  refine ⟨rfl, ρ, F, st, r, ?_⟩
  cases q : g st with
  | no => rw [q] at po; exact po.elim
  | ex e' cs => rw [q] at po; exact po
  | ok ds c1 =>
    rw [q] at po
    have po : Post RV G W ρ F st.env σ Q (callV n fn (.cls cn :: ds) c1) := po
    exact fun ρ1 F1 H1 vs x1 r1 rv1 => spF_flat hW (callV_of (st := ⟨st.env, c1⟩) (m := ps.length) r1 (.cons (.cls cn) rv1) (by simpa using hlen _ _ _ q) (Post.ext x1 po))
end
end VL

/-! VLXA: methods of a class; new objects by keywords, by defaults -/
namespace VL
open PySem L2 PyProof.Rows
/-- the def `name` of the class cn is there -/
structure TxtM (K : Kt) (cn : Nat) (name qual : Str) (st : Stmt) (ps : List Str) : Prop where
  ex : ∃ (f : Addr) (fd : FuncData), PySem.W.findIn K.K (.ref (K.κ cn)) name = some (some (.ref f)) ∧ PySem.W.isFn K.K (.ref f) = true ∧ FunA K.K name qual st .none f fd ∧ Binds K.K fd ps []
section
variable {P : Program} {w : World} {K : Kt} {mg : Str → Option Value} {base : Heap} {x qual name : Str} {st : Stmt} {f : Addr} {fd : FuncData} {ps N : List Str} {k cn : Nat} {fn fn' : Fn} {body : Sx}
theorem mkDefM (t : TxtM K cn name qual st ps) (S : FnScope N ps (defScope st))
    (hbody : ∀ (f : Addr) (G : Gx), G.K = K → ∀ (cdv : Value) (A : Around) (outer : List Env) (s : Shared) (H : Hp) (E : XK), Room k (A.deeper (envOfC qual (defScope st) s.heap.objs.size f cdv)) →
      PSs (cxOf (L2.CX P w) P w K.K mg base N qual (defScope st) f cdv A outer s H E) (defBody st) (tS G (fun cls d _ H' => E cls d H') body)) :
    DefM P w K mg base cn name (k + 1) ps (runF N.length body) := by
  obtain ⟨f, fd, h1, h2, h3, h4⟩ := t.ex
  exact ⟨f, fd, h1, h2, h4, okA h3 S fun G e cdv A outer s H E hr => hbody f G e cdv A outer s H E hr⟩
theorem DefM.trim (d : DefM P w K mg base cn name k ps fn) : DefM P w K mg base cn name k ps (trimF fn) := by
  obtain ⟨f, fd, h1, h2, h3, h4⟩ := d.ex
  exact ⟨f, fd, h1, h2, h3, fnTrim h4⟩
/-- a classmethod -/
structure TxtCM (K : Kt) (mg : Str → Option Value) (x : Str) (cn : Nat) (name qual : Str) (st : Stmt) (ps : List Str) : Prop where
  ex : ∃ (f pc : Addr) (fd : FuncData) (mc : Value), mg x = some (.ref (K.κ cn)) ∧ ClX.CRead K.K (K.κ cn) mc ∧ ClX.CMet K.K (K.κ cn) mc name pc f ∧ FunA K.K name qual st .none f fd ∧ Binds K.K fd ps []
structure DefCM (P : Program) (w : World) (K : Kt) (mg : Str → Option Value) (base : Heap) (x : Str) (cn : Nat) (name : Str) (k : Nat) (ps : List Str) (fn : Fn) : Prop where
  ex : ∃ (f pc : Addr) (fd : FuncData) (mc : Value), mg x = some (.ref (K.κ cn)) ∧ ClX.CRead K.K (K.κ cn) mc ∧ ClX.CMet K.K (K.κ cn) mc name pc f ∧ Binds K.K fd ps [] ∧ FnOk P w K.K mg base (L2.CX P w) k f fd ps (spF K ps.length fn)
theorem mkDefCM (t : TxtCM K mg x cn name qual st ps) (S : FnScope N ps (defScope st))
    (hbody : ∀ (f : Addr) (G : Gx), G.K = K → ∀ (cdv : Value) (A : Around) (outer : List Env) (s : Shared) (H : Hp) (E : XK), Room k (A.deeper (envOfC qual (defScope st) s.heap.objs.size f cdv)) →
      PSs (cxOf (L2.CX P w) P w K.K mg base N qual (defScope st) f cdv A outer s H E) (defBody st) (tS G (fun cls d _ H' => E cls d H') body)) :
    DefCM P w K mg base x cn name (k + 1) ps (runF N.length body) := by
  obtain ⟨f, pc, fd, mc, h1, h2, h3, h4, h5⟩ := t.ex
  exact ⟨f, pc, fd, mc, h1, h2, h3, h5, okA h4 S fun G e cdv A outer s H E hr => hbody f G e cdv A outer s H E hr⟩
theorem DefCM.trim (d : DefCM P w K mg base x cn name k ps fn) : DefCM P w K mg base x cn name k ps (trimF fn) := by
  obtain ⟨f, pc, fd, mc, h1, h2, h3, h4, h5⟩ := d.ex
  exact ⟨f, pc, fd, mc, h1, h2, h3, h4, fnTrim h5⟩
end
section
variable {X : Cx} {G : Gx} {W : WX} {e : Expr} {es : List Expr} {g : Ax} {pos p apos : Pos} {x m : Str} {cn k i : Nat} {fn : Fn} {ps : List Str}
theorem de_cmethD {pl : Sem Bool} (n : Nat) (d : DefCM X.prog X.w G.K X.mg X.base x cn m k ps fn) (hK : X.K = G.K.K) (hW : Flat W) (tk : Takes X W) (hr : Room k X.A)
    (ha : PA X (e :: es) (tAs G W g)) (hlen : ∀ st ds c1, g st = .ok ds c1 → ds.length + 1 = ps.length) (hg : Gl X x := by rfl) (hdb : (x == ("__debug__" : Str)) = false := by decide) (hst : starEach (e :: es) X.env = (false, eval e X.env) :: starEach es X.env := by rfl) (hpl : (backTo pos (starEach es X.env)).any (·.1) = false := by rfl)
    (ht : eval (.Call (.Attribute (.Name x p) m apos) (e :: es) [] pos) X.env = (do
      let ov ← eval (.Name x p) X.env
      standAt apos.atName
      let (f, first) ← holding [ov] (getMethod ov m pl)
      callWith pos f first (backTo pos (starEach (e :: es) X.env)) (backToKw pos (keywordEach [] X.env))) := by rfl) :
    PE X (.Call (.Attribute (.Name x p) m apos) (e :: es) [] pos) (tE G W (eCMeth n cn fn g)) := by
  obtain ⟨f, pc, fd, mc, h1, h2, h3, h4, h5⟩ := d.ex
  rw [← hK] at h2 h3 h4 h5
  exact de_cmeth (pl := pl) n hK hW tk h2 h3 h5 h4 hr hg h1 ha hlen hdb hst hpl ht
theorem de_makeLD (d : DefC X.prog X.w G.K X.mg X.base x cn k ps fn) {y : Str} (hK : X.K = G.K.K) (hW : Flat W) (tk : Takes X W) (hr : Room (k + 1) X.A) (hN : X.N[i]? = some y) (hv : Vis X.env.scope y) (ha : PA X (e :: es) (tAs G W g)) (hlen : ∀ st ds c1, g st = .ok ds c1 → ds.length + 1 = ps.length)
    (hdb : (y == ("__debug__" : Str)) = false := by decide) (hcd : (y == ("__classdict__" : Str)) = false := by decide) (he : starEach (e :: es) X.env = (false, eval e X.env) :: starEach es X.env := by rfl) (hpl : (backTo pos (starEach es X.env)).any (·.1) = false := by rfl) :
    PE X (.Call (.Name y p) (e :: es) [] pos) (tE G W (eMakeL i cn fn g)) := by
  obtain ⟨f, fd, h1, h2, h3, h4⟩ := d.ex
  rw [← hK] at h2 h3 h4
  exact de_makeL hW tk h2 h4 hr hN hv h3 ha hlen hdb hcd he hpl
end
end VL

/-! VLXB: new objects by keywords alone, and with all defaults -/
namespace VL
open PySem L2 PyProof.Rows
section
variable {X : Cx} {G : Gx} {W : WX} {g : Ax} {pos p : Pos} {x : Str} {cn k : Nat} {fn : Fn} {f : Addr} {fd : FuncData} {ps ks : List Str} {kws : List Keyword}
/-- C(k = v, ..): the values by the parameters' places -/
def eMakeK (cn : Nat) (fn : Fn) (ix : List Nat) (g : Ax) : Ex := fun st => (g st).bind fun ds c1 => makeD cn fn (permD ix ds) c1
theorem de_makeK (ix : List Nat) (hW : Flat W) (tk : Takes X W) (M : Mk X.K (G.K.κ cn) f) (hF : FnOk X.prog X.w X.K X.mg X.base (L2.CX X.prog X.w) k f fd ps (spF G.K ps.length fn)) (hr : Room (k + 1) X.A) (hg : Gl X x) (hm : X.mg x = some (.ref (G.K.κ cn)))
    (hb : KBn X.K fd ps 1 ks (fun us ws => us ++ ix.map fun i => ws.getD i .none) (fun vs zs => vs ++ permV ix zs)) (hkw : PK X kws (tAs G W g)) (hlen : ∀ st ds c1, g st = .ok ds c1 → ds.length = ks.length) (hix : ∀ i ∈ ix, i < ks.length) (hixl : ix.length + 1 = ps.length)
    (hall : (backToKw pos (keywordEach kws X.env)).all (·.1.isSome) = true := by rfl) (hks : (backToKw pos (keywordEach kws X.env)).filterMap (·.1) = ks := by rfl) (hdb : (x == ("__debug__" : Str)) = false := by decide)
    (hpl : ((backTo pos (starEach [] X.env)).any (·.1) || (backToKw pos (keywordEach kws X.env)).any (·.1.isNone)) = false := by rfl) :
    PE X (.Call (.Name x p) [] kws pos) (tE G W (eMakeK cn fn ix g)) := by
  refine (pe_makeK0 M hF hr hg hm hb (passF tk hW) hkw hall hks hdb hpl).impV ?_
  rintro σ H Q ⟨ρ, F, st, r, po⟩
  unfold eMakeK at po
  refine ⟨ρ, F, st, r, ?_⟩
  cases q : g st with
  | no => rw [q] at po; exact po.elim
  | ex e' cs => rw [q] at po; exact po
  | ok ds c1 =>
    rw [q] at po
    have po : Post RV G W ρ F st.env σ Q (makeD cn fn (permD ix ds) c1) := po
    intro ρ1 F1 H1 vs x1 r1 rv1
    have hl := hlen _ _ _ q
    have hp := perm_rel rv1 ix fun i hi => by rw [hl]; exact hix i hi
    refine ⟨rfl, by rw [← rv1.length]; exact hl, ?_⟩
    intro y dx nx ndx ne
    exact make_of (st := ⟨st.env, c1⟩) hW r1 hp (by unfold permD; rw [List.length_map]; exact hixl) nx ndx ne (Post.ext x1 po)
/-- C(), every parameter by its default -/
def eMake0 (cn : Nat) (fn : Fn) (ds : List D) : Ex := fun st => makeD cn fn ds st.cs
theorem de_make0 {its : List Value} {dvs : List V} {ds : List D} (hW : Flat W) (tk : Takes X W) (M : Mk X.K (G.K.κ cn) f) (hF : FnOk X.prog X.w X.K X.mg X.base (L2.CX X.prog X.w) k f fd ps (spF G.K ps.length fn)) (hr : Room (k + 1) X.A) (hg : Gl X x) (hm : X.mg x = some (.ref (G.K.κ cn))) (hb : Binds X.K fd ps its) (hd : Vals dvs its)
    (hv : ∀ ρ F, RVs G.K ρ F ds dvs) (hl : ds.length + 1 = ps.length) (hdb : (x == ("__debug__" : Str)) = false := by decide) : PE X (.Call (.Name x p) [] [] pos) (tE G W (eMake0 cn fn ds)) := by
  refine (pe_make0 M hF hr hg hm hb hd (passF tk hW) hdb).impV ?_
  rintro σ H Q ⟨ρ, F, st, r, po⟩
  intro y dx nx ndx ne
  exact make_of hW r (hv ρ F) hl nx ndx ne po
end
end VL

/-! VLXC: an own exception class out of the written part's facts -/
namespace VL
open PySem L2 PyProof.Rows PySem.W
/-- the class at C: own classes, then ValueError's -/
def oexB (newId : String) (tl : List Value) (K : Frag) (C : Addr) : Bool := match K.lookup C with
  | some ⟨.type "type", _, .cls cd, sl⟩ => (match cd.mro, sl.toList with
    | .ref C1 :: bm, [_, _, _, _, some (.builtin b), _] => C1 == C && b == newId && (!cd.hasDel && (cd.hasDict && refsL tl bm))
    | _, _ => false)
  | _ => false
theorem oex_of {B newId : String} {tl : List Value} {K : Frag} {C : Addr} (h : oexB newId tl K C = true) (sa : findIn K (.ref C) "__setattr__" = some (some (.builtin "object.__setattr__"))) (exC : subIn K (.ref C) (.type "BaseException") = some true) (tyC : typeIn K (.ref C) = some (.type "type")) (kC : keepIn K (.ref C) = true) : OexB B newId tl K C := by
  refine ⟨?_, sa, exC, tyC, kC⟩
  unfold oexB at h
  split at h
  · rename_i dd cd sl ho
    split at h
    · rename_i C1 bm k0 k1 k2 k3 b k5 e1 e2
      simp only [Bool.and_eq_true, beq_iff_eq, Bool.not_eq_true'] at h
      obtain ⟨⟨rfl, rfl⟩, hdel, hdi, ht⟩ := h
      obtain ⟨nm, bs, mro, ns, qn, hd, sn, sub, ab, col, del⟩ := cd
      dsimp only at e1 hdel hdi
      subst e1 hdel hdi
      have es : sl = #[k0, k1, k2, k3, some (.builtin b), k5] := by
        obtain ⟨l⟩ := sl
        exact congrArg Array.mk e2
      subst es
      exact ⟨nm, qn, ns, bs, bm, sn, sub, ab, col, dd, k0, k1, k2, k3, k5, ho, ht⟩
    · cases h
  · cases h
section
variable {P : Program} {w : World} {K : Kt} {mg : Str → Option Value} {base : Heap} {x : Str} {cn : Nat} {f cc cda : Addr} {st : Stmt} {qual txt fld par : Str} {dV kV doc pm ct oc cl ccl : Value} {an od cld cdd : Option Addr} {osl csl ccs : Array (Option Value)} {vs0 : Array Value} {file : Str} {tf : Tok} {j : Nat} {p0 p1 p2 p3 p4 p5 p6 p7 p8 p9 : Pos} {ar : Arg}
theorem xc_of {B newId initId : String} {tl : List Value} (BF : BaseF B newId initId tl) (lk : K.K.lookup f = some ⟨oc, od, .func (ksFn "__init__" qual (defArgs st) (defBody st) (defScope st) dV kV doc pm an (.ref cda) ct cc), osl⟩) (hcd : codeIn K.K (.ref cda) qual = true) (hcode : K.K.lookup cda = some ⟨ccl, cdd, .fields vs0, ccs⟩) (hvs : vs0[2]? = some (.str file tf)) (hfile : ((P.main.file : Str) == file) = true) (hcell : K.K.lookup cc = some ⟨cl, cld, .cell (some (.ref (K.κ cn))), csl⟩)
    (T : OexB B newId tl K.K (K.κ cn)) (no : findIn K.K (.ref (K.κ cn)) fld = some none) (sup : ks_superIn K.K (K.κ cn) (K.κ cn) "__init__" = some (some (.builtin initId))) (mro : mroIn K.K (K.κ cn) (.ref (K.κ cn)) = some true) (ve : subIn K.K (.ref (K.κ cn)) (.type B) = some true) (any : nsIn K.K cStatics "thirdparty.any" = some none) (ms : mg "super" = none) (top : (P.main.scope.names.lookup ("super" : Str)).isSome = false)
    (hm : mg x = some (.ref (K.κ cn))) (hi : findIn K.K (.ref (K.κ cn)) "__init__" = some (some (.ref f))) (ht : typeIn K.K (.ref f) = some (.type "function"))
    (hbody : defBody st = [.Expr (.Call (.Attribute (.Call (.Name "super" p0) [] [] p1) "__init__" p2) [.Constant (.str txt) j p3] [] p4) p5, .Assign [.Attribute (.Name "self" p6) fld p7] (.Name par p8) p9])
    (hev : MethEv (.Call (.Name "super" p0) [] [] p1) "__init__" p2 [.Constant (.str txt) j p3] p4) (hp : ((defArgs st).posonlyargs ++ (defArgs st).args).head? = some ar) (har : ar.arg = "self") (hks : (defScope st).names.lookup ("super" : Str) = some .globalImplicit) (hkc : (defScope st).names.lookup ("__class__" : Str) = some .free) (hka : (defScope st).names.lookup ("self" : Str) = some .local) (hkp : (defScope st).names.lookup par = some .local)
    (hk : (defScope st).kind = .function) (hcells : ∀ x ∈ (defScope st).names, x.2 ≠ .cell) (hco : (defScope st).isCoroutine = false) (hgen : (defScope st).isGenerator = false) (hpar : par ≠ "self") (hdb : (par == ("__debug__" : Str)) = false)
    (hbind : ∀ us : List Value, us.length = 2 → bindArgs (ksFn "__init__" qual (defArgs st) (defBody st) (defScope st) dV kV doc pm an (.ref cda) ct cc) ⟨us, []⟩ = pure ([("self" : Str), par].zip us)) : Xc P w K mg base x cn fld := by
  refine ⟨B, newId, initId, tl, f, _, ["self", par], BF, hm, T, hi, ht, .all hbind, ?_⟩
  have S : SupB B newId initId tl P K.K mg (K.κ cn) f (ksFn "__init__" qual (defArgs st) (defBody st) (defScope st) dV kV doc pm an (.ref cda) ct cc) fld := ⟨T, no, sup, mro, ve, any, ms, top, oc, cl, ccl, od, cld, cdd, osl, csl, ccs, vs0, file, tf, cc, cda, lk, rfl, rfl, hcd, hcode, hvs, hfile, hcell⟩
  rw [hbody] at S ⊢
  exact fn_superB BF S hev hp har hks hkc hka hkp hk hcells hco hgen hpar hdb
end
end VL

/-! VLXD: new objects and classmethods where the wish hangs on the slots (a try's body) -/
namespace VL
open PySem L2 PyProof.Rows
section
variable {X : Cx} {G : Gx} {W : WX} {e : Expr} {es : List Expr} {g : Ax} {pos p apos : Pos} {x : Str} {cn k : Nat} {fn : Fn} {f C : Addr} {fd : FuncData} {ps : List Str} {sp : Sp} {CX : CXT}
theorem run_makeS {E : XK} {pins : List (Addr × Obj)} {σ : L2.St} {H : Hp} {s : Shared} {Q : VK} {us : List Value} {vs : List V} (M : Mk X.K C f) (F : FnOk X.prog X.w X.K X.mg X.base CX k f fd ps sp) (hr : Room (k + 1) X.A) (hb : Binds X.K fd ps []) (hx : PassesAt CX X σ E) (I : Inv X pins σ H s) (r : Vals vs us)
    (h : ∀ x dx, H x = none → H dx = none → dx ≠ x → sp (.ref x :: vs) (upd (upd H dx (.own x)) x (.ins C dx [])) (fun v H2 => v = .non ∧ Q (.ref x) H2) E) : wpAny (model X.prog X.w) X.A (call (.ref C) us) (EP X pins σ Q) X.xe s := by
  have q0 := h _ _ (I.hok.fresh (Nat.le_succ s.heap.objs.size)) (I.hok.fresh (Nat.le_refl s.heap.objs.size)) (Nat.ne_of_lt (Nat.lt_succ_self _))
  have J := Inv.made (C := C) I
  have rs : Vals (V.ref (s.heap.objs.size + 1) :: vs) (Value.ref (s.heap.objs.size + 1) :: us) := .cons rfl r
  have ln : (Value.ref (s.heap.objs.size + 1) :: us).length = ps.length := by rw [← F.len _ _ _ _ q0]; exact rs.length.symm
  have bd := hb _ (Value.ref (s.heap.objs.size + 1) :: us) J.kIn (by simpa using ln)
  rw [List.append_nil] at bd
  refine wpAny_call (make_map (f := f) I.kIn M.makes M.init (beq_iff_eq.mp M.fn) (codeAny_mono (F.run _ X.stack _ _ _ _ _ _ E (hr.make C us []) (J.env0.make C us []) bd rs q0) fun res s' hq => ?_))
  match res, hq with
  | .error e, hq => exact hx pins _ _ e s' J hq
  | .ok (.ret u), hq =>
    obtain ⟨v, H', I3, rv, ev, q3⟩ := J.after hq
    subst ev
    exact ⟨rv, V.ref (s.heap.objs.size + 1), H', I3, rfl, q3⟩
theorem de_makeS (tk : Takes X W) (M : Mk X.K (G.K.κ cn) f) (hF : FnOk X.prog X.w X.K X.mg X.base (L2.CX X.prog X.w) k f fd ps (spF G.K ps.length fn)) (hr : Room (k + 1) X.A) (hg : Gl X x) (hm : X.mg x = some (.ref (G.K.κ cn))) (hb : Binds X.K fd ps [])
    (ha : PA X (e :: es) (tAs G W g)) (hlen : ∀ st ds c1, g st = .ok ds c1 → ds.length + 1 = ps.length) (hdb : (x == ("__debug__" : Str)) = false := by decide) (he : starEach (e :: es) X.env = (false, eval e X.env) :: starEach es X.env := by rfl) (hpl : (backTo pos (starEach es X.env)).any (·.1) = false := by rfl) :
    PE X (.Call (.Name x p) (e :: es) [] pos) (tE G W (eMake cn fn g)) := by
  refine ⟨fun pins s σ H Q I ⟨ρ, F, st, r, po⟩ => ?_⟩
  refine wpAny_Call_Name_kw (ld_glob I hg hm ?_ hdb)
  have hta : tAs G W g σ H fun vs H1 => ∀ x dx, H1 x = none → H1 dx = none → dx ≠ x → spF G.K ps.length fn (.ref x :: vs) (upd (upd H1 dx (.own x)) x (.ins (G.K.κ cn) dx [])) (fun v H2 => v = .non ∧ Q (.ref x) H2) (WE W σ) := by
    unfold eMake at po
    refine ⟨ρ, F, st, r, ?_⟩
    cases q : g st with
    | no => rw [q] at po; exact po.elim
    | ex e' cs => rw [q] at po; exact po
    | ok ds c1 =>
      rw [q] at po
      have po : Post RV G W ρ F st.env σ Q (makeD cn fn ds c1) := po
      intro ρ1 F1 H1 vs x1 r1 rv1 x dx nx ndx ne
      have p2 := Post.ext x1 po
      have p3 : Post RV G (fun c d _ H => W c d σ H) ρ1 F1 st.env σ Q (makeD cn fn ds c1) := by
        cases q5 : makeD cn fn ds c1 with
        | ok d cs => rw [q5] at p2; exact p2
        | ex d cs => rw [q5] at p2; exact p2
        | no => rw [q5] at p2; exact p2
      exact make_of (W := fun c d _ H => W c d σ H) (st := ⟨st.env, c1⟩) (fun _ _ _ _ _ h => h) r1 rv1 (hlen _ _ _ q) nx ndx ne p3
  refine PySem.W.callWith_K (h₀ := X.base) I.ok.mod.kin M.kp (thn (ha.run pos pins s σ H _ I hta) fun us s1 ⟨vs, H1, I1, r1, q1⟩ => ⟨I1.kIn, ?_⟩) he hpl
  exact run_makeS M hF hr hb (passAt tk σ) I1 r1 q1
end
end VL

/-! VLXE: a classmethod called where the wish hangs on the slots -/
namespace VL
open PySem L2 PyProof.Rows
section
variable {X : Cx} {G : Gx} {W : WX} {e : Expr} {es : List Expr} {g : Ax} {pos p apos : Pos} {x : Str} {cn k : Nat} {fn : Fn} {f : Addr} {fd : FuncData} {ps : List Str}
theorem de_cmethS {m : Str} {mc : Value} {pc : Addr} {pl : Sem Bool} (n : Nat) (hK : X.K = G.K.K) (tk : Takes X W) (rc : ClX.CRead X.K (G.K.κ cn) mc) (c : ClX.CMet X.K (G.K.κ cn) mc m pc f) (hF : FnOk X.prog X.w X.K X.mg X.base (L2.CX X.prog X.w) k f fd ps (spF G.K ps.length fn)) (hb : Binds X.K fd ps []) (hr : Room k X.A)
    (hg : Gl X x) (hm : X.mg x = some (.ref (G.K.κ cn))) (ha : PA X (e :: es) (tAs G W g)) (hlen : ∀ st ds c1, g st = .ok ds c1 → ds.length + 1 = ps.length) (hdb : (x == ("__debug__" : Str)) = false := by decide) (hst : starEach (e :: es) X.env = (false, eval e X.env) :: starEach es X.env := by rfl) (hpl : (backTo pos (starEach es X.env)).any (·.1) = false := by rfl)
    (ht : eval (.Call (.Attribute (.Name x p) m apos) (e :: es) [] pos) X.env = (do
      let ov ← eval (.Name x p) X.env
      standAt apos.atName
      let (f, first) ← holding [ov] (getMethod ov m pl)
      callWith pos f first (backTo pos (starEach (e :: es) X.env)) (backToKw pos (keywordEach [] X.env))) := by rfl) :
    PE X (.Call (.Attribute (.Name x p) m apos) (e :: es) [] pos) (tE G W (eCMeth n cn fn g)) := by
  refine ⟨fun pins s σ H Q I ⟨ρ, F, st, r, po⟩ => ?_⟩
  have hta : tAs G W g σ H fun vs H1 => spF G.K ps.length fn (.ref (G.K.κ cn) :: vs) H1 Q (WE W σ) := by
    unfold eCMeth at po
    refine ⟨ρ, F, st, r, ?_⟩
    cases q : g st with
    | no => rw [q] at po; exact po.elim
    | ex e' cs => rw [q] at po; exact po
    | ok ds c1 =>
      rw [q] at po
      have po : Post RV G W ρ F st.env σ Q (callV n fn (.cls cn :: ds) c1) := po
      exact fun ρ1 F1 H1 vs x1 r1 rv1 => callV_of (st := ⟨st.env, c1⟩) (m := ps.length) r1 (.cons (.cls cn) rv1) (by simpa using hlen _ _ _ q) (Post.ext x1 po)
  refine PySem.W.methodCall_KW (pl := pl) (ld_glob I hg hm ?_ hdb) ht
  refine ClX.getmethcm_ok I rc c fun s2 I2 => ?_
  refine ClX.callwith_cm I2 (ClX.base_none I (Nat.le_refl _)) c.fi (thn (ha.run pos _ s2 σ H _ I2 hta) fun us s3 ⟨vs, H2, I3, rv, q2⟩ => ⟨⟨ClX.pin_at I3, I3.kIn⟩, ?_⟩) hst hpl
  have rs : Vals (V.ref (G.K.κ cn) :: vs) (Value.ref (G.K.κ cn) :: us) := .cons rfl rv
  have z : wpAny (model X.prog X.w) X.A (call (.ref s.heap.objs.size) us) (EP X ((s.heap.objs.size, PySem.W.methodObj (.ref f) (.ref (G.K.κ cn))) :: pins) σ Q) X.xe s3 := by
    refine wpAny_call (PySem.W.method_call (ClX.pin_at I3) (codeAny_mono (fnR_of hF hb X.A X.stack s3 H2 _ _ Q (WE W σ) hr I3.env0 rs q2) fun res s' hq => ?_))
    match res, hq with
    | .error e, hq => exact passAt tk σ _ _ _ e s' I3 hq
    | .ok (.ret u), hq => exact I3.after hq
  exact thn z fun _ _ y => ClX.unpinE y
end
end VL

/-! VLXF: the rules of a try's body, by the defs' names -/
namespace VL
open PySem L2 PyProof.Rows
section
variable {X : Cx} {G : Gx} {W : WX} {e : Expr} {es : List Expr} {g : Ax} {pos p apos : Pos} {x m : Str} {cn k : Nat} {fn : Fn} {ps : List Str}
theorem de_makeSD (d : DefC X.prog X.w G.K X.mg X.base x cn k ps fn) (hK : X.K = G.K.K) (tk : Takes X W) (hr : Room (k + 1) X.A) (ha : PA X (e :: es) (tAs G W g)) {j : Nat} (hl : ALen j g) (hj : j + 1 = ps.length) (hg : Gl X x := by rfl) (hdb : (x == ("__debug__" : Str)) = false := by decide) (he : starEach (e :: es) X.env = (false, eval e X.env) :: starEach es X.env := by rfl) (hpl : (backTo pos (starEach es X.env)).any (·.1) = false := by rfl) :
    PE X (.Call (.Name x p) (e :: es) [] pos) (tE G W (eMake cn fn g)) := by
  obtain ⟨f, fd, h1, h2, h3, h4⟩ := d.ex
  rw [← hK] at h2 h3 h4
  exact de_makeS tk h2 h4 hr hg h1 h3 ha (fun st ds c1 q => by rw [hl st ds c1 q]; exact hj) hdb he hpl
theorem de_cmethSD {pl : Sem Bool} (n : Nat) (d : DefCM X.prog X.w G.K X.mg X.base x cn m k ps fn) (hK : X.K = G.K.K) (tk : Takes X W) (hr : Room k X.A)
    (ha : PA X (e :: es) (tAs G W g)) {j : Nat} (hl : ALen j g) (hj : j + 1 = ps.length) (hg : Gl X x := by rfl) (hdb : (x == ("__debug__" : Str)) = false := by decide) (hst : starEach (e :: es) X.env = (false, eval e X.env) :: starEach es X.env := by rfl) (hpl : (backTo pos (starEach es X.env)).any (·.1) = false := by rfl)
    (ht : eval (.Call (.Attribute (.Name x p) m apos) (e :: es) [] pos) X.env = (do
      let ov ← eval (.Name x p) X.env
      standAt apos.atName
      let (f, first) ← holding [ov] (getMethod ov m pl)
      callWith pos f first (backTo pos (starEach (e :: es) X.env)) (backToKw pos (keywordEach [] X.env))) := by rfl) :
    PE X (.Call (.Attribute (.Name x p) m apos) (e :: es) [] pos) (tE G W (eCMeth n cn fn g)) := by
  obtain ⟨f, pc, fd, mc, h1, h2, h3, h4, h5⟩ := d.ex
  rw [← hK] at h2 h3 h4 h5
  exact de_cmethS (pl := pl) n hK tk h2 h3 h5 h4 hr hg h1 ha (fun st ds c1 q => by rw [hl st ds c1 q]; exact hj) hdb hst hpl ht
end
end VL

/-! VLXG: tables of isinstance for one own class -/
namespace VL
open PySem L2 PyProof.Rows
def ansB (T : String) (c0 : Nat) : Ty → Option Bool
  | .t n => isSub n T
  | .c C => if C = c0 then some false else none
theorem ansB_ok {K : Kt} {T : String} {c0 : Nat} (h : PySem.W.kitOne K.K (.ref (K.κ c0)) (.type T) = some false) (i : InsC K.K (K.κ c0)) : AnsOk K (.type T) (ansB T c0) := by
  intro t b e
  cases t with
  | t n => exact ⟨kit_ty (isSub_of e), fun C z => by cases z⟩
  | c C =>
    have e : (if C = c0 then some false else none) = some b := e
    by_cases q : C = c0
    · rw [if_pos q] at e
      cases e
      subst q
      exact ⟨h, fun C' z => by cases z; exact i⟩
    · rw [if_neg q] at e
      cases e
def tyNames : List String := ["NoneType", "bool", "int", "str", "tuple", "list"]
def ansO (c0 : Nat) : Ty → Option Bool
  | .t n => if tyNames.contains n then some false else none
  | .c C => if C = c0 then some true else none
theorem ansO_ok {K : Kt} {c0 : Nat} (h : ∀ n ∈ tyNames, PySem.W.kitOne K.K (.type n) (.ref (K.κ c0)) = some false) (i : InsC K.K (K.κ c0)) : AnsOk K (.ref (K.κ c0)) (ansO c0) := by
  intro t b e
  cases t with
  | t n =>
    have e : (if tyNames.contains n = true then some false else none) = some b := e
    by_cases q : tyNames.contains n = true
    · rw [if_pos q] at e
      cases e
      exact ⟨h n (List.contains_iff_mem.mp q), fun C z => by cases z⟩
    · rw [if_neg q] at e
      cases e
  | c C =>
    have e : (if C = c0 then some true else none) = some b := e
    by_cases q : C = c0
    · rw [if_pos q] at e
      cases e
      subst q
      refine ⟨?_, fun C' z => by cases z; exact i⟩
      unfold PySem.W.kitOne
      exact if_pos (beq_self_eq_true _)
    · rw [if_neg q] at e
      cases e
end VL

/-! VLXH: classes whose parameters have defaults, made by keywords or with none -/
namespace VL
open PySem L2 PyProof.Rows
theorem permV_vals {zs : List V} {ws : List Value} (rz : Vals zs ws) : ∀ l : List Nat, Vals (permV l zs) (l.map fun i => ws.getD i .none)
  | [] => .nil
  | i :: l => by
    refine .cons ?_ (permV_vals rz l)
    show RelV (zs.getD i .non) (ws.getD i .none)
    rw [List.getD_eq_getElem?_getD, List.getD_eq_getElem?_getD]
    cases q : zs[i]? with
    | none => rw [rz.none_of q]; rfl
    | some z =>
      obtain ⟨u, e1, e2⟩ := rz.get q
      rw [e1]
      exact e2
theorem units65 {k : Nat} {A : Around} (r : Room k A) : A.units + 65 < cLine := by
  have := r.un
  omega
theorem alen_s {j n : Nat} {g : Ax} (h : j + 1 = n) (hl : ALen j g) : ∀ st ds c1, g st = .ok ds c1 → ds.length + 1 = n := fun st ds c1 q => by rw [hl st ds c1 q, h]
section
variable {P : Program} {w : World} {K : Kt} {mg : Str → Option Value} {base : Heap} {x qual : Str} {st : Stmt} {f : Addr} {fd : FuncData} {ps N : List Str} {k cn : Nat} {fn fn' : Fn} {body : Sx} {Φ : FuncData → Prop}
theorem FunA.kbnD {T : Addr} {o : Obj} {its : List Value} {m : Nat} {ks : List Str} {ix : List Nat} (Fu : FunA K.K x qual st (.ref T) f fd) (lT : K.K.lookup T = some o) (oT : o.data = .seq its.toArray m)
    (h : ∀ (kV doc pm : Value) (an : Option Addr) (cdv ct : Value) (us ws : List Value), us.length = 1 → ws.length = ks.length → ∃ k, bindArgs (PySem.W.fnOf x qual (defArgs st) (defBody st) (defScope st) (.ref T) kV doc pm an cdv ct) ⟨us, ks.zip ws⟩ = seqItems? (.ref T) >>= k ∧ k (some its.toArray) = pure (ps.zip (us ++ ix.map fun i => ws.getD i .none))) :
    KBn K.K fd ps 1 ks (fun us ws => us ++ ix.map fun i => ws.getD i .none) (fun vs zs => vs ++ permV ix zs) := by
  obtain ⟨oc, od, kV, doc, pm, an, cdv, ct, osl, rfl, lk, hcd⟩ := Fu.ex
  refine ⟨fun s us ws KX hu hw => ?_, fun {vs us zs ws} ru rz => ru.append (permV_vals rz ix)⟩
  obtain ⟨k, e1, e2⟩ := h kV doc pm an cdv ct us ws hu hw
  refine BindsTo.of_looks fun M => ?_
  rw [e1]
  exact looks_items KX lT oT (PySem.W.Looks.of_pure e2)
theorem FunA.bindsN {T : Addr} {o : Obj} {its : List Value} {m : Nat} (Fu : FunA K.K x qual st (.ref T) f fd) (lT : K.K.lookup T = some o) (oT : o.data = .seq its.toArray m) (hn : its.length + 1 = ps.length)
    (h : ∀ (kV doc pm : Value) (an : Option Addr) (cdv ct : Value) (u : Value), ∃ k, bindArgs (PySem.W.fnOf x qual (defArgs st) (defBody st) (defScope st) (.ref T) kV doc pm an cdv ct) ⟨[u], []⟩ = seqItems? (.ref T) >>= k ∧ k (some its.toArray) = pure (ps.zip (u :: its))) : Binds K.K fd ps its := by
  obtain ⟨oc, od, kV, doc, pm, an, cdv, ct, osl, rfl, lk, hcd⟩ := Fu.ex
  intro s us KX hl
  rw [List.length_append] at hl
  have hu : us.length = 1 := by omega
  match us, hu with
  | [u], _ =>
    obtain ⟨k, e1, e2⟩ := h kV doc pm an cdv ct u
    refine BindsTo.of_looks fun M => ?_
    rw [e1]
    exact looks_items KX lT oT (PySem.W.Looks.of_pure e2)
/-- a class of the text, with more facts of its __init__ -/
structure TxtCX (K : Kt) (mg : Str → Option Value) (x : Str) (cn : Nat) (st : Stmt) (ps : List Str) (Φ : FuncData → Prop) : Prop where
  ex : ∃ (f : Addr) (fd : FuncData), mg x = some (.ref (K.κ cn)) ∧ Mk K.K (K.κ cn) f ∧ (∃ dV, FunA K.K "__init__" (x ++ ".__init__") st dV f fd) ∧ Binds K.K fd ps [] ∧ Φ fd
structure DefCX (P : Program) (w : World) (K : Kt) (mg : Str → Option Value) (base : Heap) (x : Str) (cn k : Nat) (ps : List Str) (fn : Fn) (Φ : FuncData → Prop) : Prop where
  ex : ∃ (f : Addr) (fd : FuncData), mg x = some (.ref (K.κ cn)) ∧ Mk K.K (K.κ cn) f ∧ Binds K.K fd ps [] ∧ FnOk P w K.K mg base (L2.CX P w) k f fd ps (spF K ps.length fn) ∧ Φ fd
theorem DefCX.toC (d : DefCX P w K mg base x cn k ps fn Φ) : DefC P w K mg base x cn k ps fn := by
  obtain ⟨f, fd, h1, h2, h3, h4, _⟩ := d.ex
  exact ⟨f, fd, h1, h2, h3, h4⟩
theorem mkDefCX (t : TxtCX K mg x cn st ps Φ) (S : FnScope N ps (defScope st))
    (hbody : ∀ (f : Addr) (G : Gx), G.K = K → ∀ (cdv : Value) (A : Around) (outer : List Env) (s : Shared) (H : Hp) (E : XK), Room k (A.deeper (envOfC (x ++ ".__init__") (defScope st) s.heap.objs.size f cdv)) →
      PSs (cxOf (L2.CX P w) P w K.K mg base N (x ++ ".__init__") (defScope st) f cdv A outer s H E) (defBody st) (tS G (fun cls d _ H' => E cls d H') body)) :
    DefCX P w K mg base x cn (k + 1) ps (runF N.length body) Φ := by
  obtain ⟨f, fd, h1, h2, ⟨dV, h3⟩, h4, h5⟩ := t.ex
  exact ⟨f, fd, h1, h2, h4, okA h3 S fun G e cdv A outer s H E hr => hbody f G e cdv A outer s H E hr, h5⟩
/-- keywords ks, by the places ix -/
def PhiK (K : Kt) (ps ks : List Str) (ix : List Nat) (fd : FuncData) : Prop := KBn K.K fd ps 1 ks (fun us ws => us ++ ix.map fun i => ws.getD i .none) (fun vs zs => vs ++ permV ix zs)
/-- the defaults ds -/
def Phi0 (K : Kt) (ps : List Str) (ds : List D) (fd : FuncData) : Prop := ∃ (its : List Value) (dvs : List V), Binds K.K fd ps its ∧ Vals dvs its ∧ ∀ ρ F, RVs K ρ F ds dvs
end
section
variable {X : Cx} {G : Gx} {W : WX} {g : Ax} {pos p : Pos} {x : Str} {cn k : Nat} {fn : Fn} {ps ks : List Str} {kws : List Keyword} {Φ : FuncData → Prop} {ds : List D}
theorem de_makeKD (ix : List Nat) (d : DefCX X.prog X.w G.K X.mg X.base x cn k ps fn Φ) (hΦ : ∀ fd, Φ fd → PhiK G.K ps ks ix fd) (hK : X.K = G.K.K) (hW : Flat W) (tk : Takes X W) (hr : Room (k + 1) X.A) (hkw : PK X kws (tAs G W g)) (hl : ALen ks.length g) (hix : ∀ i ∈ ix, i < ks.length) (hixl : ix.length + 1 = ps.length) (hg : Gl X x := by rfl)
    (hall : (backToKw pos (keywordEach kws X.env)).all (·.1.isSome) = true := by rfl) (hks : (backToKw pos (keywordEach kws X.env)).filterMap (·.1) = ks := by rfl) (hdb : (x == ("__debug__" : Str)) = false := by decide)
    (hpl : ((backTo pos (starEach [] X.env)).any (·.1) || (backToKw pos (keywordEach kws X.env)).any (·.1.isNone)) = false := by rfl) :
    PE X (.Call (.Name x p) [] kws pos) (tE G W (eMakeK cn fn ix g)) := by
  obtain ⟨f, fd, h1, h2, h3, h4, h5⟩ := d.ex
  have kb := hΦ fd h5
  unfold PhiK at kb
  rw [← hK] at h2 h4 kb
  exact de_makeK ix hW tk h2 h4 hr hg h1 kb hkw hl hix hixl hall hks hdb hpl
theorem de_make0D (d : DefCX X.prog X.w G.K X.mg X.base x cn k ps fn Φ) (hΦ : ∀ fd, Φ fd → Phi0 G.K ps ds fd) (hK : X.K = G.K.K) (hW : Flat W) (tk : Takes X W) (hr : Room (k + 1) X.A) (hl : ds.length + 1 = ps.length) (hg : Gl X x := by rfl) (hdb : (x == ("__debug__" : Str)) = false := by decide) :
    PE X (.Call (.Name x p) [] [] pos) (tE G W (eMake0 cn fn ds)) := by
  obtain ⟨f, fd, h1, h2, h3, h4, h5⟩ := d.ex
  obtain ⟨its, dvs, h6, h7, h8⟩ := hΦ fd h5
  rw [← hK] at h2 h4 h6
  exact de_make0 hW tk h2 h4 hr hg h1 h6 h7 h8 hl hdb
end
end VL

/-! VLS: plain reckoning, step by step -/
namespace VL
open PySem L2
section
variable {f fa fb fc : Ex} {g : F2} {st st1 : S} {x y d z : D} {c1 c2 c3 cs : List Cell} {o : Out D} {so r : SOut} {t t2 : Tx} {k : Bool} {sf sg : Sx} {ga : Ax} {xs : List D}
theorem ev_eOp (h1 : fa st = .ok x c1) (h2 : fb ⟨st.env, c1⟩ = .ok y c2) (h3 : g c2 x y = o) : eOp g fa fb st = o := by
  unfold eOp; rw [h1]; show (fb ⟨st.env, c1⟩).bind _ = _; rw [h2]; exact h3
theorem ev_eUn {g : F1} (h1 : fa st = .ok x c1) (h3 : g c1 x = o) : eUn g fa st = o := by
  unfold eUn; rw [h1]; exact h3
theorem ev_tCmp (h : eOp g fa fb st = .ok (.bl k) c1) : tCmp' g fa fb st = .ok k c1 := by
  unfold tCmp'; rw [h]; rfl
theorem ev_tTru (h : fa st = .ok x c1) (h2 : truD c1 x = some k) : tTru fa st = .ok k c1 := by
  unfold tTru; rw [h]
  show (match truD c1 x with
    | some k => Out.ok k c1
    | none => .no) = _
  rw [h2]
theorem ev_eNot (h : fa st = .ok x c1) (h2 : truD c1 x = some k) : eNot fa st = .ok (.bl (!k)) c1 := by
  unfold eNot; rw [h]
  show (match truD c1 x with
    | some k => Out.ok (D.bl (!k)) c1
    | none => .no) = _
  rw [h2]
theorem ev_eAndT (h : fa st = .ok x c1) (h2 : truD c1 x = some true) (h3 : fb ⟨st.env, c1⟩ = o) : eAnd fa fb st = o := by
  unfold eAnd; rw [h]
  show (match truD c1 x with
    | some k => if k then fb ⟨st.env, c1⟩ else Out.ok x c1
    | none => .no) = _
  rw [h2]; exact h3
theorem ev_eAndF (h : fa st = .ok x c1) (h2 : truD c1 x = some false) : eAnd fa fb st = .ok x c1 := by
  unfold eAnd; rw [h]
  show (match truD c1 x with
    | some k => if k then fb ⟨st.env, c1⟩ else Out.ok x c1
    | none => .no) = _
  rw [h2]; rfl
theorem ev_eOrF (h : fa st = .ok x c1) (h2 : truD c1 x = some false) (h3 : fb ⟨st.env, c1⟩ = o) : eOr fa fb st = o := by
  unfold eOr; rw [h]
  show (match truD c1 x with
    | some k => if k then Out.ok x c1 else fb ⟨st.env, c1⟩
    | none => .no) = _
  rw [h2]; exact h3
theorem ev_eOrT (h : fa st = .ok x c1) (h2 : truD c1 x = some true) : eOr fa fb st = .ok x c1 := by
  unfold eOr; rw [h]
  show (match truD c1 x with
    | some k => if k then Out.ok x c1 else fb ⟨st.env, c1⟩
    | none => .no) = _
  rw [h2]; rfl
theorem ev_tNot (h : t st = .ok k c1) : tNot' t st = .ok (!k) c1 := by
  unfold tNot'; rw [h]; rfl
theorem ev_tAndT {o : Out Bool} (h : t st = .ok true c1) (h2 : t2 ⟨st.env, c1⟩ = o) : tAnd' t t2 st = o := by
  unfold tAnd'; rw [h]; exact h2
theorem ev_tAndF (h : t st = .ok false c1) : tAnd' t t2 st = .ok false c1 := by
  unfold tAnd'; rw [h]; rfl
theorem ev_tOrF {o : Out Bool} (h : t st = .ok false c1) (h2 : t2 ⟨st.env, c1⟩ = o) : tOr' t t2 st = o := by
  unfold tOr'; rw [h]; exact h2
theorem ev_tOrT (h : t st = .ok true c1) : tOr' t t2 st = .ok true c1 := by
  unfold tOr'; rw [h]; rfl
theorem ev_eIfT (h : t st = .ok true c1) (h2 : fa ⟨st.env, c1⟩ = o) : eIf t fa fb st = o := by
  unfold eIf; rw [h]; exact h2
theorem ev_eIfF (h : t st = .ok false c1) (h2 : fb ⟨st.env, c1⟩ = o) : eIf t fa fb st = o := by
  unfold eIf; rw [h]; exact h2
theorem ev_sIfT (h : t st = .ok true c1) (h2 : sf ⟨st.env, c1⟩ = so) : sIf t sf sg st = so := by
  unfold sIf; rw [h]; exact h2
theorem ev_sIfF (h : t st = .ok false c1) (h2 : sg ⟨st.env, c1⟩ = so) : sIf t sf sg st = so := by
  unfold sIf; rw [h]; exact h2
theorem ev_aCons (h : fa st = .ok x c1) (h2 : ga ⟨st.env, c1⟩ = .ok xs c2) : aCons fa ga st = .ok (x :: xs) c2 := by
  unfold aCons; rw [h]; show (ga ⟨st.env, c1⟩).bind _ = _; rw [h2]; rfl
theorem ev_eTup (h : ga st = .ok xs c1) (h2 : decide (xs.length ≤ 16777216) = true) : eTup ga st = .ok (.tup xs) c1 := by
  unfold eTup; rw [h]; exact if_pos (of_decide_eq_true h2)
theorem ev_eLst (h : ga st = .ok xs c1) (h2 : decide (xs.length ≤ 16777216) = true) : eLst ga st = .ok (.lst xs) c1 := by
  unfold eLst; rw [h]; exact if_pos (of_decide_eq_true h2)
theorem ev_eLoc (h : ga st = .ok xs c1) (h2 : decide (xs.length ≤ 16777216) = true) (h3 : newCell xs c1 = o) : eLoc ga st = o := by
  unfold eLoc; rw [h]; exact (if_pos (of_decide_eq_true h2)).trans h3
theorem ev_eB {h : FB} (h1 : ga st = .ok xs c1) (h2 : h c1 xs = o) : eB h ga st = o := by
  unfold eB; rw [h1]; exact h2
theorem ev_eCall {n : Nat} {fn : Fn} (h1 : ga st = .ok xs c1) (h2 : callV n fn xs c1 = o) : eCall n fn ga st = o := by
  unfold eCall; rw [h1]; exact h2
theorem ev_eCallAll {fn : Fn} (h1 : ga st = .ok xs c1) (h2 : fn xs c1 = o) : eCallAll fn ga st = o := by
  unfold eCallAll; rw [h1]; exact h2
theorem ev_eCMeth {n cn : Nat} {fn : Fn} (h1 : ga st = .ok xs c1) (h2 : callV n fn (.cls cn :: xs) c1 = o) : eCMeth n cn fn ga st = o := by
  unfold eCMeth; rw [h1]; exact h2
theorem ev_eMake {cn : Nat} {fn : Fn} (h1 : ga st = .ok xs c1) (h2 : makeD cn fn xs c1 = o) : eMake cn fn ga st = o := by
  unfold eMake; rw [h1]; exact h2
theorem ev_eMakeK {cn : Nat} {fn : Fn} {ix : List Nat} {ys : List D} (h1 : ga st = .ok xs c1) (h3 : permD ix xs = ys) (h2 : makeD cn fn ys c1 = o) : eMakeK cn fn ix ga st = o := by
  subst h3
  unfold eMakeK; rw [h1]; exact h2
theorem ev_eMake0 {cn : Nat} {fn : Fn} (h2 : makeD cn fn xs st.cs = o) : eMake0 cn fn xs st = o := h2
theorem ev_eMS {g : Str → List Cell → D → Out D} {w : Str} (h1 : fa st = .ok (.str w) c1) (h2 : fb ⟨st.env, c1⟩ = .ok y c2) (h3 : g w c2 y = o) : eMS g fa fb st = o := by
  unfold eMS; rw [h1]; show (fb ⟨st.env, c1⟩).bind _ = _; rw [h2]; exact h3
theorem ev_sSeq (h : sf st = .nx st1) (h2 : sg st1 = so) : sSeq sf sg st = so := by
  unfold sSeq; rw [h]; exact h2
theorem ev_sSeqR (h : sf st = .rt d st1) : sSeq sf sg st = .rt d st1 := by
  unfold sSeq; rw [h]
theorem ev_sSeqX {e : Exn} (h : sf st = .ex e st1) : sSeq sf sg st = .ex e st1 := by
  unfold sSeq; rw [h]
theorem ev_sAsg {gt : Gt} (h : fa st = .ok d c1) (h2 : asg gt d ⟨st.env, c1⟩ = so) : sAsg fa gt st = so := by
  unfold sAsg; rw [h]; exact h2
theorem ev_sPar {is : List Nat} (h : ga st = .ok xs c1) (h2 : sPar is (fun _ => .ok xs c1) st = so) : sPar is ga st = so := by
  rw [← h2]
  unfold sPar; rw [h]
theorem ev_sRet (h : fa st = .ok d c1) : sRet fa st = .rt d ⟨st.env, c1⟩ := by
  unfold sRet; rw [h]; rfl
theorem ev_sExpr (h : fa st = .ok d c1) : sExpr fa st = .nx ⟨st.env, c1⟩ := by
  unfold sExpr; rw [h]; rfl
theorem ev_iT {w : List D × (List Cell → Bool)} (h : fa st = .ok d c1) (h2 : iT (fun _ => .ok d c1) st = .ok w c2) : iT fa st = .ok w c2 := by
  rw [← h2]; unfold iT; rw [h]
theorem ev_iL {w : List D × (List Cell → Bool)} (h : fa st = .ok d c1) (h2 : iL (fun _ => .ok d c1) st = .ok w c2) : iL fa st = .ok w c2 := by
  rw [← h2]; unfold iL; rw [h]
theorem ev_sFor {src : Ix} {gt : Gt} {w : List D × (List Cell → Bool)} (h : src st = .ok w c1) (h2 : forL gt sf w.2 w.1 ⟨st.env, c1⟩ = so) : sFor src gt sf st = so := by
  unfold sFor; rw [h]; exact h2
theorem ev_forNil {gt : Gt} {kp : List Cell → Bool} (h : kp st.cs = true) : forL gt sf kp [] st = .nx st := by
  unfold forL; rw [if_pos h]
theorem ev_forNx {gt : Gt} {kp : List Cell → Bool} {st2 : S} (h : kp st.cs = true) (h1 : gt d st = some st1) (h2 : sf st1 = .nx st2) (h3 : forL gt sf kp xs st2 = so) : forL gt sf kp (d :: xs) st = so := by
  rw [forL, if_pos h, h1]; show (match sf st1 with | .nx st2 => _ | .ct st2 => _ | .bk st2 => _ | o => o) = _; rw [h2]; exact h3
theorem ev_forCt {gt : Gt} {kp : List Cell → Bool} {st2 : S} (h : kp st.cs = true) (h1 : gt d st = some st1) (h2 : sf st1 = .ct st2) (h3 : forL gt sf kp xs st2 = so) : forL gt sf kp (d :: xs) st = so := by
  rw [forL, if_pos h, h1]; show (match sf st1 with | .nx st2 => _ | .ct st2 => _ | .bk st2 => _ | o => o) = _; rw [h2]; exact h3
theorem ev_forRt {gt : Gt} {kp : List Cell → Bool} {st2 : S} {v : D} (h : kp st.cs = true) (h1 : gt d st = some st1) (h2 : sf st1 = .rt v st2) : forL gt sf kp (d :: xs) st = .rt v st2 := by
  rw [forL, if_pos h, h1]; show (match sf st1 with | .nx st2 => _ | .ct st2 => _ | .bk st2 => _ | o => o) = _; rw [h2]
theorem ev_runRt {n : Nat} {ds : List D} {env : List (Option D)} (h0 : startD n ds = env) (h : sf ⟨env, cs⟩ = .rt d st1) : runF n sf ds cs = .ok d st1.cs := by
  unfold runF; rw [h0, h]
theorem ev_runNx {n : Nat} {ds : List D} {env : List (Option D)} (h0 : startD n ds = env) (h : sf ⟨env, cs⟩ = .nx st1) : runF n sf ds cs = .ok .non st1.cs := by
  unfold runF; rw [h0, h]
theorem ev_runEx {n : Nat} {ds : List D} {env : List (Option D)} {e : Exn} (h0 : startD n ds = env) (h : sf ⟨env, cs⟩ = .ex e st1) : runF n sf ds cs = .ex e st1.cs := by
  unfold runF; rw [h0, h]
theorem ev_trim {fn : Fn} {ds : List D} {r o : Out D} (h : fn ds cs = r) (h2 : trimF (fun _ _ => r) ds cs = o) : trimF fn ds cs = o := by
  rw [← h2]; unfold trimF; rw [h]
theorem ev_call {fn : Fn} {n : Nat} {ds es : List D} {c0 : List Cell} {r o : Out D} (h0 : ds.map (lendD n cs) = es) (h1 : cs.take n = c0) (h : fn es c0 = r) (h2 : callV n (fun _ _ => r) ds cs = o) : callV n fn ds cs = o := by
  rw [← h2]; unfold callV; rw [h0, h1, h]
theorem ev_make {fn : Fn} {cn : Nat} {ds es : List D} {c0 : List Cell} {r o : Out D} (h0 : D.loc cs.length :: ds = es) (h1 : cs ++ [.ins cn [] []] = c0) (h : fn es c0 = r) (h2 : makeD cn (fun _ _ => r) ds cs = o) : makeD cn fn ds cs = o := by
  rw [← h2]; unfold makeD; rw [h0, h1, h]
theorem ev_try {ct : Nat → Option Bool} {i j : Nat} {fx : Exn → Ex} (h : sf st = r) (h2 : sTry1 ct i j (fun _ => r) fx st = so) : sTry1 ct i j sf fx st = so := by
  rw [← h2]; unfold sTry1; rw [h]
theorem ev_eSl {own : Bool} {l h : Ox} {lo hi : Option Int} (h1 : fa st = .ok x c1) (h2 : l ⟨st.env, c1⟩ = .ok lo c2) (h3 : h ⟨st.env, c2⟩ = .ok hi c3) (h4 : gSl own c3 x lo hi = o) : eSl own fa l h st = o := by
  unfold eSl; rw [h1]; show (l ⟨st.env, c1⟩).bind _ = _; rw [h2]; show (h ⟨st.env, c2⟩).bind _ = _; rw [h3]; exact h4
theorem ev_oSome (h1 : fa st = .ok d c1) {o : Out (Option Int)} (h2 : oSome (fun _ => .ok d c1) st = o) : oSome fa st = o := by
  rw [← h2]; unfold oSome; rw [h1]
theorem ev_setFld {cn : Nat} {n : Str} (h1 : fa st = .ok x c1) (h2 : fb ⟨st.env, c1⟩ = .ok y c2) (h3 : setFld cn n y x ⟨st.env, c2⟩ = so) : sSetFld cn n fa fb st = so := by
  unfold sSetFld; rw [h1]; show thenS (fb ⟨st.env, c1⟩) _ _ = _; rw [h2]; exact h3
theorem ev_setIx (h1 : fa st = .ok x c1) (h2 : fb ⟨st.env, c1⟩ = .ok y c2) (h3 : fc ⟨st.env, c2⟩ = .ok z c3) (h4 : setIx y z x ⟨st.env, c3⟩ = so) : sSetIx fa fb fc st = so := by
  simp only [sSetIx, thenS, h1, h2, h3]; exact h4
theorem outD_low {n : Nat} {cs : List Cell} {d : D} (h : below n d = true) (hl : ∀ m, d ≠ .loc m) : outD n cs d = some d := by
  cases d with
  | loc m => exact absurd rfl (hl m)
  | _ =>
    unfold outD
    exact if_pos h
theorem trimF_of {fn : Fn} {ds : List D} {cs cs' : List Cell} {d d' : D} (h : fn ds cs = .ok d cs') (h1 : (cs'.take cs.length).all (belowC cs.length) = true) (h2 : outD cs.length cs' d = some d') : trimF fn ds cs = .ok d' (cs'.take cs.length) := by
  unfold trimF
  rw [h]
  show (if _ then (match outD cs.length cs' d with
    | some d' => Out.ok d' (cs'.take cs.length)
    | none => .no) else .no) = _
  rw [if_pos h1, h2]
theorem atI_nat {α : Type} {xs : List α} {k : Nat} {x : α} (h : xs[k]? = some x) : atI xs (k : Int) = some x := by
  have hk : k < xs.length := by
    rw [List.getElem?_eq_some_iff] at h
    exact h.1
  have e : ixN xs.length (k : Int) = some k := by
    unfold ixN
    simp [hk]
  simp [atI, e, h]
theorem ix_lst {ds : List D} {k : Nat} {cs : List Cell} (h : atI ds (k : Int) = some d) : gIx cs (.lst ds) (.int k) = .ok d cs := by
  simp [gIx, seqOf, lstOf, h]
theorem callV0_of {fn : Fn} {ds : List D} {d : D} {cs : List Cell} (hd : ds.map (lendD 0 cs) = ds) (hb : belows 0 ds = true) (h : fn ds [] = .ok d []) : callV 0 fn ds cs = .ok d cs := by
  unfold callV
  rw [hd, if_pos ⟨Nat.zero_le _, hb, by simp⟩, List.take_zero, h]
  show (if _ then Out.ok d ([] ++ cs.drop 0) else Out.no) = _
  rw [if_pos ⟨rfl, .inl hb⟩]
  simp
theorem map_at {α β : Type} {f g : α → β} {l : List α} (h : l.map f = l.map g) {a : α} (ha : a ∈ l) : f a = g a := List.map_inj_left.mp h a ha
end
end VL

/-! VLY0: len(set(t)), t a tuple of texts -/
namespace VL
open PySem PySem.Spec PyProof.Rows L2
/-- how many texts, each counted once; the list read from its end -/
def dcR : List Str → Nat
  | [] => 0
  | x :: r => if r.any (· == x) then dcR r else dcR r + 1
def dcS (l : List Str) : Nat := dcR l.reverse
theorem dcR_le : ∀ l : List Str, dcR l ≤ l.length
  | [] => Nat.le_refl _
  | x :: r => by
    have := dcR_le r
    unfold dcR
    split <;> simp <;> omega
theorem dcS_snoc (l : List Str) (x : Str) : dcS (l ++ [x]) = if l.any (· == x) then dcS l else dcS l + 1 := by
  unfold dcS
  rw [List.reverse_append]
  show (if l.reverse.any (· == x) then dcR l.reverse else dcR l.reverse + 1) = _
  rw [List.any_reverse]
theorem dcS_le (l : List Str) : dcS l ≤ l.length := by
  have := dcR_le l.reverse
  rw [List.length_reverse] at this
  exact this
section
variable {P : Program} {w : World} {A : Around} {R : Result → Shared → Prop} {I : Addr} {fp wr : List Addr} {G : Array GenState → Array GenState → Prop} {n : Nat} {Pv : Nat → Value → Prop} {St : Nat → Shared → Prop}
abbrev Sx' (P : Program) (w : World) (h : Heap) (S : Addr) (l : List Str) : Prop := h.SetOf (PySem.strKind P w) S (fun k => l.any (· == k)) (dcS l)
theorem SetOf.moved {h h' : Heap} {S : Addr} {f : Str → Bool} {m : Nat} (hS : h.SetOf (PySem.strKind P w) S f m) (k : ∀ o, h.get? S = some o → h'.get? S = some o) : h'.SetOf (PySem.strKind P w) S f m := by
  obtain ⟨o, es, ep, t, ho, r⟩ := hS
  exact ⟨o, es, ep, t, k o ho, r⟩
theorem fill_texts (W : WalksS P w A.in1 I fp wr G n Pv St) (S : Addr) (hSf : S ∉ fp) (xs : List Str) (hsz : xs.length = n) (hb : n + 1 < scanBound) (hval : ∀ i v, Pv i v → ∃ t, v = .str (xs.getD i Str.empty) t) :
    ∀ (j i : Nat) (s : Shared), n - i = j → i ≤ n → St i s → Sx' P w s.heap S (xs.take i) → (∀ s', Moved (S :: wr) G s s' → Sx' P w s'.heap S xs → R (.ok (.ret .none)) s') → codeAny (model P w) A (.builtin "set.update.loop" ⟨[.ref S, .ref I], []⟩) R s := by
  have hSw : S ∉ wr := fun h => hSf (W.sub _ h)
  have up : ∀ b ∈ wr, b ∈ S :: wr := fun b hb => List.mem_cons_of_mem _ hb
  intro j
  induction j with
  | zero =>
    intro i s hj hi hst hS hR
    obtain rfl : i = n := by omega
    refine codeAny_builtin F.entry_set_update_loop ?_
    rw [Around.under_plainId F.plain_set_update_loop _]
    refine wpAny_bind (m := pyNext (.ref I)) (W.done s _ _ hst fun s' hm => wpAny_pure (hR s' (hm.mono up) ?_))
    have e : xs.take i = xs := List.take_of_length_le (by omega)
    rw [e] at hS
    exact SetOf.moved hS fun o e => hm.heap S o hSw e
  | succ j ih =>
    intro i s hj hi hst hS hR
    have hlt : i < n := by omega
    refine codeAny_builtin F.entry_set_update_loop ?_
    rw [Around.under_plainId F.plain_set_update_loop _]
    refine wpAny_bind (m := pyNext (.ref I)) (W.item i s _ _ hlt hst fun v s' hP hst' hm => ?_)
    obtain ⟨t, rfl⟩ := hval i v hP
    have hS1 : Sx' P w s'.heap S (xs.take i) := SetOf.moved hS fun o e => hm.heap S o hSw e
    have hx : xs[i]? = some (xs.getD i Str.empty) := by
      rw [List.getD_eq_getElem?_getD, List.getElem?_eq_getElem (by omega)]
      rfl
    refine wpAny_bind (m := holding [Value.str (xs.getD i Str.empty) t] (setAdd S (.str (xs.getD i Str.empty) t))) (wpAny_holding ?_)
    unfold setAdd
    refine wpAny_holding (wpAny_bind ((PySem.strKind P w).pyHash (k := xs.getD i Str.empty) (strKind_is _ _ _ _) ?_))
    have hc := dcS_le (xs.take i)
    rw [List.length_take] at hc
    refine wpAny_setAddHashed_of (knd := PySem.strKind P w) (s := { s' with toks := s'.toks + 1 }) (strKind_is _ _ _ _) rfl hS1 (by omega) fun h' hsb hS2 => ?_
    have hS3 : Sx' P w h' S (xs.take (i + 1)) := by
      have e : xs.take (i + 1) = xs.take i ++ [xs.getD i Str.empty] := by rw [List.take_add_one, hx]; rfl
      refine SetOf_congr hS2 (fun k => ?_) ?_
      · rw [e, List.any_append]
        show _ = (_ || ((xs.getD i Str.empty == k) || false))
        rw [Bool.or_false]
        congr 1
        by_cases q : k = xs.getD i Str.empty
        · rw [q]; simp
        · rw [decide_eq_false q]
          exact (beq_eq_false_iff_ne.mpr fun z => q z.symm).symm
      · rw [e, dcS_snoc]
    have go : Moved (S :: wr) G s { s' with heap := h', toks := s'.toks + 1 } := (hm.mono up).then_heap (Nat.le_succ _) fun b o hb e => by
      rw [hsb.2 b (fun z => hb (by rw [z]; exact List.mem_cons_self))]
      exact e
    refine wpAny_pure ⟨plainId_quiet F.plain_set_update_loop _, ih (i + 1) _ (by omega) hlt (W.frame _ s' _ _ hst' (Nat.le_succ _) fun b hb o e => ?_) hS3 fun s'' hm2 hS'' => hR s'' (Moved.trans W.gtrans go hm2) hS''⟩
    rw [hsb.2 b (fun z => hSf (by rw [← z]; exact hb))]
    exact e
end
end VL

/-! VLY1: set(t) of a tuple of texts -/
namespace VL
open PySem PySem.Spec PyProof.Rows L2
section
variable {P : Program} {w : World} {A : Around} {E : Value → Shared → Prop} {s : Shared}
abbrev newS (led : Bool) : Obj := { cls := .type "set", dict := none, data := .set #[] 0 (.fresh 0 0 led) }
abbrev SGood (P : Program) (w : World) (s : Shared) (xs : List Str) (h' : Heap) : Prop := Sx' P w h' s.heap.objs.size xs ∧ ∀ b o, b < s.heap.objs.size → s.heap.get? b = some o → h'.get? b = some o
set_option maxHeartbeats 3200000 in
theorem call_setT {l : Addr} {items : Array Value} {xs : List Str} {Q : Value → Shared → Prop} (hh : A.handled = none) (hl : s.heap.IsTuple l items) (hi : StrsAre items.toList xs) (hb : xs.length + 1 < scanBound)
    (h : ∀ (h' : Heap) (tk : Nat), SGood P w s xs h' → Q (.ref s.heap.objs.size) { s with heap := h', toks := tk }) :
    wpAny (model P w) A (call (.type "set") [.ref l]) Q E s := by
  have hsz : xs.length = items.size := by rw [← StrsAre.len_eq hi, Array.length_toList]
  have hval : ∀ (i : Nat) (v : Value), items[i]? = some v → ∃ t, v = .str (xs.getD i Str.empty) t := fun i v hv => SS.strs_at hi i v (by rw [Array.getElem?_toList]; exact hv)
  obtain ⟨c, tl, hmro⟩ := PySem.F.called_set.mro
  have hmade := PySem.F.called_set.made
  have hsub := PySem.F.called_set.sub
  have h1 := PySem.F.called_set.notType
  have h2 := PySem.F.called_set.canCreate
  have hct := PySem.F.typeCall_set_1 (.ref l)
  refine wpAny_call (codeAny_of_tree ?_)
  show wpAny _ _ (callAny (.type "set") _) _ _ _
  refine wpAny_pure ⟨Code.quiet_builtin _ (by decide +kernel), codeAny_builtin PySem.F.entry_type_call ?_⟩
  rw [Around.under_plain (weight_type_call_type "set" [.ref l] []) rfl]
  repeat (any_goals (first | assumption | wp_step))
  refine codeAny_mono (code_set_new_1 (.ref l) (E := E) (Q₁ := fun obj s₁ => ∃ led : Bool, obj = .ref s.heap.objs.size ∧ s₁ = { s with heap := s.heap.push (newS led) }) fun led => ⟨led, rfl, rfl⟩) fun r s₁ hr => ?_
  cases r with
  | error e => exact hr
  | ok fl =>
  cases fl with
  | next => exact hr.elim
  | brk => exact hr.elim
  | cont => exact hr.elim
  | ret obj =>
    obtain ⟨led, rfl, rfl⟩ := hr
    have hS : (s.heap.push (newS led)).get? s.heap.objs.size = some (newS led) := Heap.get?_push_size _ rfl
    have hT : Shared.TypeIs { s with heap := s.heap.push (newS led) } (.ref s.heap.objs.size) "set" := ⟨_, hS, rfl⟩
    have hli := PySem.F.called_set.init.lookup
    have hbi := PySem.F.called_set.init.bind (.ref s.heap.objs.size)
    repeat (any_goals (first | assumption | wp_step))
    refine codeAny_mono (codeAny_call_builtin (R := wants (fun r s₂ => r = .none ∧ ∃ h' tk, s₂ = { s with heap := h', toks := tk } ∧ SGood P w s xs h') E) PySem.F.called_set.init.plain PySem.F.entry_set_init (check_set_init_1 hT ?_)) fun r₂ s₂ hr₂ => ?_
    · obtain ⟨⟨ocls, odict, odata, oslots⟩, hol, hcl, nl, hdl⟩ := hl
      simp only at hcl hdl
      subst hcl hdl
      have hol' : (s.heap.push (newS led)).get? l = some { cls := .type "tuple", dict := odict, data := .seq items nl, slots := oslots } := Heap.get?_push_of_some _ hol
      have hsls := PySem.F.sub_tuple_set
      have hslf := PySem.F.sub_tuple_frozenset
      have hne : (Value.type "tuple" == Value.type "dict") = false := by decide
      have hl1 : (s.heap.push (newS led)).IsTuple l items := ⟨_, hol', rfl, nl, rfl⟩
      unfold Builtin.«set.__init__» noKeywords Builtin.Frozenset.updateFrom
      generalize hPI : pyIter = PI
      wp_walk
      subst hPI
      have hlS : l < s.heap.objs.size := Heap.lt_size hol
      refine wpAny_pyIter_tuple hl1 (wpAny_bind (wpAny_runValue ?_))
      have hneI : l ≠ (s.heap.push (newS led)).objs.size := by
        rw [Heap.size_push]
        exact Nat.ne_of_lt (Nat.lt_succ_of_lt hlS)
      have hSf : s.heap.objs.size ∉ [(s.heap.push (newS led)).objs.size, l] := by
        rw [Heap.size_push]
        intro z
        rcases List.mem_cons.mp z with z | z
        · exact absurd z (Nat.ne_of_lt (Nat.lt_succ_self _))
        · exact absurd (List.mem_singleton.mp z) (Nat.ne_of_gt hlS)
      refine fill_texts ((Walks.tuple (by simp [hh]) _ l hneI items).toS) s.heap.objs.size hSf xs hsz (by omega) hval (items.size - 0) 0 _ (by omega) (Nat.zero_le _) ?hI ?hE ?hR
      case hI => exact ⟨⟨_, Heap.get?_push_size _ rfl, rfl, rfl⟩, (hl1.push _)⟩
      case hE =>
        exact SetOf_congr ((setObjOf_fresh (knd := PySem.strKind P w) led).setOf (Heap.get?_push_of_some _ hS) (by unfold scanBound; omega)) (fun _ => rfl) rfl
      case hR =>
        rintro ⟨h', g', d', tk', os'⟩ hm hS'
        obtain rfl : g' = s.gens := hm.gens
        obtain rfl : d' = s.drawn := hm.drawn
        obtain rfl : os' = s.os := hm.os
        refine wpAny_pure (wpAny_pure ⟨rfl, h', tk', rfl, hS', fun b o hb e => ?_⟩)
        refine hm.heap b o (fun z => ?_) (Heap.get?_push_of_some _ (Heap.get?_push_of_some _ e))
        rcases List.mem_cons.mp z with z | z
        · exact Nat.ne_of_lt hb z
        · have z := List.mem_singleton.mp z
          rw [Heap.size_push] at z
          exact Nat.ne_of_lt (Nat.lt_succ_of_lt hb) z
    · cases r₂ with
      | error e => exact hr₂
      | ok fl =>
        cases fl with
        | next => exact hr₂.elim
        | brk => exact hr₂.elim
        | cont => exact hr₂.elim
        | ret r =>
          obtain ⟨rfl, h', tk, rfl, g⟩ := hr₂
          repeat (any_goals (first | assumption | wp_step))
          exact h _ _ g
end
end VL

/-! VLY2: sorting by texts -/
namespace VL
open PySem PySem.Spec PyProof.Rows L2
/-- x stands ahead of y -/
abbrev ltS (x y : Str) : Bool := ltCps x.cps.toList y.cps.toList
section
variable {α β : Type}
def insK (p : Str × α) : List (Str × α) → List (Str × α)
  | [] => [p]
  | q :: r => if ltS p.1 q.1 then p :: q :: r else q :: insK p r
def isortK : List (Str × α) → List (Str × α)
  | [] => []
  | p :: r => insK p (isortK r)
theorem insK_perm (p : Str × α) : ∀ l : List (Str × α), (insK p l).Perm (p :: l)
  | [] => List.Perm.refl _
  | q :: r => by
    unfold insK
    split
    · exact List.Perm.refl _
    · exact ((insK_perm p r).cons q).trans (List.Perm.swap _ _ _)
theorem isortK_perm : ∀ l : List (Str × α), (isortK l).Perm l
  | [] => List.Perm.refl _
  | p :: r => (insK_perm p _).trans ((isortK_perm r).cons p)
theorem insK_map (f : α → β) (p : Str × α) : ∀ l : List (Str × α), insK (p.1, f p.2) (l.map fun q => (q.1, f q.2)) = (insK p l).map fun q => (q.1, f q.2)
  | [] => rfl
  | q :: r => by
    simp only [List.map_cons, insK]
    split
    · rfl
    · rw [insK_map f p r]
      rfl
theorem isortK_map (f : α → β) : ∀ l : List (Str × α), isortK (l.map fun q => (q.1, f q.2)) = (isortK l).map fun q => (q.1, f q.2)
  | [] => rfl
  | p :: r => by
    show insK (p.1, f p.2) (isortK (r.map fun q => (q.1, f q.2))) = _
    rw [isortK_map f r, insK_map]
    rfl
theorem ltS_trans {x y z : Str} (h1 : ltS x y = true) (h2 : ltS y z = true) : ltS x z = true := by
  simp only [ltS, ltCps_eq, decide_eq_true_eq] at *
  exact List.lt_trans h1 h2
theorem ltS_asym {x y : Str} (h1 : ltS x y = true) : ltS y x = false := by
  simp only [ltS, ltCps_eq, decide_eq_true_eq, decide_eq_false_iff_not] at *
  exact List.not_lt.mpr (List.le_of_lt h1)
theorem ltS_tot {x y : Str} (h1 : ltS x y = false) (h2 : ltS y x = false) : x = y := by
  simp only [ltS, ltCps_eq, decide_eq_false_iff_not] at *
  have e := List.le_antisymm (List.not_lt.mp h2) (List.not_lt.mp h1)
  obtain ⟨⟨a⟩⟩ := x
  obtain ⟨⟨b⟩⟩ := y
  exact congrArg (fun l : List Nat => (⟨⟨l⟩⟩ : Str)) e
theorem insK_sorted {p : Str × α} : ∀ {l : List (Str × α)}, l.Pairwise (fun a b => ltS b.1 a.1 = false) → (insK p l).Pairwise (fun a b => ltS b.1 a.1 = false)
  | [], _ => List.pairwise_singleton _ _
  | q :: r, h => by
    unfold insK
    have hq := List.pairwise_cons.mp h
    split
    · rename_i c
      refine List.pairwise_cons.mpr ⟨fun z hz => ?_, h⟩
      rcases List.mem_cons.mp hz with rfl | hz
      · exact ltS_asym c
      · cases e : ltS z.1 p.1 with
        | false => rfl
        | true =>
          have := hq.1 z hz
          rw [ltS_trans e c] at this
          cases this
    · rename_i c
      refine List.pairwise_cons.mpr ⟨fun z hz => ?_, insK_sorted hq.2⟩
      rcases List.mem_cons.mp ((insK_perm p r).mem_iff.mp hz) with rfl | hz
      · exact Bool.eq_false_iff.mpr c
      · exact hq.1 z hz
theorem isortK_sorted : ∀ l : List (Str × α), (isortK l).Pairwise (fun a b => ltS b.1 a.1 = false)
  | [] => List.Pairwise.nil
  | p :: r => insK_sorted (isortK_sorted r)
/-- one such order alone -/
theorem sortK_uniq : ∀ {l m : List (Str × α)}, l.Perm m → (m.map (·.1)).Nodup → l.Pairwise (fun a b => ltS b.1 a.1 = false) → m.Pairwise (fun a b => ltS b.1 a.1 = false) → l = m
  | [], m, h, _, _, _ => by rw [h.nil_eq]
  | p :: l, [], h, _, _, _ => absurd h.length_eq (by simp)
  | p :: l, q :: m, h, hn, hl, hm => by
    have hl' := List.pairwise_cons.mp hl
    have hm' := List.pairwise_cons.mp hm
    have hn' := List.nodup_cons.mp (show ((q :: m).map (·.1)).Nodup from hn)
    have e : p = q := by
      rcases List.mem_cons.mp (h.mem_iff.mp List.mem_cons_self) with e | hp
      · exact e
      · rcases List.mem_cons.mp (h.mem_iff.mpr List.mem_cons_self) with e | hq
        · exact e.symm
        · have k := ltS_tot (hm'.1 p hp) (hl'.1 q hq)
          exact absurd (List.mem_map.mpr ⟨p, hp, k⟩) hn'.1
    subst e
    rw [sortK_uniq (List.perm_cons _ |>.mp h) hn'.2 hl'.2 hm'.2]
end
/-! ### the built-in's sort -/
def KOut (ks : List Str) (us out : List Value) : Prop := ∃ ps : List (Str × Value), ps.Perm (ks.zip us) ∧ out = ps.map Prod.snd ∧ ps.Pairwise (fun p q => ltS q.1 p.1 = false)
theorem kout_of {keys : Array Value} {vs : List Value} {ks : List Str} (hk : StrsAre keys.toList ks) {xs : Array Keyed} (hp : xs.Perm (keys.zip vs.toArray)) (hs : SortedToK PyProof.Rows.strKind xs xs.size) : KOut ks vs (xs.map (·.2)).toList := by
  have hl : xs.toList.Perm (keys.toList.zip vs) := by
    rw [← ksk_zip]
    exact Array.perm_iff_toList_perm.mp hp
  refine ⟨xs.toList.map fun p => (strOf p.1, p.2), ?_, ?_, ?_⟩
  · have e : (keys.toList.zip vs).map (fun p : Keyed => (strOf p.1, p.2)) = ks.zip vs := by
      rw [← hk.strs, List.zip_map_left]
      exact List.map_congr_left fun ⟨x, y⟩ _ => rfl
    rw [← e]
    exact hl.map _
  · rw [Array.toList_map, List.map_map]
    rfl
  · rw [List.pairwise_iff_getElem]
    intro i j hi hj hij
    have hi' : i < xs.size := by simpa using hi
    have hj' : j < xs.size := by simpa using hj
    have at' : ∀ n (hn : n < xs.size), ∃ x t, xs[n].1 = .str x t := fun n hn => by
      have hm : xs[n] ∈ keys.toList.zip vs := hl.mem_iff.mp (by simp)
      exact hk.all _ (List.of_mem_zip (show (xs[n].1, xs[n].2) ∈ _ from hm)).1
    obtain ⟨x, t, ex⟩ := at' i hi'
    obtain ⟨y, u, ey⟩ := at' j hj'
    have h1 := hs i j (Nat.le_of_lt hij) hj'
    rw [KK_str hi' (x := x) (t := t) (q := xs[i].2) (Prod.ext ex rfl), KK_str hj' (x := y) (t := u) (q := xs[j].2) (Prod.ext ey rfl)] at h1
    change decide (y.cps.toList < x.cps.toList) = false at h1
    simp only [List.getElem_map, Array.getElem_toList]
    rw [show strOf xs[i].1 = x by rw [ex]; rfl, show strOf xs[j].1 = y by rw [ey]; rfl, ltS, ltCps_eq]
    exact h1
section
variable {prog : Program} {w : World} {A : Around} {E : Value → Shared → Prop} {s : Shared} {a kS : Addr} {vs : List Value} {ks : List Str} {keys : Array Value} {e e1 : Nat} {P : PySem.Fin → Shared → Prop}
/-- the heap behind the sort -/
def SEnd (s : Shared) (a kS : Addr) (ks : List Str) (vs : List Value) (P : PySem.Fin → Shared → Prop) : Prop := ∀ (h' : Heap) (out : List Value) (c : Nat), h'.get? a = some (seqObj "list" out.toArray c) → (∀ b o, b ∉ [a, kS] → s.heap.get? b = some o → h'.get? b = some o) → KOut ks vs out → P (.done (.ret .none)) { s with heap := h' }
theorem sort_tail {st : SortSt} (ha : s.heap.get? a = some (seqObj "list" #[] e1)) (hkS : s.heap.get? kS = some (seqObj "list" keys e)) (hne : kS ≠ a) (hk : StrsAre keys.toList ks) (hlen : ks.length = vs.length) (h64 : vs.length < 64)
    (hp : (arrOf st).Perm (keys.zip vs.toArray)) (hs : SortedToK PyProof.Rows.strKind (arrOf st) (arrOf st).size) (hfl : failedOf st = none) (h : SEnd s a kS ks vs P) : wpAny (model prog w) A (ksk_tail a false e1 (.ref kS) st) P E s := by
  have hsz : keys.size = vs.length := by
    have h1 := StrsAre.len_eq hk
    rw [Array.length_toList] at h1
    omega
  have hsz2 : (arrOf st).size = vs.length := by rw [hp.size_eq, Array.size_zip, hsz, List.size_toArray, Nat.min_self]
  have s1 := Heap.SameBut.update s.heap kS (Obj.mapSeq fun _ => (#[] : Array Value))
  have ha1 : (s.heap.update kS (Obj.mapSeq fun _ => (#[] : Array Value))).get? a = some (seqObj "list" #[] e1) := (s1.2 a hne.symm).trans ha
  have s2 := Heap.SameBut.update (s.heap.update kS (Obj.mapSeq fun _ => (#[] : Array Value))) a (Obj.mapSeq fun _ => (arrOf st).map (·.2))
  have hc2 := get?_update_seq ha1 fun _ => (arrOf st).map (·.2)
  unfold ksk_tail
  refine wpAny_bind (listUpdate_at hkS rfl ?_ (by rw [hsz, sizeLine_eq]; omega) (Nat.zero_le _))
  refine wpAny_bind (wpAny_letGo (wpAny_bind (seqEpoch_at ha1 rfl ?_)))
  refine wpAny_bind (listUpdate_at ha1 rfl ?_ (Nat.zero_le _) (by simp only [Bool.false_eq_true, if_false, Array.size_map, hsz2]; rw [sizeLine_eq]; omega))
  rw [hfl]
  simp only [bne_self_eq_false, Bool.false_eq_true, if_false]
  refine wpAny_pure (h _ ((arrOf st).map (·.2)).toList _ (by rw [Array.toArray_toList]; exact hc2) (fun b o hb q => ?_) (kout_of hk hp hs))
  rw [s2.2 b (fun z => hb (by rw [z]; exact List.mem_cons_self)), s1.2 b (fun z => hb (by rw [z]; exact List.mem_cons_of_mem _ List.mem_cons_self))]
  exact q
theorem sort_end (ha : s.heap.get? a = some (seqObj "list" #[] e1)) (hkS : s.heap.get? kS = some (seqObj "list" keys e)) (hne : kS ≠ a) (hk : StrsAre keys.toList ks) (hlen : ks.length = vs.length) (h64 : vs.length < 64) (h : SEnd s a kS ks vs P) :
    wpAny (model prog w) A (ksk_end a false vs.toArray e1 (.ref kS) keys) P E s := by
  have hsz : keys.size = vs.length := by
    have h1 := StrsAre.len_eq hk
    rw [Array.length_toList] at h1
    omega
  have hzs : (keys.zip vs.toArray).size = vs.length := by rw [Array.size_zip, hsz, List.size_toArray, Nat.min_self]
  unfold ksk_end
  simp only [Bool.false_eq_true, if_false]
  by_cases h2 : vs.toArray.size < 2
  · rw [if_pos h2, if_pos h2]
    refine wpAny_bind (wpAny_pure ?_)
    rw [StateT.run_pure]
    refine wpAny_bind (wpAny_pure ?_)
    refine sort_tail (st := SortSt.mk' general' (keys.zip vs.toArray) #[] 7 none) ha hkS hne hk hlen h64 (Array.Perm.refl _) ?_ rfl h
    intro i j hij hj
    have hj2 : j < (keys.zip vs.toArray).size := hj
    rw [hzs] at hj2
    rw [List.size_toArray] at h2
    obtain rfl : i = j := by omega
    exact PyProof.Rows.strKind.irrefl _
  · rw [if_neg h2, if_neg h2]
    rw [List.size_toArray] at h2
    obtain ⟨v₁, v₂, rest, ek⟩ : ∃ v₁ v₂ rest, keys.toList = v₁ :: v₂ :: rest := by
      have hl : keys.toList.length = vs.length := by rw [Array.length_toList]; exact hsz
      match q : keys.toList, hl with
      | [], hl => simp at hl; omega
      | [_], hl => simp at hl; omega
      | v₁ :: v₂ :: rest, _ => exact ⟨_, _, _, rfl⟩
    have ek2 : keyKind' keys = pure oneType' := by
      have : keys = (v₁ :: v₂ :: rest).toArray := by rw [← ek, Array.toArray_toList]
      rw [this]
      exact keyKind_strs (by rw [← ek]; exact hk)
    have h0 : KeysOf PyProof.Rows.strKind (keys.zip vs.toArray) := fun p hp => by
      rw [ksk_zip] at hp
      obtain ⟨x, y⟩ := p
      obtain ⟨z, t, ez⟩ := hk.all _ (List.of_mem_zip hp).1
      exact ⟨z.cps.toList, by rw [ez]⟩
    rw [ek2]
    refine wpAny_bind (wpAny_pure ?_)
    refine wpAny_bind (wpAny_mono (wpS_sortRunsK (a₀ := keys.zip vs.toArray) (st := SortSt.mk' oneType' (keys.zip vs.toArray) #[] 7 none) (Q := fun _ st' => (arrOf st').Perm (keys.zip vs.toArray) ∧ failedOf st' = none ∧ SortedToK PyProof.Rows.strKind (arrOf st') (keys.zip vs.toArray).size)
      strKind_oneLt h0 ⟨Array.Perm.refl _, rfl, rfl, rfl⟩ (by rw [hzs]; omega) (by rw [hzs]; exact h64) fun st' a1 a2 a3 => ⟨a1, a2, a3⟩) ?_ fun _ _ e => e)
    rintro ⟨⟨⟩, st'⟩ s' ⟨rfl, hp, hf, hs⟩
    exact sort_tail ha hkS hne hk hlen h64 hp (by rw [hp.size_eq]; exact hs) hf h
end
end VL

/-! VLY3: sorted(objects, key=str) -/
namespace VL
open PySem PySem.Spec PyProof.Rows L2
theorem strs_snoc {x : Str} {t : Tok} : ∀ {vs : List Value} {xs : List Str}, StrsAre vs xs → StrsAre (vs ++ [.str x t]) (xs ++ [x])
  | _, _, .nil => .cons x t .nil
  | _, _, .cons y u h => .cons y u (strs_snoc h)
section
variable {X : Cx} {G : Gx} {W : WX} {cn k : Nat} {f : Addr} {fd : FuncData} {ps : List Str} {fn : Fn}
/-- the facts of the class's __str__ -/
structure KeyF (X : Cx) (G : Gx) (cn k : Nat) (f : Addr) (fd : FuncData) (ps : List Str) (fn : Fn) : Prop where
  F : FnOk X.prog X.w X.K X.mg X.base (L2.CX X.prog X.w) k f fd ps (spF G.K 1 fn)
  at_ : PySem.W.findIn X.K (.ref (G.K.κ cn)) "__str__" = some (some (.ref f))
  fn : PySem.W.isFn X.K (.ref f) = true
  bd : Binds X.K fd ps []
  rm : Room (k + 4) X.A
theorem key_call (T : KeyF X G cn k f fd ps fn) {pins : List (Addr × Obj)} {s : Shared} {σ : L2.St} {H : Hp} (I : Inv X pins σ H s) {o dx : Addr} {fs : List (Str × V)} (ho : H o = some (.ins (G.K.κ cn) dx fs)) {Q : VK}
    (hsp : spF G.K 1 fn [.ref o] H (fun v H' => (∃ y, v = .str y) ∧ Q v H') (fun _ _ _ => False)) : wpAny (model X.prog X.w) X.A.in1.in1 (call (.type "str") [.ref o]) (EP X pins σ Q) (fun _ _ => False) s := by
  obtain ⟨mA, J, _⟩ := ins_get I.hok ho
  obtain ⟨od, J, _⟩ := J.look
  have hr4 := T.rm.in1.in1.in1.in1
  have hl := T.F.len _ _ _ _ hsp
  have r2 : Vals [V.ref o] [Value.ref o] := .cons rfl .nil
  refine PySem.W.kso_call (A := X.A.in1.in1) (by have := hr4.un; omega) I.kIn J T.at_ T.fn ?_
  refine wpAny_call (codeAny_mono (T.F.run _ X.stack s H ⟨[.ref o], []⟩ [.ref o] [.ref o] _ _ hr4 I.env0.in1.in1.in1.in1 (by simpa using T.bd s [.ref o] I.kIn (by simpa using hl)) r2 hsp) fun q s' hq => ?_)
  cases q with
  | error e =>
    obtain ⟨a, B, H', cls, d, _, _, _, _, _, _, _, hE⟩ := hq
    exact hE
  | ok fl =>
    cases fl with
    | ret w =>
      obtain ⟨z, H', I', rz, ⟨y, rfl⟩, ex⟩ := I.after hq
      obtain ⟨t, rfl⟩ := rz
      exact ⟨.str y, H', I', ⟨t, rfl⟩, ex⟩
    | next => exact False.elim hq
    | brk => exact False.elim hq
    | cont => exact False.elim hq
/-- the texts of objects of the class cn -/
def keysD (cn : Nat) (fn : Fn) (cs : List Cell) : List D → Option (List Str)
  | [] => some []
  | .obj C ks ds :: r => if C = cn then (match callV 0 fn [.obj C ks ds] cs, keysD cn fn cs r with
    | .ok (.str x) _, some xs => some (x :: xs)
    | _, _ => none) else none
  | _ => none
theorem callV0_cs {ds : List D} {cs c' : List Cell} {d : D} (h : callV 0 fn ds cs = .ok d c') : c' = cs := by
  unfold callV at h
  split at h
  · split at h
    · split at h
      · rename_i cs' _ c
        cases h
        have e := List.length_eq_zero_iff.mp c.1
        rw [e]
        simp
      · cases h
    · split at h <;> cases h
    · cases h
  · cases h
theorem keysD_at {cs : List Cell} {ds : List D} : ∀ {ks : List Str}, keysD cn fn cs ds = some ks → ks.length = ds.length ∧ ∀ (j : Nat) (d : D), ds[j]? = some d → ∃ kk dd x, d = .obj cn kk dd ∧ ks[j]? = some x ∧ callV 0 fn [d] cs = .ok (.str x) cs := by
  induction ds with
  | nil =>
    intro ks h
    cases h
    exact ⟨rfl, fun j d e => by simp at e⟩
  | cons d0 r ih =>
    intro ks h
    cases d0 with
    | obj C kk dd =>
      unfold keysD at h
      by_cases c : C = cn
      · rw [if_pos c] at h
        subst c
        split at h
        · rename_i x c' xs q1 q2
          cases h
          obtain ⟨e1, e2⟩ := ih q2
          have e3 := callV0_cs q1
          rw [e3] at q1
          refine ⟨by rw [List.length_cons, List.length_cons, e1], fun j d e => ?_⟩
          cases j with
          | zero =>
            cases e
            exact ⟨kk, dd, x, rfl, rfl, q1⟩
          | succ j => exact e2 j d e
        · cases h
      · rw [if_neg c] at h
        cases h
    | _ => cases h
section
variable {ρ : List Addr} {F : Hp} {st : S} {σ σ0 : L2.St} {H : Hp} {s : Shared} {pins : List (Addr × Obj)} {a kS : Addr} {e1 : Nat} {xs : List V} {us : List Value} {ds : List D} {ks : List Str} {P : PySem.Fin → Shared → Prop} {E : Value → Shared → Prop}
theorem fp_again {b : Addr} {o : Obj} {pl : List (Addr × Obj)} {H1 H2 : Hp} {s2 : Shared} (f : FpOk X pins H1 b) (I : Inv X (pins ++ pl) σ H2 s2) (hb : (b, o) ∈ pl) : FpOk X pins H2 b ∧ s2.heap.get? b = some o := by
  obtain ⟨h1, h2, _⟩ := I.pin (b, o) (List.mem_append_right _ (List.mem_append_right _ hb))
  exact ⟨⟨h2, f.2⟩, h1⟩
theorem sortK_rest (T : KeyF X G cn k f fd ps fn) (I : Inv X pins σ H s) (r : Rel G ρ F st σ0 H) (rv : RVs G.K ρ F ds xs) (vu : Vals xs us) (hkd : keysD cn fn st.cs ds = some ks) (h64 : us.length < 64) (fa : FpOk X pins H a) (fk : FpOk X pins H kS) (hne : kS ≠ a)
    (ha : s.heap.get? a = some (seqObj "list" #[] e1)) (hk : s.heap.get? kS = some (seqObj "list" #[] 0))
    (h : ∀ (ρ' : List Addr) (F' : Hp) (H' : Hp) (s' : Shared) (out : List Value) (c : Nat), Ext ρ F ρ' F' → Rel G ρ' F' st σ0 H' → Inv X pins σ H' s' → FpOk X pins H' a → s'.heap.get? a = some (seqObj "list" out.toArray c) → KOut ks us out → P (.done (.ret .none)) s') :
    wpAny (model X.prog X.w) X.A.in1.in1 (ksk_rest a (.type "str") false us.toArray e1 (.ref kS)) P E s := by
  obtain ⟨hkl, hka⟩ := keysD_at hkd
  have hdx : ds.length = xs.length := rv.length
  have hxu : xs.length = us.length := Paired.length vu
  have hZ : ∀ n, n ≤ 64 → n ≤ sizeLine := fun n hn => by rw [sizeLine_eq]; omega
  unfold ksk_rest
  refine wpAny_bind (wpAny_rule ?_)
  rw [List.forIn_toArray]
  refine wpAny_bind (ksk_fold (fun i s' => ∃ ρ' F' H' kA e, Ext ρ F ρ' F' ∧ Rel G ρ' F' st σ0 H' ∧ Inv X pins σ H' s' ∧ FpOk X pins H' a ∧ FpOk X pins H' kS ∧ s'.heap.get? a = some (seqObj "list" #[] e1) ∧ s'.heap.get? kS = some (seqObj "list" kA e) ∧ StrsAre kA.toList (ks.take i)) us 0 s
    ⟨ρ, F, H, #[], 0, Ext.refl, r, I, fa, fk, ha, hk, .nil⟩ ?step ?done)
  case step =>
    rintro j u s' hu ⟨ρ1, F1, H1, kA, e, x1, r1, I1, fa1, fk1, ha1, hk1, hs1⟩
    simp only [Nat.zero_add] at hs1 ⊢
    have hj : j < us.length := (List.getElem?_eq_some_iff.mp hu).1
    obtain ⟨d, hd⟩ : ∃ d, ds[j]? = some d := ⟨_, List.getElem?_eq_getElem (by omega)⟩
    obtain ⟨kk, dd, x, rfl, hkx, hc⟩ := hka j d hd
    obtain ⟨v, hv, rvv⟩ := (rv.ext x1).get hd
    obtain ⟨u', hu', ruv⟩ := vu.get hv
    rw [hu] at hu'
    cases hu'
    have rvv0 := rvv
    cases rvv with
    | @obj o dx _ _ _ _ h1 h2 h3 =>
      obtain rfl : u = Value.ref o := ruv
      have pl1 : (a, seqObj "list" #[] e1) ∈ pinsAt [a, kS] s'.heap := mem_pinsAt List.mem_cons_self ha1
      have pl2 : (kS, seqObj "list" kA e) ∈ pinsAt [a, kS] s'.heap := mem_pinsAt (List.mem_cons_of_mem _ List.mem_cons_self) hk1
      have I2 : Inv X (pins ++ pinsAt [a, kS] s'.heap) σ H1 s' := I1.pinned (fun b hb => by
        rcases List.mem_cons.mp hb with rfl | hb
        · exact fa1
        · rw [List.mem_singleton.mp hb]; exact fk1) (fun b hb => by
        rcases List.mem_cons.mp hb with rfl | hb
        · exact ⟨_, ha1, fun v z => by cases z⟩
        · rw [List.mem_singleton.mp hb]; exact ⟨_, hk1, fun v z => by cases z⟩)
      have hsp : spF G.K 1 fn [V.ref o] H1 (fun v H' => (∃ y, v = .str y) ∧ (v = .str x ∧ ∃ ρ2 F2, Ext ρ F ρ2 F2 ∧ Rel G ρ2 F2 st σ0 H')) (fun _ _ _ => False) := by
        have := callV_of (G := G) (W := W0) (m := 1) (n := 0) (fn := fn) (Q := fun v H' => (∃ y, v = .str y) ∧ (v = .str x ∧ ∃ ρ2 F2, Ext ρ F ρ2 F2 ∧ Rel G ρ2 F2 st σ0 H')) r1 (.cons rvv0 .nil) rfl (by
          rw [hc]
          intro ρ2 F2 H2 v x2 r2 rv2
          cases rv2
          exact ⟨⟨x, rfl⟩, rfl, ρ2, F2, x1.trans x2, r2⟩)
        exact this
      refine wpAny_bind (wpAny_attempt (wpAny_mono (key_call T I2 (r1.fz _ _ h1) hsp) (fun kv s'' he => ?_) fun _ _ hF => hF.elim))
      obtain ⟨v2, H2, I3, rk, rfl, ρ2, F2, x2, r2⟩ := he
      obtain ⟨t, rfl⟩ := rk
      obtain ⟨fa2, ha2⟩ := fp_again fa1 I3 pl1
      obtain ⟨fk2, hk2⟩ := fp_again fk1 I3 pl2
      have hz : kA.size ≤ 64 := by
        have h1 := StrsAre.len_eq hs1
        rw [Array.length_toList, List.length_take] at h1
        omega
      have sb := Heap.SameBut.update s''.heap kS (Obj.mapSeq (·.push (.str x t)))
      have hc2 := get?_update_seq hk2 (·.push (.str x t))
      have ek : ks.take (j + 1) = ks.take j ++ [x] := by rw [List.take_add_one, hkx]; simp
      have ea : (kA.push (Value.str x t)).toList = kA.toList ++ [Value.str x t] := by simp
      refine wpAny_bind (listUpdate_at hk2 rfl ?_ (hZ _ hz) (Nat.le_trans (Nat.le_of_eq (Array.size_push ..)) (Nat.succ_le_succ (hZ _ hz))))
      refine wpAny_pure ⟨rfl, ρ2, F2, H2, _, _, x2, r2, I3.unpinned.turnedL (t' := s''.toks) (ch := [kS]) (fun b o hb q => ?_) (fun b hb => by rw [List.mem_singleton.mp hb]; exact fk2), fa2, fk2, (sb.2 a hne.symm).trans ha2, hc2, ?_⟩
      · rw [sb.2 b (fun z => hb (by rw [z]; exact List.mem_cons_self))]
        exact q
      · rw [ea, ek]
        exact strs_snoc hs1
  case done =>
    rintro s' ⟨ρ1, F1, H1, kA, e, x1, r1, I1, fa1, fk1, ha1, hk1, hs1⟩
    have e3 : ks.take (0 + us.length) = ks := List.take_of_length_le (by omega)
    rw [e3] at hs1
    refine wpAny_bind (listItems_at hk1 rfl ?_)
    refine sort_end ha1 hk1 hne hs1 (by omega) h64 fun h' out c q1 q2 q3 => ?_
    have I2 : Inv X pins σ H1 { s' with heap := h' } := I1.turnedL (t' := s'.toks) (ch := [a, kS]) (fun b o hb q => q2 b o hb q) (fun b hb => by
      rcases List.mem_cons.mp hb with rfl | hb
      · exact fa1
      · rw [List.mem_singleton.mp hb]; exact fk1)
    exact h ρ1 F1 H1 _ out c x1 r1 I2 fa1 q1 q3
end
end
end VL

/-! VLY4: the rule for sorted(objects, key=str) -/
namespace VL
open PySem PySem.Spec PyProof.Rows L2
def sortD (ks : List Str) (ds : List D) : List D := (isortK (ks.zip ds)).map (·.2)
def risS : List Str → Bool
  | x :: y :: r => ltS x y && risS (y :: r)
  | _ => true
theorem risS_pw : ∀ {l : List Str}, risS l = true → l.Pairwise (fun a b => ltS a b = true)
  | [], _ => List.Pairwise.nil
  | [x], _ => List.pairwise_singleton _ _
  | x :: y :: r, h => by
    have h : (ltS x y && risS (y :: r)) = true := h
    rw [Bool.and_eq_true] at h
    have ih := risS_pw h.2
    refine List.pairwise_cons.mpr ⟨fun z hz => ?_, ih⟩
    rcases List.mem_cons.mp hz with rfl | hz
    · exact h.1
    · exact ltS_trans h.1 ((List.pairwise_cons.mp ih).1 z hz)
theorem risS_nodup {l : List Str} (h : risS l = true) : l.Nodup := (risS_pw h).imp fun {a b} q z => by
  subst z
  have := ltS_asym q
  rw [q] at this
  cases this
theorem nodup_of {α : Type} {ks : List Str} {ds : List α} (hl : ks.length = ds.length) (h : risS ((isortK (ks.zip ds)).map (·.1)) = true) : ks.Nodup := by
  have p := (isortK_perm (ks.zip ds)).map (·.1)
  rw [List.map_fst_zip (Nat.le_of_eq hl)] at p
  exact p.nodup_iff.mp (risS_nodup h)
section
variable {K : Kt} {ρ : List Addr} {F : Hp}
theorem rvs_all {γ : Type} {f : γ → D} {g : γ → V} : ∀ {l : List γ}, (∀ z ∈ l, RV K ρ F (f z) (g z)) → RVs K ρ F (l.map f) (l.map g)
  | [], _ => .nil
  | z :: l, h => .cons (h z List.mem_cons_self) (rvs_all fun y hy => h y (List.mem_cons_of_mem _ hy))
theorem vals_all {γ : Type} {f : γ → V} {g : γ → Value} : ∀ {l : List γ}, (∀ z ∈ l, RelV (f z) (g z)) → Vals (l.map f) (l.map g)
  | [], _ => .nil
  | z :: l, h => .cons (h z List.mem_cons_self) (vals_all fun y hy => h y (List.mem_cons_of_mem _ hy))
theorem zip_all : ∀ {ds : List D} {xs : List V} {us : List Value}, RVs K ρ F ds xs → Vals xs us → ∀ z ∈ ds.zip (xs.zip us), RV K ρ F z.1 z.2.1 ∧ RelV z.2.1 z.2.2
  | [], _, _, _, _ => fun z hz => by simp at hz
  | d :: ds, _, _, .cons h1 h2, .cons k1 k2 => fun z hz => by
    rcases List.mem_cons.mp hz with rfl | hz
    · exact ⟨h1, k1⟩
    · exact zip_all h2 k2 z hz
theorem kout_rel {ks : List Str} {ds : List D} {xs : List V} {us out : List Value} (hl : ks.length = ds.length) (hn : ks.Nodup) (rv : RVs K ρ F ds xs) (vu : Vals xs us) (ho : KOut ks us out) : ∃ ys, RVs K ρ F (sortD ks ds) ys ∧ Vals ys out ∧ ys.length = xs.length := by
  have l1 := rv.length
  have l2 : xs.length = us.length := Paired.length vu
  have l3 : (xs.zip us).length = ds.length := by rw [List.length_zip]; omega
  have l4 : (ds.zip (xs.zip us)).length = ks.length := by rw [List.length_zip]; omega
  obtain ⟨ps, p1, p2, p3⟩ := ho
  have hall : ∀ z ∈ isortK (ks.zip (ds.zip (xs.zip us))), RV K ρ F z.2.1 z.2.2.1 ∧ RelV z.2.2.1 z.2.2.2 := fun z hz => zip_all rv vu z.2 (List.of_mem_zip (show (z.1, z.2) ∈ _ from (isortK_perm _).mem_iff.mp hz)).2
  have e1 : ks.zip ds = (ks.zip (ds.zip (xs.zip us))).map fun q => (q.1, q.2.1) := by
    have e : ds = (ds.zip (xs.zip us)).map (·.1) := (List.map_fst_zip (by omega)).symm
    conv => lhs; rw [e]
    rw [List.zip_map_right]
    rfl
  have e2 : ks.zip us = (ks.zip (ds.zip (xs.zip us))).map fun q => (q.1, q.2.2.2) := by
    have e : us = (ds.zip (xs.zip us)).map (fun z => z.2.2) := by
      have e' : (ds.zip (xs.zip us)).map (fun z => z.2.2) = ((ds.zip (xs.zip us)).map (·.2)).map (·.2) := by rw [List.map_map]; rfl
      rw [e', List.map_snd_zip (by omega), List.map_snd_zip (by omega)]
    conv => lhs; rw [e]
    rw [List.zip_map_right]
    rfl
  have e3 : sortD ks ds = (isortK (ks.zip (ds.zip (xs.zip us)))).map fun q => q.2.1 := by
    unfold sortD
    rw [e1, isortK_map (fun z : D × V × Value => z.1), List.map_map]
    rfl
  have e4 : ps = (isortK (ks.zip (ds.zip (xs.zip us)))).map fun q => (q.1, q.2.2.2) := by
    rw [← isortK_map (fun z : D × V × Value => z.2.2), ← e2]
    refine sortK_uniq (p1.trans (isortK_perm _).symm) ?_ p3 (isortK_sorted _)
    have p := (isortK_perm (ks.zip us)).map (·.1)
    rw [List.map_fst_zip (by omega)] at p
    exact p.nodup_iff.mpr hn
  refine ⟨(isortK (ks.zip (ds.zip (xs.zip us)))).map (fun q => q.2.2.1), ?_, ?_, ?_⟩
  · rw [e3]
    exact rvs_all fun z hz => (hall z hz).1
  · rw [p2, e4, List.map_map]
    exact vals_all fun z hz => (hall z hz).2
  · rw [List.length_map, (isortK_perm _).length_eq, List.length_zip]
    omega
end
section
variable {X : Cx} {G : Gx} {W : WX} {cn k : Nat} {f : Addr} {fd : FuncData} {ps : List Str} {fn : Fn}
def rSortK (K : PySem.W.Frag) (G : Gx) (cn : Nat) (fn : Fn) : List V → List V → Hp → VK → Prop := fun vs zs H Q => ∃ (ρ : List Addr) (F : Hp) (st : S) (σ0 : L2.St) (l : Addr) (xs : List V) (ds : List D) (ks : List Str), vs = [.ref l] ∧ zs = [.ty "str"] ∧ Rel G ρ F st σ0 H ∧ SqL K H l xs ∧ RVs G.K ρ F ds xs ∧ keysD cn fn st.cs ds = some ks ∧ ks.Nodup ∧ ds.length < 64 ∧
  ∀ (ρ' : List Addr) (F' : Hp) (H' : Hp) (ys : List V) (p : Addr), Ext ρ F ρ' F' → Rel G ρ' F' st σ0 H' → RVs G.K ρ' F' (sortD ks ds) ys → H' p = none → Q (.ref p) (upd H' p (.lst ys))
theorem cr_sortK (T : KeyF X G cn k f fd ps fn) : CallRK X (.builtin "sorted") [Str.ofString "key"] (rSortK X.K G cn fn) := by
  intro pins s σ H vs zs us ws Q I r rz h
  obtain ⟨ρ, F, st, σ0, l, xs, ds, ks, rfl, rfl, hR, hs, rv, hkd, hnd, h64, q⟩ := h
  obtain rfl := Vals.ref1 r
  obtain ⟨w1, rfl, e1⟩ := vals1 rz
  obtain rfl : w1 = Value.type "str" := e1
  obtain ⟨its, vu, hl, hz⟩ := I.list hs
  have l1 := rv.length
  have l2 : xs.length = its.length := Paired.length vu
  have hsl : its.length ≤ sizeLine := by rw [← l2]; exact hz
  refine call_function_entry_kw kind_sorted plain_sorted entry_sorted (ksk_s1 _ _) ?_
  unfold Builtin.«sorted»
  refine wpAny_bind (m := checkCount "sorted" 1 1 _) (wpAny_pure ?_)
  refine wpAny_bind (collect_list hl.isList ?_ hsl)
  refine wpAny_bind (wpAny_newList ?_ hsl)
  have hsz : ((s.heap.push (seqObj "list" #[] 0)).update s.heap.objs.size (Obj.mapSeq (· ++ its.toArray))).objs.size = s.heap.objs.size + 1 := by rw [Heap.size_update, size_push']
  generalize hh1 : (s.heap.push (seqObj "list" #[] 0)).update s.heap.objs.size (Obj.mapSeq (· ++ its.toArray)) = h1 at hsz
  have k1 : ∀ b o, s.heap.get? b = some o → h1.get? b = some o := fun b o z => by
    rw [← hh1, Heap.get?_update_ne _ _ _ _ (Nat.ne_of_lt (Heap.lt_size z))]
    exact Heap.get?_push_of_some _ z
  have hoL : (h1.push (seqObj "list" its.toArray 0)).get? (s.heap.objs.size + 1) = some (seqObj "list" its.toArray 0) := by
    rw [← hsz]
    exact Heap.get?_push_size _ rfl
  show wpAny _ _ _ _ _ { s with heap := h1.push (seqObj "list" its.toArray 0) }
  rw [hsz]
  refine wpAny_bind (wpAny_holding (wpAny_call_entry_kw slot_list_sort ⟨_, hoL, rfl⟩ entry_list_sort ?body (ksk_l1 _ _)))
  case body =>
    show wpAny _ X.A.in1.in1 (ksk_tree (s.heap.objs.size + 1) (.type "str") false) _ _ _
    unfold ksk_tree
    refine wpAny_bind (listItems_at hoL rfl ?_)
    refine wpAny_bind (listUpdate_at hoL rfl ?_ (by rw [List.size_toArray]; exact hsl) (Nat.zero_le _))
    have ho1 := get?_update_seq hoL fun _ => (#[] : Array Value)
    have sb := Heap.SameBut.update (h1.push (seqObj "list" its.toArray 0)) (s.heap.objs.size + 1) (Obj.mapSeq fun _ => (#[] : Array Value))
    generalize hh2 : (h1.push (seqObj "list" its.toArray 0)).update (s.heap.objs.size + 1) (Obj.mapSeq fun _ => (#[] : Array Value)) = h2 at ho1 sb
    have hs2 : h2.objs.size = s.heap.objs.size + 2 := by rw [← hh2, Heap.size_update, size_push', hsz]
    have k2 : ∀ b o, s.heap.get? b = some o → h2.get? b = some o := fun b o z => by
      rw [sb.2 b (Nat.ne_of_lt (Nat.lt_succ_of_lt (Heap.lt_size z)))]
      exact Heap.get?_push_of_some _ (k1 b o z)
    refine wpAny_bind (seqEpoch_at ho1 rfl ?_)
    refine wpAny_bind (wpAny_newTuple ?_ (by show its.length ≤ _; exact hsl))
    refine wpAny_bind (wpAny_newList ?_ (Nat.zero_le _))
    refine wpAny_holding ?_
    have k3 : ∀ b o, h2.get? b = some o → ((h2.push (seqObj "tuple" its.toArray 0)).push (seqObj "list" #[] 0)).get? b = some o := fun b o z => Heap.get?_push_of_some _ (Heap.get?_push_of_some _ z)
    have hs3 : (h2.push (seqObj "tuple" its.toArray 0)).objs.size = s.heap.objs.size + 3 := by rw [size_push', hs2]
    have hk3 : ((h2.push (seqObj "tuple" its.toArray 0)).push (seqObj "list" #[] 0)).get? (h2.push (seqObj "tuple" its.toArray 0)).objs.size = some (seqObj "list" #[] 0) := Heap.get?_push_size _ rfl
    have I2 : Inv X pins σ H { s with heap := (h2.push (seqObj "tuple" its.toArray 0)).push (seqObj "list" #[] 0), toks := s.toks } := I.kept fun b o z => k3 b o (k2 b o z)
    refine sortK_rest (a := s.heap.objs.size + 1) (kS := (h2.push (seqObj "tuple" its.toArray 0)).objs.size) T I2 hR rv vu hkd (by omega) (I.fpOk (Nat.le_succ _) (I.hok.fresh (Nat.le_succ _))) (I.fpOk (by rw [hs3]; omega) (I.hok.fresh (by rw [hs3]; omega))) (fun z => absurd (hs3.symm.trans z) (by simp)) (k3 _ _ ho1) hk3 ?_
    intro ρ' F' H' s' out c x1 r1 I3 fa h3 ko
    obtain ⟨ys, y1, y2, y3⟩ := kout_rel (K := G.K) (ρ := ρ') (F := F') (keysD_at hkd).1 hnd (rv.ext x1) vu ko
    refine ⟨_, rfl, wpAny_pure ⟨_, rfl, .ref (s.heap.objs.size + 1), upd H' (s.heap.objs.size + 1) (.lst ys), I3.take (t' := s'.toks) (fun b o _ z => z) fa ⟨by rw [y3]; exact hz, out, c, y2, h3⟩, rfl, q ρ' F' H' ys _ x1 r1 y1 fa.1⟩⟩
/-- sorted(e, key=str) -/
def eSortK (cn : Nat) (fn : Fn) (fa : Ex) : Ex := fun st => (fa st).bind fun x c1 => match lstOf c1 x with
  | some ds => (match keysD cn fn c1 ds with
    | some ks => if decide (ds.length < 64) && risS ((isortK (ks.zip ds)).map (·.1)) then .ok (.lst (sortD ks ds)) c1 else .no
    | none => .no)
  | none => .no
theorem de_sortK {e : Expr} {fa : Ex} {p p2 pk pos : Pos} (d : DefM X.prog X.w G.K X.mg X.base cn "__str__" k ps fn) (hp : ps.length = 1) (hK : X.K = G.K.K) (hr : Room (k + 4) X.A) (hg : Gl X "sorted") (hm : X.mg "sorted" = none) (hg2 : Gl X "str") (hm2 : X.mg "str" = none) (ha : PE X e (tE G W fa))
    (he : starEach [e] X.env = (false, eval e X.env) :: starEach [] X.env := by rfl) (hbt : backTo pos (starEach [e] X.env) = (false, eval e X.env) :: backTo pos (starEach [] X.env) := by rfl) (hpl : (backTo pos (starEach [e] X.env)).any (·.1) = false := by rfl) :
    PE X (.Call (.Name "sorted" p) [e] [⟨some "key", .Name "str" p2, pk⟩] pos) (tE G W (eSortK cn fn fa)) := by
  obtain ⟨f, fd, h1, h2, h3, h4⟩ := d.ex
  rw [hp, ← hK] at h4
  rw [← hK] at h1 h2 h3
  have T : KeyF X G cn k f fd ps fn := ⟨h4, h1, h2, h3, hr⟩
  have hT : PE X (.Name "str" p2) (tC (.ty "str")) := pe_bltn hg2 hm2 boot_str rfl
  refine (pe_callBK (cr_sortK T) hg hm (by decide +kernel) (pa_cons ha pa_nil he) (pk_cons hT pk_nil) (he := hbt) (hpl := hpl)).impV ?_
  rintro σ H Q ⟨ρ, F, st, r, po⟩
  refine seqX r po fun ρ1 F1 H1 x c1 v x1 r1 rv1 p1 => ?_
  cases q : lstOf c1 x with
  | none => rw [q] at p1; exact p1.elim
  | some ds =>
    rw [q] at p1
    simp only at p1
    obtain ⟨l, xs, rfl, hsq, rvs⟩ := lst_read (st := ⟨st.env, c1⟩) r1 rv1 q
    cases q2 : keysD cn fn c1 ds with
    | none => rw [q2] at p1; exact p1.elim
    | some ks =>
      rw [q2] at p1
      simp only at p1
      by_cases c : (decide (ds.length < 64) && risS ((isortK (ks.zip ds)).map (·.1))) = true
      · rw [if_pos c] at p1
        simp only [Bool.and_eq_true, decide_eq_true_eq] at c
        have hl := (keysD_at q2).1
        refine ⟨ρ1, F1, ⟨st.env, c1⟩, σ, l, xs, ds, ks, rfl, rfl, r1, by rw [hK]; exact hsq, rvs, q2, nodup_of hl c.2, c.1, ?_⟩
        intro ρ2 F2 H2 ys p x2 r2 rv2 hp
        obtain ⟨x3, r3⟩ := r2.fresh (o := .lst ys) hp
        exact p1 _ _ _ _ (x2.trans x3) r3 (.lst upd_same (rv2.ext x3))
      · rw [if_neg c] at p1
        exact p1.elim
end
end VL

/-! VLY5: len(set(t)), sorted texts, f-strings, extend, isinstance with a tuple of types -/
namespace VL
open PySem PySem.Spec PyProof.Rows L2
section
variable {X : Cx} {G : Gx} {W : WX} {e a : Expr} {es : List Expr} {fa fb : Ex} {g : Ax} {pos p p2 q : Pos}
/-! ### len(set(t)) -/
def tLenSetT (K : PySem.W.Frag) (ta : TE) : TE := fun σ H Q => ta σ H fun x H1 => ∃ (l : Addr) (xs : List Str), x = .ref l ∧ SqT K H1 l (xs.map V.str) ∧ xs.length < 64 ∧ Q (.int (dcS xs : Nat)) H1
theorem pe_lenSetT {ta : TE} (hc : X.calm = true) (hg : Gl X "len") (hm : X.mg "len" = none) (hg2 : Gl X "set") (hm2 : X.mg "set" = none) (ha : PE X a ta) (na : starEach [a] X.env = (false, eval a X.env) :: starEach [] X.env := by rfl) :
    PE X (.Call (.Name "len" p) [.Call (.Name "set" p2) [a] [] q] [] pos) (tLenSetT X.K ta) := by
  refine ⟨fun pins s σ H Q I h => ?_⟩
  refine Call_ (ld_blt I hg hm boot_len (callWith_builtin1 (args_cons ?_ rfl) rfl rfl))
  refine Call_ (ld_blt I hg2 hm2 boot_set ?_)
  refine callWith_type1 (args_cons (thn (ha.run pins s σ H _ I h) fun v s1 ⟨x, H1, I1, r1, q1⟩ => args_nil ?_) na) na rfl
  obtain ⟨l, xs, rfl, hq, h1, q1⟩ := q1
  cases r1
  obtain ⟨its, r, pl, hz⟩ := I1.tuple hq
  refine call_setT (xs := xs) (I1.ok.hd hc) pl (by simpa using strsAre_of r) (by unfold scanBound; omega) fun h' tk ⟨hS, hk⟩ => args_nil ?_
  obtain ⟨o, es, ep, t, ho, hex, hd, _, _, _, hf, hn⟩ := hS
  have I2 : Inv X pins σ H1 { s1 with heap := h', toks := tk } := I1.kept fun b o e => hk b o (Heap.lt_size e) e
  have hd2 := dcS_le xs
  exact call_len_set ho hex hd hf (by rw [hn]; omega) ⟨.int (dcS xs : Nat), H1, I2.tok _, ⟨_, by rw [hn]⟩, q1⟩
def eLenSet (fa : Ex) : Ex := fun st => (fa st).bind fun x c1 => match x with
  | .tup ds => (match strsOf ds with
    | some xs => if decide (xs.length < 64) then .ok (.int (dcS xs : Nat)) c1 else .no
    | none => .no)
  | _ => .no
theorem de_lenSet (hK : X.K = G.K.K) (hc : X.calm = true) (hg : Gl X "len") (hm : X.mg "len" = none) (hg2 : Gl X "set") (hm2 : X.mg "set" = none) (ha : PE X a (tE G W fa)) (na : starEach [a] X.env = (false, eval a X.env) :: starEach [] X.env := by rfl) :
    PE X (.Call (.Name "len" p) [.Call (.Name "set" p2) [a] [] q] [] pos) (tE G W (eLenSet fa)) := by
  refine (pe_lenSetT hc hg hm hg2 hm2 ha na).impV fun σ H Q ⟨ρ, F, st, r, po⟩ => seqX r po fun ρ1 F1 H1 x c1 v x1 r1 rv1 p1 => ?_
  cases rv1 with
  | tup h1 h2 =>
    rename_i l ws ds
    simp only at p1
    cases qq : strsOf ds with
    | none => rw [qq] at p1; exact p1.elim
    | some xs =>
      rw [qq] at p1
      simp only at p1
      by_cases c : decide (xs.length < 64) = true
      · rw [if_pos c] at p1
        have ev := strs_read h2 qq
        subst ev
        refine ⟨_, xs, rfl, by rw [hK]; exact sqT_same r1.fz h1, of_decide_eq_true c, p1.here (st := ⟨st.env, c1⟩) r1 (.int _)⟩
      · rw [if_neg c] at p1
        exact p1.elim
  | _ => exact p1.elim
/-! ### sorted(texts) -/
def sortT (xs : List Str) : List Str := (isortK (xs.map fun x => (x, ()))).map (·.1)
theorem sortT_perm (xs : List Str) : (sortT xs).Perm xs := by
  have h := (isortK_perm (xs.map fun x => (x, ()))).map (·.1)
  rw [List.map_map] at h
  have e : xs.map ((fun x : Str × Unit => x.1) ∘ fun x => (x, ())) = xs := by
    have : ((fun x : Str × Unit => x.1) ∘ fun x : Str => (x, ())) = id := rfl
    rw [this, List.map_id]
  rw [e] at h
  exact h
theorem sortT_sorted (xs : List Str) : (sortT xs).Pairwise (fun a b => ltS b a = false) := List.pairwise_map.mpr (isortK_sorted _)
theorem leS_trans {x y z : Str} (h1 : ltS y x = false) (h2 : ltS z y = false) : ltS z x = false := by
  simp only [ltS, ltCps_eq, decide_eq_false_iff_not] at *
  exact List.not_lt.mpr (List.le_trans (List.not_lt.mp h1) (List.not_lt.mp h2))
theorem rising_pw : ∀ {l : List Str} {p : Str}, risingS p l = true → (p :: l).Pairwise (fun a b => ltS b a = false)
  | [], p, _ => List.pairwise_singleton _ _
  | x :: r, p, h => by
    have h : (!ltS x p && risingS x r) = true := h
    rw [Bool.and_eq_true] at h
    have ih := rising_pw h.2
    have h1 : ltS x p = false := by simpa using h.1
    refine List.pairwise_cons.mpr ⟨fun z hz => ?_, ih⟩
    rcases List.mem_cons.mp hz with rfl | hz
    · exact h1
    · exact leS_trans h1 ((List.pairwise_cons.mp ih).1 z hz)
theorem sorted_pw : ∀ {l : List Str}, sortedS l = true → l.Pairwise (fun a b => ltS b a = false)
  | [], _ => List.Pairwise.nil
  | x :: r, h => rising_pw h
theorem sortS_uniq : ∀ {l m : List Str}, l.Perm m → l.Pairwise (fun a b => ltS b a = false) → m.Pairwise (fun a b => ltS b a = false) → l = m
  | [], m, h, _, _ => by rw [h.nil_eq]
  | p :: l, [], h, _, _ => absurd h.length_eq (by simp)
  | p :: l, q :: m, h, hl, hm => by
    have hl' := List.pairwise_cons.mp hl
    have hm' := List.pairwise_cons.mp hm
    have e : p = q := by
      rcases List.mem_cons.mp (h.mem_iff.mp List.mem_cons_self) with e | hp
      · exact e
      · rcases List.mem_cons.mp (h.mem_iff.mpr List.mem_cons_self) with e | hq
        · exact e.symm
        · exact ltS_tot (hm'.1 p hp) (hl'.1 q hq)
    subst e
    rw [sortS_uniq (List.perm_cons _ |>.mp h) hl'.2 hm'.2]
def hSortS : FB := fun cs xs => match xs with
  | [d] => (match lstOf cs d with
    | some ds => (match strsOf ds with
      | some ys => if decide (ys.length < 64) then .ok (.lst ((sortT ys).map .str)) cs else .no
      | none => .no)
    | none => .no)
  | _ => .no
theorem de_sortS (hK : X.K = G.K.K) (hg : Gl X "sorted") (hm : X.mg "sorted" = none) (ha : PA X (e :: es) (tAs G W g)) (he : starEach (e :: es) X.env = (false, eval e X.env) :: starEach es X.env := by rfl) (hpl : (backTo pos (starEach es X.env)).any (·.1) = false := by rfl) : PE X (.Call (.Name "sorted" p) (e :: es) [] pos) (tE G W (eB hSortS g)) := by
  refine de_callB cr_sortedS ?_ hg hm (by decide +kernel) ha (he := he) (hpl := hpl)
  intro ρ F st σ H ds vs Q r rv po
  unfold hSortS at po
  split at po
  · rename_i d
    cases rv with
    | cons h1 h2 =>
      cases h2
      cases q : lstOf st.cs d with
      | none => rw [q] at po; exact po.elim
      | some ds =>
        rw [q] at po
        obtain ⟨b, ws, rfl, hsq, rvs⟩ := lst_read r h1 q
        cases q2 : strsOf ds with
        | none => simp only [q2] at po; exact po.elim
        | some ys =>
          simp only [q2] at po
          have ev := strs_read rvs q2
          subst ev
          by_cases c : decide (ys.length < 64) = true
          · rw [if_pos c] at po
            refine ⟨b, ys, rfl, by rw [hK]; exact hsq, of_decide_eq_true c, fun zs p h3 h4 h5 => ?_⟩
            have ez : zs = sortT ys := sortS_uniq (h3.trans (sortT_perm ys).symm) (sorted_pw h4) (sortT_sorted ys)
            subst ez
            obtain ⟨x3, r3⟩ := r.fresh (o := .lst ((sortT ys).map V.str)) h5
            exact po _ _ _ _ x3 r3 (.lst upd_same rvs_strs)
          · rw [if_neg c] at po
            exact po.elim
  · exact po.elim
/-! ### f-strings of texts -/
def fsOf : List Ex → Str → S → Out D
  | [], acc, st => .ok (.str acc) st.cs
  | f :: r, acc, st => (f st).bind fun x c1 => match x with
    | .str y => if y.length ≤ 16777216 ∧ (acc ++ y).length ≤ 16777216 then fsOf r (acc ++ y) ⟨st.env, c1⟩ else .no
    | _ => .no
def eFs (fs : List Ex) : Ex := fun st => fsOf fs Str.empty st
/-- the parts -/
inductive DJ (X : Cx) (G : Gx) (W : WX) : List Expr → List Ex → Prop where
  | nil : DJ X G W [] []
  | fmt {e : Expr} {f : Ex} {pos : Pos} {es : List Expr} {fs : List Ex} (h : PE X e (tE G W f)) (r : DJ X G W es fs) : DJ X G W (.FormattedValue e (-1) none pos :: es) (f :: fs)
  | txt {e : Expr} {f : Ex} {es : List Expr} {fs : List Ex} (h : PE X e (tE G W f)) (r : DJ X G W es fs) : DJ X G W (e :: es) (f :: fs)
theorem dj_pj {es : List Expr} {fs : List Ex} (h : DJ X G W es fs) : ∃ ts, PJ X es ts ∧ ∀ (acc : Str) (σ : L2.St) (H : Hp) (Q : VK), tE G W (fsOf fs acc) σ H Q → tJs ts acc σ H fun out H1 => Q (.str out) H1 := by
  induction h with
  | nil =>
    refine ⟨[], .nil, fun acc σ H Q ⟨ρ, F, st, r, po⟩ => ?_⟩
    exact po.here r (.str _)
  | @fmt e f pos es fs h r ih =>
    obtain ⟨ts, h1, h2⟩ := ih
    refine ⟨_, .cons (pe_fmt h) h1, fun acc σ H Q ⟨ρ, F, st, r, po⟩ => ?_⟩
    unfold fsOf at po
    refine seqX r po fun ρ1 F1 H1 x c1 v x1 r1 rv1 p1 => ?_
    cases rv1 with
    | str y =>
      simp only at p1
      by_cases c : y.length ≤ 16777216 ∧ (acc ++ y).length ≤ 16777216
      · rw [if_pos c] at p1
        exact .inl ⟨y, rfl, line_of c.1, y, rfl, line_of c.2, h2 _ σ H1 Q ⟨ρ1, F1, ⟨st.env, c1⟩, r1, p1⟩⟩
      · rw [if_neg c] at p1
        exact p1.elim
    | _ => exact p1.elim
  | @txt e f es fs h r ih =>
    obtain ⟨ts, h1, h2⟩ := ih
    refine ⟨_, .cons h h1, fun acc σ H Q ⟨ρ, F, st, r, po⟩ => ?_⟩
    unfold fsOf at po
    refine seqX r po fun ρ1 F1 H1 x c1 v x1 r1 rv1 p1 => ?_
    cases rv1 with
    | str y =>
      simp only at p1
      by_cases c : y.length ≤ 16777216 ∧ (acc ++ y).length ≤ 16777216
      · rw [if_pos c] at p1
        exact ⟨y, rfl, line_of c.2, h2 _ σ H1 Q ⟨ρ1, F1, ⟨st.env, c1⟩, r1, p1⟩⟩
      · rw [if_neg c] at p1
        exact p1.elim
    | _ => exact p1.elim
theorem de_fs {e1 e2 : Expr} {rest : List Expr} {fs : List Ex} (h : DJ X G W (e1 :: e2 :: rest) fs) : PE X (.JoinedStr (e1 :: e2 :: rest) pos) (tE G W (eFs fs)) := by
  obtain ⟨ts, h1, h2⟩ := dj_pj h
  exact (pe_joined h1).impV fun σ H Q t => h2 Str.empty σ H Q t
/-! ### extend -/
def eExtend (fo f : Ex) : Ex := fun st => (fo st).bind fun x c1 => match x with
  | .loc n => (match c1[n]? with
    | some (.lst _) => (f ⟨st.env, c1⟩).bind fun y c2 => (match y, c2[n]? with
      | .lst es, some (.lst ds) => if ds.length + es.length ≤ 16777216 then .ok .non (c2.set n (.lst (ds ++ es))) else .no
      | _, _ => .no)
    | _ => .no)
  | _ => .no
theorem de_extend {c : Expr} {fo f : Ex} (hK : X.K = G.K.K) (h : PE X c (tBM X.K "list" rExtend (tE G W fo) (tCons (tE G W f) tNil))) : PE X c (tE G W (eExtend fo f)) :=
  h.impV fun σ H Q ⟨ρ, F, st, r, p⟩ => seqX r p fun ρ1 F1 H1 x c1 v x1 r1 rv1 p1 => by
    cases rv1 with
    | @loc n a0 h1 =>
      simp only at p1
      split at p1
      · rename_i ds0 q
        obtain ⟨vs0, h2, h3⟩ := r1.cell n _ _ q h1
        refine ⟨.inl ⟨rfl, vs0, SqL.of h2⟩, ?_⟩
        refine seqX (st := ⟨st.env, c1⟩) (f := f) r1 p1 fun ρ2 F2 H2 y c2 w x2 r2 rv2 p2 => ?_
        split at p2
        · rename_i es ds q2
          by_cases c : ds.length + es.length ≤ 16777216
          · rw [if_pos c] at p2
            obtain ⟨vs, h4, h5⟩ := r2.cell n _ _ q2 (x2.at h1)
            cases rv2 with
            | lst h6 h7 =>
              rename_i b zs
              refine ⟨a0, b, vs, zs, rfl, rfl, h4, r2.fz _ _ h6, by rw [← h5.length, ← h7.length, sizeLine_eq]; exact c, ?_⟩
              exact p2 ρ2 F2 _ .non Ext.refl (r2.cellSet (st := ⟨st.env, c2⟩) (c := .lst (ds ++ es)) (x2.at h1) ⟨_, upd_same, h5.append h7⟩) .non
          · rw [if_neg c] at p2
            exact p2.elim
        · exact p2.elim
      · exact p1.elim
    | _ => exact p1.elim
/-! ### xs[::-1], an own list -/
theorem de_revLoc {k : Nat} {p1 p2 p3 : Pos} (hK : X.K = G.K.K) (ha : PE X a (tE G W fa)) : PE X (.Subscript a (.Slice none none (some (.UnaryOp .USub (.Constant (.int 1) k p1) p2)) p3) pos) (tE G W (eUn gRevLoc fa)) :=
  (pe_revL ha).impV fun σ H Q ⟨ρ, F, st, r, p⟩ => seqX r p fun ρ1 F1 H1 x c1 v x1 r1 rv1 p1 => by
    unfold gRevLoc at p1
    cases q : lstOf c1 x with
    | none => simp only [q] at p1; exact p1.elim
    | some xs =>
      simp only [q] at p1
      obtain ⟨a2, ws, rfl, s2, r2⟩ := lst_read (st := ⟨st.env, c1⟩) r1 rv1 q
      rw [hK]
      exact ⟨a2, ws, rfl, s2, fun q hq => newCell_of (st := ⟨st.env, c1⟩) r1 r2.reverse hq p1⟩
/-! ### isinstance(x, (T1, T2)) -/
def anySub (n : String) : List String → Option Bool
  | [] => some false
  | T :: r => match isSub n T with
    | some true => some true
    | some false => anySub n r
    | none => none
theorem anySub_kit {K : PySem.W.Frag} {n : String} : ∀ {Ts : List String} {b : Bool}, anySub n Ts = some b → PySem.W.kitAny K (.type n) (Ts.map .type) = some b
  | [], b, h => by
    cases h
    rfl
  | T :: r, b, h => by
    have h : (match isSub n T with
      | some true => some true
      | some false => anySub n r
      | none => none) = some b := h
    show (match PySem.W.kitOne K (.type n) (.type T) with
      | some true => some true
      | some false => PySem.W.kitAny K (.type n) (r.map .type)
      | none => none) = some b
    cases q : isSub n T with
    | none => rw [q] at h; cases h
    | some k =>
      rw [q] at h
      rw [kit_ty (isSub_of q)]
      cases k with
      | true => exact h
      | false => exact anySub_kit h
def ansT (Ts : List String) : Ty → Option Bool
  | .t n => anySub n Ts
  | .c _ => none
theorem de_isiT2 {T1 T2 : String} {x1 x2 : Str} {kk : Nat} {p1 p3 p4 p5 : Pos} (hK : X.K = G.K.K) (hg : Gl X "isinstance") (hm : X.mg "isinstance" = none) (hg1 : Gl X x1) (hm1 : X.mg x1 = none) (hb1 : bootBuiltins x1 = some (.type T1)) (hg2 : Gl X x2) (hm2 : X.mg x2 = none) (hb2 : bootBuiltins x2 = some (.type T2)) (ha : PE X a (tE G W fa))
    (hn1 : x1 ≠ "__name__" := by decide) (hd1 : (x1 == ("__debug__" : Str)) = false := by decide) (hn2 : x2 ≠ "__name__" := by decide) (hd2 : (x2 == ("__debug__" : Str)) = false := by decide)
    (hs : starEach [a, .Tuple [.Name x1 p3, .Name x2 p4] kk p5] X.env = (false, eval a X.env) :: starEach [.Tuple [.Name x1 p3, .Name x2 p4] kk p5] X.env := by rfl) (hpl : (backTo pos (starEach [.Tuple [.Name x1 p3, .Name x2 p4] kk p5] X.env)).any (·.1) = false := by rfl)
    (hs2 : starEach [.Tuple [.Name x1 p3, .Name x2 p4] kk p5] X.env = (false, eval (.Tuple [.Name x1 p3, .Name x2 p4] kk p5) X.env) :: starEach [] X.env := by rfl) (hs3 : starEach [.Name x1 p3, .Name x2 p4] X.env = (false, eval (.Name x1 p3) X.env) :: starEach [.Name x2 p4] X.env := by rfl) (hs4 : starEach [.Name x2 p4] X.env = (false, eval (.Name x2 p4) X.env) :: starEach [] X.env := by rfl) :
    PE X (.Call (.Name "isinstance" p1) [a, .Tuple [.Name x1 p3, .Name x2 p4] kk p5] [] pos) (tE G W (eUn (gIsiG (ansT [T1, T2])) fa)) := by
  have hA : PE X (.Name x1 p3) (tC (.ty T1)) := pe_bltn hg1 hm1 hb1 rfl hn1 hd1
  have hB : PE X (.Name x2 p4) (tC (.ty T2)) := pe_bltn hg2 hm2 hb2 rfl hn2 hd2
  refine (pe_callB call_isiT hg hm boot_isinstance (pa_cons ha (pa_cons (pe_tup (pa_cons hA (pa_cons hB pa_nil hs4) hs3)) pa_nil hs2) hs) (he := hs) (hpl := hpl)).impV ?_
  rintro σ H Q ⟨ρ, F, st, r, po⟩
  refine seqX r po fun ρ1 F1 H1 x c1 v x1 r1 rv1 p1 => ?_
  refine ⟨by rw [sizeLine_eq]; show 2 ≤ 16777216; decide, fun q hq => ?_⟩
  unfold gIsiG at p1
  cases qt : tyG c1 x with
  | none => rw [qt] at p1; exact p1.elim
  | some t =>
    rw [qt] at p1
    simp only at p1
    cases q2 : ansT [T1, T2] t with
    | none => rw [q2] at p1; exact p1.elim
    | some kb =>
      rw [q2] at p1
      cases t with
      | c C => cases q2
      | t n =>
        obtain ⟨x2', r2⟩ := r1.fresh (o := .tup [V.ty T1, V.ty T2]) hq
        rw [hK]
        refine ⟨v, q, [.ty T1, .ty T2], .type n, [.type T1, .type T2], kb, rfl, upd_same, .cons (.ty T1) (.cons (.ty T2) .nil), ?_, anySub_kit (Ts := [T1, T2]) q2, ?_⟩
        · exact tyX_G (st := ⟨st.env, c1⟩) r2 (rv1.ext x2') qt (fun C z => by cases z)
        · exact p1 _ _ _ _ x2' r2 (.bl _)
end
end VL

/-! VLY6: for over an own list -/
namespace VL
open PySem PySem.Spec PyProof.Rows L2
def eqStr (x y : Str) : Bool := x.cps.toList == y.cps.toList
def eqStrs (xs ys : List Str) : Bool := xs.map (·.cps.toList) == ys.map (·.cps.toList)
mutual
def eqD : D → D → Bool
  | .non, .non => true
  | .bl a, .bl b => a == b
  | .int a, .int b => a == b
  | .str a, .str b => eqStr a b
  | .tup a, .tup b => eqDs a b
  | .lst a, .lst b => eqDs a b
  | .frl a, .frl b => eqDs a b
  | .obj c k a, .obj d l b => (c == d && eqStrs k l) && eqDs a b
  | .cls a, .cls b => a == b
  | .loc a, .loc b => a == b
  | _, _ => false
def eqDs : List D → List D → Bool
  | [], [] => true
  | x :: xs, y :: ys => eqD x y && eqDs xs ys
  | _, _ => false
end
theorem cps_inj {x y : Str} (h : x.cps.toList = y.cps.toList) : x = y := by
  obtain ⟨⟨a⟩⟩ := x
  obtain ⟨⟨b⟩⟩ := y
  exact congrArg (fun l : List Nat => (⟨⟨l⟩⟩ : Str)) h
theorem eqStr_of {x y : Str} (h : eqStr x y = true) : x = y := cps_inj (beq_iff_eq.mp h)
theorem maps_inj : ∀ {xs ys : List Str}, xs.map (·.cps.toList) = ys.map (·.cps.toList) → xs = ys
  | [], [], _ => rfl
  | [], _ :: _, h => by cases h
  | _ :: _, [], h => by cases h
  | x :: xs, y :: ys, h => by
    rw [List.map_cons, List.map_cons] at h
    injection h with h1 h2
    rw [cps_inj h1, maps_inj h2]
theorem eqStrs_of {xs ys : List Str} (h : eqStrs xs ys = true) : xs = ys := maps_inj (beq_iff_eq.mp h)
mutual
theorem eqD_of : ∀ {x y : D}, eqD x y = true → x = y
  | .non, y, h => by cases y <;> first | rfl | cases h
  | .bl a, y, h => by
    cases y with
    | bl b => rw [beq_iff_eq.mp (show (a == b) = true from h)]
    | _ => cases h
  | .int a, y, h => by
    cases y with
    | int b => rw [beq_iff_eq.mp (show (a == b) = true from h)]
    | _ => cases h
  | .str a, y, h => by
    cases y with
    | str b => rw [eqStr_of (show eqStr a b = true from h)]
    | _ => cases h
  | .tup a, y, h => by
    cases y with
    | tup b => rw [eqDs_of (show eqDs a b = true from h)]
    | _ => cases h
  | .lst a, y, h => by
    cases y with
    | lst b => rw [eqDs_of (show eqDs a b = true from h)]
    | _ => cases h
  | .frl a, y, h => by
    cases y with
    | frl b => rw [eqDs_of (show eqDs a b = true from h)]
    | _ => cases h
  | .obj c k a, y, h => by
    cases y with
    | obj d l b =>
      have h : ((c == d && eqStrs k l) && eqDs a b) = true := h
      simp only [Bool.and_eq_true, beq_iff_eq] at h
      rw [h.1.1, eqStrs_of h.1.2, eqDs_of h.2]
    | _ => cases h
  | .dct _ _, y, h => by cases y <;> cases h
  | .btp _, y, h => by cases y <;> cases h
  | .cls a, y, h => by
    cases y with
    | cls b => rw [beq_iff_eq.mp (show (a == b) = true from h)]
    | _ => cases h
  | .loc a, y, h => by
    cases y with
    | loc b => rw [beq_iff_eq.mp (show (a == b) = true from h)]
    | _ => cases h
theorem eqDs_of : ∀ {xs ys : List D}, eqDs xs ys = true → xs = ys
  | [], ys, h => by cases ys <;> first | rfl | cases h
  | x :: xs, ys, h => by
    cases ys with
    | nil => cases h
    | cons y ys =>
      have h : (eqD x y && eqDs xs ys) = true := h
      rw [Bool.and_eq_true] at h
      rw [eqD_of h.1, eqDs_of h.2]
end
/-- the cell n holds these very items -/
def keepD (n : Nat) (ds : List D) : List Cell → Bool := fun cs => match cs[n]? with
  | some (.lst es) => eqDs es ds
  | _ => false
theorem keepD_of {n : Nat} {ds : List D} {cs : List Cell} (h : keepD n ds cs = true) : cs[n]? = some (.lst ds) := by
  unfold keepD at h
  split at h
  · rename_i es q
    rw [q, eqDs_of h]
  · cases h
section
variable {X : Cx} {G : Gx} {W : WX} {ρ : List Addr} {F : Hp} {st : S} {σ : L2.St} {H : Hp} {tg e : Expr} {fa : Ex}
theorem wk_loc {n : Nat} {a : Addr} {ds : List D} (h : ρ[n]? = some a) : Wk G ρ F (Itl G.K.K a) ds (keepD n ds) := fun ρ1 F1 st1 σ1 H1 i x r hk => by
  obtain ⟨vs, h2, rv⟩ := r.cell n _ _ (keepD_of hk) (x.at h)
  have hs1 : SqL G.K.K H1 a vs := SqL.of h2
  refine ⟨fun d e => ?_, fun e => ⟨vs, hs1, ?_⟩⟩
  · obtain ⟨v, e1, e2⟩ := rv.get e
    exact ⟨⟨vs, v, hs1, e1⟩, fun y H' ⟨e3, e4⟩ => by
      subst e3
      have := e4 vs hs1
      rw [e1] at this
      cases this
      exact ⟨ρ1, F1, Ext.refl, rfl, fun _ _ h => h, r, e2⟩⟩
  · rw [← rv.length, e]
    exact Nat.le_refl _
def iLo (f : Ex) : Ix := fun st => (f st).bind fun x c1 => match x with
  | .loc n => (match c1[n]? with
    | some (.lst ds) => .ok (ds, keepD n ds) c1
    | _ => .no)
  | _ => .no
theorem di_loc (hK : X.K = G.K.K) (h : PE X e (tE G W fa)) : PI X tg e (tI G W (iLo fa)) := (pi_list h).impV fun σ H R ⟨ρ, F, st, r, p⟩ => by
  refine tI_of (R := RV) r p (fun ρ1 F1 H1 x c1 v x1 r1 rv1 q hn => ?_) (fun x c1 => ?_)
  · rw [hK]
    cases rv1 with
    | @loc n a0 h1 =>
      cases qc : c1[n]? with
      | none => simp only [qc] at hn; exact absurd rfl hn
      | some c0 =>
        cases c0 with
        | lst ds =>
          obtain ⟨vs, h2, rv⟩ := r1.cell n _ _ qc h1
          exact ⟨_, rfl, ⟨_, SqL.of h2⟩, q (ds, keepD n ds) (by simp only [qc]) _ (wk_loc h1)⟩
        | dk _ _ => simp only [qc] at hn; exact absurd rfl hn
        | tbl _ _ => simp only [qc] at hn; exact absurd rfl hn
        | ins _ _ _ => simp only [qc] at hn; exact absurd rfl hn
    | _ => exact absurd rfl hn
  · cases x with
    | loc n =>
      cases qc : c1[n]? with
      | none => exact .inr (by simp only [qc])
      | some c0 =>
        cases c0 with
        | lst ds => exact .inl ⟨(ds, keepD n ds), by simp only [qc]⟩
        | dk _ _ => exact .inr (by simp only [qc])
        | tbl _ _ => exact .inr (by simp only [qc])
        | ins _ _ _ => exact .inr (by simp only [qc])
    | _ => exact .inr rfl
end
end VL

/-! VLY7: sorted(t), t a tuple of texts; tuples of the written part -/
namespace VL
open PySem PySem.Spec PyProof.Rows L2
section
variable {prog : Program} {w : World} {A : Around} {E : Value → Shared → Prop} {s : Shared}
theorem collectT {l : Addr} {vs : List Value} {Q : List Value → Shared → Prop} (hl : s.heap.IsTuple l vs.toArray) (h : Q vs { s with heap := (s.heap.push (seqObj "list" #[] 0)).update s.heap.objs.size (Obj.mapSeq (· ++ vs.toArray)) }) (hsz : vs.length ≤ sizeLine) :
    wpAny (model prog w) A (collect (.ref l)) Q E s := by
  obtain ⟨o, ho, hc, n, hd⟩ := hl
  have ho' : (s.heap.push (seqObj "list" #[] 0)).get? l = some o := Heap.get?_push_of_some _ ho
  have hn : (s.heap.push (seqObj "list" #[] 0)).get? s.heap.objs.size = some (seqObj "list" #[] 0) := Heap.get?_push_size _ rfl
  unfold collect
  refine wpAny_bind (wpAny_runValue (codeAny_builtin entry_proto_collect' ?_))
  refine wpAny_bind (m := newList []) (wpAny_newList (wpAny_pure ⟨Code.quiet_builtin _ (by decide +kernel), codeAny_builtin entry_list_iadd' ?_⟩))
  show wpAny _ _ (Builtin.List.listExtendWith (.ref s.heap.objs.size) (.ref l) (.ref s.heap.objs.size)) _ _ { s with heap := s.heap.push (seqObj "list" #[] 0) }
  unfold Builtin.List.listExtendWith
  refine wpAny_bind (wpAny_typeOf (T := "tuple") ⟨o, ho', hc⟩ ?_)
  rw [if_pos (by rw [show (Value.type "tuple" == Value.type "tuple") = true from rfl, Bool.or_true])]
  refine wpAny_bind (listItems_at ho' hd (wpAny_bind (listItems_at hn rfl ?_)))
  rw [if_neg (by simp)]
  refine wpAny_bind (listUpdate_at hn rfl (wpAny_pure ?_) (Nat.zero_le _) (by show (#[] ++ vs.toArray).size ≤ sizeLine + 1; simp only [Array.size_append, List.size_toArray, List.length_nil]; omega))
  refine wpAny_bind (m := load s.heap.objs.size) (wpAny_load (get?_update_seq hn _) ?_)
  show wpAny _ _ (pure ((#[] : Array Value) ++ vs.toArray).toList) Q E _
  have e : ((#[] : Array Value) ++ vs.toArray).toList = vs := by simp
  rw [e]
  exact wpAny_pure h
theorem sortedT {l : Addr} {vs : List Value} {ss : List Str} {Q : Value → Shared → Prop} (hl : s.heap.IsTuple l vs.toArray) (hS : StrsAre vs ss) (h64 : vs.length < 64)
    (h : ∀ (out : Array Value) (ss' : List Str), StrsAre out.toList ss' → ss'.Perm ss → sortedS ss' = true → Q (.ref (s.heap.objs.size + 1)) { s with heap := sortedAll s.heap vs out }) :
    wpAny (model prog w) A (call (.builtin "sorted") [.ref l]) Q E s := by
  have hz : vs.length ≤ sizeLine := by rw [sizeLine_eq]; omega
  refine Calls.call_function_entry kind_sorted plain_sorted entry_sorted (args_sorted1 _) ?_
  unfold Builtin.«sorted»
  refine wpAny_bind (m := checkCount "sorted" 1 1 _) (wpAny_pure (wpAny_bind (collectT hl (wpAny_bind (wpAny_newList ?_ hz)) hz)))
  have hsz : ((s.heap.push (seqObj "list" #[] 0)).update s.heap.objs.size (Obj.mapSeq (· ++ vs.toArray))).objs.size = s.heap.objs.size + 1 := by rw [Heap.size_update, size_push']
  have hoL : (((s.heap.push (seqObj "list" #[] 0)).update s.heap.objs.size (Obj.mapSeq (· ++ vs.toArray))).push (seqObj "list" vs.toArray 0)).get? (s.heap.objs.size + 1) = some (seqObj "list" vs.toArray 0) := by
    rw [← hsz]
    exact Heap.get?_push_size _ rfl
  show wpAny _ _ _ _ _ { s with heap := ((s.heap.push (seqObj "list" #[] 0)).update s.heap.objs.size (Obj.mapSeq (· ++ vs.toArray))).push (seqObj "list" vs.toArray 0) }
  rw [hsz]
  refine wpAny_bind (wpAny_holding (wpAny_call_entry slot_list_sort ⟨_, hoL, rfl⟩ entry_list_sort (list_sort_treeK strKind_oneLt hoL hS.keysOf (fun v₁ v₂ rest e => keyKind_strs (by rw [← e]; exact hS)) h64 fun st' hp hs => ⟨_, rfl, ?_⟩) (args_list_sort _)))
  obtain ⟨ss', h1, h2, h3⟩ := sorted_out_str hS hp hs
  exact wpAny_pure ⟨_, rfl, h _ ss' h1 h2 h3⟩
end
section
variable {X : Cx} {G : Gx} {W : WX} {e a : Expr} {es : List Expr} {g : Ax} {pos p : Pos}
def rSortedST (K : PySem.W.Frag) : List V → Hp → VK → Prop := fun vs H Q => ∃ (a : Addr) (xs : List Str), vs = [V.ref a] ∧ SqT K H a (xs.map V.str) ∧ xs.length < 64 ∧
  ∀ (ys : List Str) (p : Addr), ys.Perm xs → sortedS ys = true → H p = none → Q (.ref p) (upd H p (.lst (ys.map V.str)))
theorem cr_sortedST : CallR X (.builtin "sorted") (rSortedST X.K) := by
  intro pins s σ H vs us Q I r h
  obtain ⟨a, xs, rfl, hs, h64, q⟩ := h
  obtain ⟨its, rv, hl, hz⟩ := I.tuple hs
  rw [Vals.ref1 r]
  have hlen0 := rv.length
  rw [List.length_map] at hlen0
  refine sortedT hl (by simpa using rv.strs) (by rw [← hlen0]; exact h64) fun out ys h1 h2 h3 => ?_
  obtain ⟨ep, he'⟩ := sortedAll_at s.heap its out
  have hlen : (ys.map V.str).length ≤ sizeLine := by rw [List.length_map, h2.length_eq]; exact small64 h64
  exact ⟨.ref _, upd H (s.heap.objs.size + 1) (.lst (ys.map V.str)), I.laid (t' := s.toks) (fun _ _ => sortedAll_old) (Nat.le_succ _) ⟨hlen, out.toList, ep, vals_of_strs h1, he'⟩, rfl, q ys _ h2 h3 (I.hok.fresh (Nat.le_succ _))⟩
def hSortST : FB := fun cs xs => match xs with
  | [.tup ds] => (match strsOf ds with
    | some ys => if decide (ys.length < 64) then .ok (.lst ((sortT ys).map .str)) cs else .no
    | none => .no)
  | _ => .no
theorem de_sortST (hK : X.K = G.K.K) (hg : Gl X "sorted") (hm : X.mg "sorted" = none) (ha : PA X (e :: es) (tAs G W g)) (he : starEach (e :: es) X.env = (false, eval e X.env) :: starEach es X.env := by rfl) (hpl : (backTo pos (starEach es X.env)).any (·.1) = false := by rfl) : PE X (.Call (.Name "sorted" p) (e :: es) [] pos) (tE G W (eB hSortST g)) := by
  refine de_callB cr_sortedST ?_ hg hm (by decide +kernel) ha (he := he) (hpl := hpl)
  intro ρ F st σ H ds vs Q r rv po
  unfold hSortST at po
  split at po
  · rename_i ds
    cases rv with
    | cons h1 h2 =>
      cases h2
      cases h1 with
      | tup h3 h4 =>
        cases q2 : strsOf ds with
        | none => rw [q2] at po; exact po.elim
        | some ys =>
          rw [q2] at po
          simp only at po
          have ev := strs_read h4 q2
          subst ev
          by_cases c : decide (ys.length < 64) = true
          · rw [if_pos c] at po
            refine ⟨_, ys, rfl, by rw [hK]; exact sqT_same r.fz h3, of_decide_eq_true c, fun zs p h3 h4 h5 => ?_⟩
            have ez : zs = sortT ys := sortS_uniq (h3.trans (sortT_perm ys).symm) (sorted_pw h4) (sortT_sorted ys)
            subst ez
            obtain ⟨x3, r3⟩ := r.fresh (o := .lst ((sortT ys).map V.str)) h5
            exact po _ _ _ _ x3 r3 (.lst upd_same rvs_strs)
          · rw [if_neg c] at po
            exact po.elim
  · exact po.elim
end
/-- a tuple that stands in the written part -/
theorem sqT_k {K : PySem.W.Frag} {F : Hp} {a : Addr} {dd : Option Addr} {us : List Value} {n : Nat} {sl : Array (Option Value)} {xs : List V} (h : K.lookup a = some ⟨.type "tuple", dd, .seq us.toArray n, sl⟩) (hl : us.length ≤ 64) (v : Vals xs us) : SqT K F a xs :=
  .inr ⟨_, us.toArray, n, h, rfl, rfl, by rw [List.size_toArray, sizeLine_eq]; omega, by simpa using v⟩
end VL

/-! VLY8: a call without arguments -/
namespace VL
open PySem PySem.Spec PyProof.Rows L2
section
variable {X : Cx} {G : Gx} {W : WX} {pos p : Pos} {x : Str} {st : Stmt} {k : Nat} {fn : Fn}
theorem de_call0D (n : Nat) (d : Def X.prog X.w G.K X.mg X.base x st k [] fn) (hK : X.K = G.K.K) (hW : Flat W) (tk : Takes X W) (hr : Room k X.A) (hg : Gl X x := by rfl) (hdb : (x == ("__debug__" : Str)) = false := by decide) : PE X (.Call (.Name x p) [] [] pos) (tE G W (eCall n fn aNil)) := by
  obtain ⟨f, fd, h1, h2, _, h3, h5⟩ := d.ex
  rw [← hK] at h2 h3 h5
  refine (pe_call0 h5 hr hg h1 h2 h3 .nil (passF tk hW) hdb).impV ?_
  rintro σ H Q ⟨ρ, F, st, r, po⟩
  exact spF_flat (σ := σ) (σ' := []) hW (callV_of (m := 0) (n := n) (fn := fn) r .nil rfl po)
end
end VL

/-! VLZ: more of the plain reckoning: comprehensions, lists of whole numbers -/
namespace VL
open PySem L2
theorem ev_eLc {α : Type} {src : Ix} {g : Gt} {t : Tx} {f : Ex} {vs : List Nat} {st : S} {xs : List α} {fD : α → D} {kp : List Cell → Bool} {c1 : List Cell} (q : α → Bool) (h : α → D) (hs : src st = .ok (xs.map fD, kp) c1) (hk : ∀ acc, kp (c1 ++ [.lst acc]) = true) (hl : xs.length < 16777216) (hb : c1.all (belowC c1.length) = true)
    (hh : ∀ x ∈ xs, q x = true → below c1.length (h x) = true)
    (ht : ∀ x ∈ xs, ∀ acc, belows c1.length acc = true → ∃ env1, g (fD x) ⟨wipeD st.env vs, c1 ++ [.lst acc]⟩ = some ⟨env1, c1 ++ [.lst acc]⟩ ∧ t ⟨env1, c1 ++ [.lst acc]⟩ = .ok (q x) (c1 ++ [.lst acc]) ∧ (q x = true → f ⟨env1, c1 ++ [.lst acc]⟩ = .ok (h x) (c1 ++ [.lst acc]))) :
    eLc src g t f vs st = .ok (.lst ((xs.filter q).map h)) c1 := by
  have main : ∀ (es : List α) (acc : List D), belows c1.length acc = true → (∀ d ∈ es, d ∈ xs) → acc.length + es.length < 16777216 → lcL g t f kp (wipeD st.env vs) c1.length (es.map fD) (c1 ++ [.lst acc]) = some (c1 ++ [.lst (acc ++ (es.filter q).map h)]) := by
    intro es
    induction es with
    | nil => intro acc _ _ _; simp [lcL, hk]
    | cons d es ih =>
      intro acc hla hm hz
      have hz' : acc.length + es.length + 1 < 16777216 := by simpa [Nat.add_assoc] using hz
      obtain ⟨env1, e1, e2, e3⟩ := ht d (hm d List.mem_cons_self) acc hla
      rw [List.map_cons]
      unfold lcL
      cases c : q d with
      | false =>
        rw [c] at e2
        simp only [hk, if_true, e1, e2]
        rw [ih acc hla (fun x hx => hm x (List.mem_cons_of_mem _ hx)) (by omega), List.filter_cons_of_neg (by simp [c])]
      | true =>
        rw [c] at e2
        have g1 : (c1 ++ [Cell.lst acc])[c1.length]? = some (.lst acc) := by
          rw [List.getElem?_append_right (Nat.le_refl _), Nat.sub_self]; rfl
        have g2 : (c1 ++ [Cell.lst acc]).set c1.length (.lst (acc ++ [h d])) = c1 ++ [.lst (acc ++ [h d])] := by
          rw [List.set_append_right _ _ (Nat.le_refl _), Nat.sub_self]; rfl
        simp only [hk, if_true, e1, e2, e3 c, g1, g2]
        have hla2 : belows c1.length (acc ++ [h d]) = true := by
          rw [belows_append, hla]
          show (true && (below c1.length (h d) && true)) = true
          rw [hh d (hm d List.mem_cons_self) c]
          rfl
        rw [if_pos (by omega), ih (acc ++ [h d]) hla2 (fun x hx => hm x (List.mem_cons_of_mem _ hx)) (by simp; omega), List.filter_cons_of_pos (by simp [c])]
        simp
  unfold eLc
  rw [hs]
  show (match lcL g t f kp (wipeD st.env vs) c1.length (xs.map fD) (c1 ++ [.lst []]) with
    | some c2 => _
    | none => _) = _
  rw [main xs [] rfl (fun _ h => h) (by simpa using hl)]
  simp only [List.nil_append, lastCell_snoc]
  refine if_pos ⟨by first | trivial | rfl, belows_of fun x hx => ?_, hb⟩
  obtain ⟨d, hd, rfl⟩ := List.mem_map.mp hx
  obtain ⟨h1, h2⟩ := List.mem_filter.mp hd
  exact hh d h1 h2
theorem belows_int {n : Nat} : ∀ {l : List Int}, belows n (l.map D.int) = true
  | [] => rfl
  | x :: l => by
    show (below n (.int x) && belows n (l.map D.int)) = true
    rw [belows_int]
    rfl
theorem noLsts_int : ∀ {l : List Int}, noLsts (l.map D.int) = true
  | [] => rfl
  | x :: l => by
    show (noLst (.int x) && noLsts (l.map D.int)) = true
    rw [noLsts_int]
    rfl
theorem plains_ints : ∀ {l : List Int}, plains (l.map D.int) = true
  | [] => by simp [plains]
  | x :: l => by
    rw [List.map_cons]
    simp only [plains, plain, plains_ints, Bool.and_self]
theorem lay_ints : ∀ {l : List Int}, PyData.canLayAll0 (pys (l.map D.int)) = true ∧ PyData.depthAll (pys (l.map D.int)) = 0
  | [] => by simp [pys, PyData.canLayAll0, PyData.depthAll]
  | x :: l => by
    have ih := lay_ints (l := l)
    rw [List.map_cons]
    simp [pys, py, PyData.canLayAll0, PyData.canLay0, PyData.depthAll, PyData.depth, ih.1, ih.2]
/-- a list of whole numbers beside [] -/
theorem eqNilI {neg : Bool} {cs : List Cell} {d : D} {l : List Int} (hd : norm cs d = .lst (l.map D.int)) : gEqB neg cs d (.lst []) = .ok (.bl (if neg then !l.isEmpty else l.isEmpty)) cs := by
  have h1 := lay_ints (l := l)
  have h2 : SeqAt.shaped (py (.lst (l.map D.int))) = true := by
    simp [SeqAt.shaped, py, PyData.canLay0, PyData.depth, h1.1, h1.2]
  have h3 : VL.plain (.lst (l.map D.int)) = true := by simp [VL.plain, plains_ints]
  have h4 : norm cs (.lst []) = .lst [] := rfl
  have h5 : VL.plain (.lst []) = true := by simp [VL.plain, plains]
  have h6 : SeqAt.shaped (py (.lst [])) = true := by simp [SeqAt.shaped, py, pys, PyData.canLay0, PyData.canLayAll0, PyData.depth, PyData.depthAll]
  have h7 : PyData.eqv (py (.lst (l.map D.int))) (py (.lst [])) = l.isEmpty := by
    cases l <;> simp [py, pys, PyData.eqv, PyData.eqvAll]
  unfold gEqB
  simp only [hd, h2, h3, h4, h5, h6, h7, Bool.and_self, if_true]
theorem eqII {neg : Bool} {cs : List Cell} {i j : Int} : gEqB neg cs (.int i) (.int j) = .ok (.bl (if neg then !(i == j) else i == j)) cs := by
  simp [gEqB, norm, VL.plain, py, SeqAt.shaped, PyData.canLay0, PyData.depth, PyData.eqv]
theorem cut_ints {l : List Int} {lo hi : Option Int} : ∃ m : List Int, cutD (l.map D.int) lo hi = m.map D.int ∧ m.length ≤ l.length := by
  refine ⟨(l.drop (HT.sIx l.length 0 lo)).take (HT.sIx l.length l.length hi - HT.sIx l.length 0 lo), ?_, ?_⟩
  · unfold cutD
    rw [List.length_map, ← List.map_drop, ← List.map_take]
  · rw [List.length_take, List.length_drop]
    omega
mutual
theorem below_up {n k : Nat} (h : n ≤ k) : ∀ {d : D}, below n d = true → below k d = true
  | .non, _ => rfl
  | .bl _, _ => rfl
  | .int _, _ => rfl
  | .str _, _ => rfl
  | .tup ds, q => belows_up h (show belows n ds = true from q)
  | .lst ds, q => belows_up h (show belows n ds = true from q)
  | .frl ds, q => belows_up h (show belows n ds = true from q)
  | .obj _ _ ds, q => belows_up h (show belows n ds = true from q)
  | .dct _ ds, q => belows_up h (show belows n ds = true from q)
  | .btp ds, q => belows_up h (show belows n ds = true from q)
  | .cls _, _ => rfl
  | .loc m, q => decide_eq_true (Nat.lt_of_lt_of_le (of_decide_eq_true (show decide (m < n) = true from q)) h)
theorem belows_up {n k : Nat} (h : n ≤ k) : ∀ {ds : List D}, belows n ds = true → belows k ds = true
  | [], _ => rfl
  | d :: ds, q => by
    have q : (below n d && belows n ds) = true := q
    rw [Bool.and_eq_true] at q
    show (below k d && belows k ds) = true
    rw [below_up h q.1, belows_up h q.2]
    rfl
end
theorem eqDs_refl_of {ds : List D} (h : eqDs ds ds = true) {n : Nat} {cs : List Cell} (hc : cs[n]? = some (.lst ds)) : keepD n ds cs = true := by
  unfold keepD
  rw [hc]
  exact h
end VL

/-! VLZ1: o.m(..) of own objects -/
namespace VL
open PySem PySem.Spec PyProof.Rows L2
section
variable {X : Cx} {G : Gx} {W : WX} {o e : Expr} {es : List Expr} {fo : Ex} {g : Ax} {pos apos : Pos} {m : Str} {cn k : Nat} {fn : Fn} {ps : List Str}
/-- o.m(..): o an object of the class cn -/
def eMeth (cn : Nat) (m : Str) (fn : Fn) (fo : Ex) (g : Ax) : Ex := fun st => (fo st).bind fun x c1 => match x with
  | .obj C ks ds => if C = cn ∧ ks.contains m = false then (g ⟨st.env, c1⟩).bind fun xs c2 => callV 0 fn (.obj C ks ds :: xs) c2 else .no
  | _ => .no
theorem zip_none {m : Str} : ∀ {ks : List Str} {vs : List V}, ks.contains m = false → (ks.zip vs).lookup m = none
  | [], _, _ => rfl
  | _ :: _, [], _ => rfl
  | k :: ks, v :: vs, h => by
    rw [List.contains_cons, Bool.or_eq_false_iff] at h
    show (match m == k with
      | true => some v
      | false => (ks.zip vs).lookup m) = none
    rw [h.1]
    exact zip_none h.2
/-- the def of the class keeps -/
def KeepM (K : Kt) (cn : Nat) (m : Str) : Prop := ∀ f, PySem.W.findIn K.K (.ref (K.κ cn)) m = some (some (.ref f)) → PySem.W.keepIn K.K (.ref f) = true
theorem de_meth {pl : Sem Bool} (d : DefM X.prog X.w G.K X.mg X.base cn m k ps fn) (c : Cls G.K.K (G.K.κ cn)) (kp : KeepM G.K cn m) (hK : X.K = G.K.K) (hW : Flat W) (tk : Takes X W) (hr : Room k X.A) (ho : PE X o (tE G W fo)) (ha : PA X (e :: es) (tAs G W g)) {j : Nat} (hl : ALen j g) (hj : j + 1 = ps.length)
    (hst : starEach (e :: es) X.env = (false, eval e X.env) :: starEach es X.env := by rfl) (hpl : (backTo pos (starEach es X.env)).any (·.1) = false := by rfl)
    (ht : eval (.Call (.Attribute o m apos) (e :: es) [] pos) X.env = (do
      let ov ← eval o X.env
      standAt apos.atName
      let (f, first) ← holding [ov] (getMethod ov m pl)
      callWith pos f first (backTo pos (starEach (e :: es) X.env)) (backToKw pos (keywordEach [] X.env))) := by rfl) :
    PE X (.Call (.Attribute o m apos) (e :: es) [] pos) (tE G W (eMeth cn m fn fo g)) := by
  obtain ⟨f, fd, h1, h2, h3, h4⟩ := d.ex
  have h5 := kp f h1
  rw [← hK] at h1 h2 h3 h4 h5 c
  refine (pe_meth (pl := pl) ho c ⟨h1, h2, h5⟩ h4 hr h3 .nil (passF tk hW) ha hst hpl ht).impV ?_
  rintro σ H Q ⟨ρ, F, st, r, po⟩
  refine seqX r po fun ρ1 F1 H1 x c1 v x1 r1 rv1 p1 => ?_
  cases rv1 with
  | @obj a dx C ks vs ds q1 q2 q3 =>
    simp only at p1
    by_cases hc : C = cn ∧ ks.contains m = false
    · rw [if_pos hc] at p1
      obtain ⟨rfl, hn⟩ := hc
      refine ⟨a, dx, _, rfl, r1.fz _ _ q1, zip_none hn, ?_⟩
      refine ⟨ρ1, F1, ⟨st.env, c1⟩, r1, ?_⟩
      cases q : g ⟨st.env, c1⟩ with
      | no => rw [q] at p1; exact p1.elim
      | ex e' cs => rw [q] at p1; exact p1
      | ok xs c2 =>
        rw [q] at p1
        have p1 : Post RV G W ρ1 F1 st.env σ Q (callV 0 fn (.obj C ks ds :: xs) c2) := p1
        intro ρ2 F2 H2 ws x2 r2 rv2
        rw [List.append_nil]
        exact spF_flat hW (callV_of (st := ⟨st.env, c2⟩) (m := ps.length) (n := 0) r2 (.cons ((RV.obj q1 q2 q3).ext x2) rv2) (by rw [List.length_cons, hl _ _ _ q]; exact hj) (Post.ext x2 p1))
    · rw [if_neg hc] at p1
      exact p1.elim
  | _ => exact p1.elim
end
end VL

/-! VLZ2: sets of texts: add, set(xs), sorted(s) -/
namespace VL
open PySem PySem.Spec PyProof.Rows L2 PySem.Froz
/-- a text is put in front, if it is new -/
def insS (k : Str) (l : List Str) : List Str := if k ∈ l then l else k :: l
def setFrom (l xs : List Str) : List Str := xs.foldl (fun l k => insS k l) l
def setL (xs : List Str) : List Str := setFrom [] xs
theorem insS_nd {k : Str} {l : List Str} (h : l.Nodup) : (insS k l).Nodup := by
  unfold insS
  split
  · exact h
  · exact List.nodup_cons.mpr ⟨by assumption, h⟩
theorem insS_len (k : Str) (l : List Str) : (insS k l).length ≤ l.length + 1 := by
  unfold insS
  split
  · omega
  · exact Nat.le_refl _
theorem setFrom_len : ∀ (xs l : List Str), (setFrom l xs).length ≤ l.length + xs.length
  | [], l => Nat.le_refl _
  | k :: xs, l => by
    have h1 := setFrom_len xs (insS k l)
    have h2 := insS_len k l
    show (setFrom (insS k l) xs).length ≤ l.length + (xs.length + 1)
    omega
theorem setL_len (xs : List Str) : (setL xs).length ≤ xs.length := by
  have := setFrom_len xs []
  show (setFrom [] xs).length ≤ _
  simpa using this
theorem setFrom_snoc (l xs : List Str) (k : Str) : setFrom l (xs ++ [k]) = insS k (setFrom l xs) := by
  unfold setFrom
  rw [List.foldl_append]
  rfl
/-- the set at a holds the texts l; its table can be walked -/
def SetX (P : Program) (w : World) (h : Heap) (a : Addr) (l : List Str) : Prop :=
  ∃ D : SD, h.get? a = some (sObj "set" D) ∧ TxOk P w D l ∧ l.Nodup ∧ Ris D.2.2.place.toList ∧ (w.params.followText "set-order" = true ∨ D.2.2.led = true)
section
variable {P : Program} {w : World} {A : Around} {E : Value → Shared → Prop} {s : Shared} {a : Addr} {l : List Str}
theorem SetX.at {h h' : Heap} (R : SetX P w h a l) (k : ∀ o, h.get? a = some o → h'.get? a = some o) : SetX P w h' a l := by
  obtain ⟨D, q, r⟩ := R
  exact ⟨D, k _ q, r⟩
abbrev newSX (w : World) : Obj := { cls := .type "set", dict := none, data := .set #[] 0 (.fresh 0 0 (!w.params.followText "set-order")) }
theorem SetX.new {h : Heap} {a : Addr} (e : h.get? a = some (newSX w)) : SetX P w h a [] := by
  refine ⟨(#[], 0, .fresh 0 0 (!w.params.followText "set-order")), e, TxOk.nil rfl, List.nodup_nil, List.Pairwise.nil, ?_⟩
  show _ ∨ (!w.params.followText "set-order") = true
  by_cases c : w.params.followText "set-order" = true
  · exact .inl c
  · exact .inr (by simpa using c)
theorem tail_walk {ep : Nat} {eA : Array (Int × Value)} {tA : SetTable} {b : Bool} {f : Prop} (r : Ris tA.place.toList) (l : f ∨ tA.led = true) : Ris (tailTx ep eA tA b).2.2.place.toList ∧ (f ∨ (tailTx ep eA tA b).2.2.led = true) := by
  unfold tailTx
  split
  · exact ⟨relayAll_ris _ _ _, l.imp id fun z => (relayAll_led _ _ _).trans z⟩
  · exact ⟨r, l⟩
theorem add_walk {h : Int} {v : Value} {D : SD} {f : Prop} (r : Ris D.2.2.place.toList) (l : f ∨ D.2.2.led = true) : Ris (addTx h v D).2.2.place.toList ∧ (f ∨ (addTx h v D).2.2.led = true) := by
  have r1 := layNew_ris D.2.2 D.1 h v r
  have l1 : f ∨ (layNew D.2.2 D.1 h v).2.1.led = true := l.imp id fun z => (layNew_led _ _ _ _).trans z
  unfold addTx
  refine tail_walk ?_ ?_
  · split
    · exact r1
    · exact r1
  · split
    · exact l1
    · exact l1
/-- a text that is there stays alone -/
theorem add_there {T : String} {D : SD} {k : Str} {u : Tok} {Q : Bool → Shared → Prop} (ho : s.heap.get? a = some (sObj T D)) (ok : TxOk P w D l) (hk : k ∈ l) (hb : l.length < scanBound) (q : Q false s) : wpAny (model P w) A (setAddHashed a (.str k u) (hashStr w k)) Q E s := by
  have fit := ok.fit
  have els := ok.el
  have size : D.1.size < scanBound := by rw [ok.sz]; exact hb
  obtain ⟨e0, me, ie⟩ := (ok.mem k).mp hk
  unfold setAddHashed setAddHashedIn
  refine wpAny_holding (wpAny_bind (wpAny_setState_of (es := D.1) (ep := D.2.1) (t := D.2.2) ho rfl fit ?_))
  dsimp only
  rw [byScan_of (x := Value.str k u) rfl size els]
  simp only [↓reduceIte]
  unfold setAddByScan
  refine wpAny_bind (wpAny_bind (wpAny_rule (wpAny_bind (wpAny_setScan_of (knd := PySem.strKind P w) (k := k) (is_str k u) ho rfl fit els ?_))))
  cases z : D.1.toList.findIdx? (fun e => (PySem.strKind P w).is k e.2) with
  | some j => exact wpAny_pure (wpAny_pure q)
  | none =>
    have := List.findIdx?_eq_none_iff.mp z e0 me
    rw [ie] at this
    cases this
theorem addX {k : Str} {u : Tok} {Q : Bool → Shared → Prop} (R : SetX P w s.heap a l) (hb : l.length + 1 < scanBound) (q : ∀ (b : Bool) (h' : Heap), Heap.SameBut a s.heap h' → SetX P w h' a (insS k l) → Q b { s with heap := h' }) : wpAny (model P w) A (setAddHashed a (.str k u) (hashStr w k)) Q E s := by
  obtain ⟨D, ho, ok, nd, r, ld⟩ := id R
  by_cases hk : k ∈ l
  · refine add_there ho ok hk (by omega) (q false s.heap (Heap.SameBut.refl a s.heap) ?_)
    unfold insS
    rw [if_pos hk]
    exact R
  · refine add_x ho ok hk hb (q true _ (Heap.SameBut.update s.heap a _) ?_)
    unfold insS
    rw [if_neg hk]
    obtain ⟨r1, l1⟩ := add_walk (h := hashStr w k) (v := .str k u) r ld
    exact ⟨_, get_upd _ ho rfl, add_ok u ok, List.nodup_cons.mpr ⟨hk, nd⟩, r1, l1⟩
theorem SetX.ty (R : SetX P w s.heap a l) : s.TypeIs (.ref a) "set" := by
  obtain ⟨D, ho, _⟩ := R
  exact ⟨_, ho, rfl⟩
/-- s.add(k) -/
theorem callAddX {k : Str} {u : Tok} {Q : Value → Shared → Prop} (R : SetX P w s.heap a l) (hb : l.length + 1 < scanBound) (q : ∀ h' : Heap, Heap.SameBut a s.heap h' → SetX P w h' a (insS k l) → Q .none { s with heap := h', toks := s.toks + 1 }) : wpAny (model P w) A (call (.builtin "set.add") [.ref a, .str k u]) Q E s := by
  refine wpAny_call_entry F.slot_set_add R.ty F.entry_set_add ?_ (F.args_set_add_2 _ _)
  unfold Builtin.«set.add» Builtin.Frozenset.oneOther Builtin.Frozenset.addrOf setAdd
  simp only [List.isEmpty_nil, bind_assoc]
  refine wpAny_bind (wpAny_pure (wpAny_bind (wpAny_pure (wpAny_bind (wpAny_holding (wpAny_bind ((PySem.strKind P w).pyHash (is_str k u) ?_)))))))
  refine addX (s := { s with toks := s.toks + 1 }) R hb fun b h' same R' => ?_
  show wpAny _ _ (ret Value.none) _ _ _
  exact wpAny_pure ⟨_, rfl, q h' same R'⟩
theorem strs_el : ∀ (vs : List Value), (∀ v ∈ vs, ∃ k u, v = Value.str k u) → StrsAre vs (vs.map strOf)
  | vs, h => strsAre_map vs h
theorem tx_str {D : SD} (ok : TxOk P w D l) : ∀ e ∈ D.1.toList, ∃ k u, e.2 = Value.str k u ∧ k ∈ l := fun e he => by
  obtain ⟨⟨k, ik, _⟩, _⟩ := ok.el e he
  have ik2 : Value.isStrOf k e.2 = true := ik
  have km : k ∈ l := (ok.mem k).mpr ⟨e, he, ik⟩
  cases z : e.2 with
  | str x u =>
    rw [z] at ik2
    have : x = k := by simpa [Value.isStrOf] using ik2
    exact ⟨x, u, rfl, this ▸ km⟩
  | _ => rw [z] at ik2; simp [Value.isStrOf] at ik2
theorem perm_nd {α : Type} [BEq α] [LawfulBEq α] : ∀ {l m : List α}, l.Nodup → (∀ k ∈ l, k ∈ m) → m.length = l.length → m.Perm l
  | [], m, _, _, e => by
    have : m = [] := List.length_eq_zero_iff.mp e
    rw [this]
  | k :: l, m, nd, h, e => by
    obtain ⟨n1, n2⟩ := List.nodup_cons.mp nd
    have km := h k List.mem_cons_self
    have hl : (m.erase k).length = l.length := by
      rw [List.length_erase_of_mem km, e]
      rfl
    have ih := perm_nd n2 (m := m.erase k) (fun x hx => (List.mem_erase_of_ne (fun z : x = k => n1 (z ▸ hx))).mpr (h x (List.mem_cons_of_mem _ hx))) hl
    exact (List.perm_cons_erase km).trans (ih.cons k)
theorem tx_perm {D : SD} (ok : TxOk P w D l) (nd : l.Nodup) : ((D.1.toList.map (·.2)).map strOf).Perm l := by
  refine perm_nd nd (fun k hk => ?_) ?_
  · obtain ⟨e, he, ik⟩ := (ok.mem k).mp hk
    obtain ⟨x, u, ex, _⟩ := tx_str ok e he
    have ik2 : Value.isStrOf k e.2 = true := ik
    rw [ex] at ik2
    have exk : x = k := by simpa [Value.isStrOf] using ik2
    refine List.mem_map.mpr ⟨e.2, List.mem_map.mpr ⟨e, he, rfl⟩, ?_⟩
    rw [ex, ← exk]
    rfl
  · rw [List.length_map, List.length_map, Array.length_toList, ok.sz]
/-- sorted(s) -/
theorem sortedX {Q : Value → Shared → Prop} (R : SetX P w s.heap a l) (hh : A.handled = none) (h64 : l.length < 64)
    (q : ∀ (s' : Shared) (p : Addr) (out : Array Value) (c : Nat) (ys : List Str), (∀ b o, s.heap.get? b = some o → s'.heap.get? b = some o) → s'.gens = s.gens → s'.os = s.os → s.heap.objs.size ≤ p →
      s'.heap.get? p = some (seqObj "list" out c) → StrsAre out.toList ys → ys.Perm l → sortedS ys = true → Q (.ref p) s') :
    wpAny (model P w) A (call (.builtin "sorted") [.ref a]) Q E s := by
  obtain ⟨D, ho, ok, nd, r, ld⟩ := R
  have scan : D.1.size < scanBound := by rw [ok.sz]; unfold scanBound; omega
  refine Calls.call_function_entry kind_sorted plain_sorted entry_sorted (args_sorted1 _) ?_
  unfold Builtin.«sorted»
  refine wpAny_bind (m := checkCount "sorted" 1 1 _) (wpAny_pure (wpAny_bind ?_))
  refine collect_set (A := A.in1) hh ⟨_, ho, rfl, rfl⟩ ok.fit scan r ld fun s1 vs keep size eg eo pm => ?_
  have hS : StrsAre vs (vs.map strOf) := strsAre_map vs fun v hv => by
    obtain ⟨e, he, ev⟩ := List.mem_map.mp (pm.mem_iff.mp hv)
    obtain ⟨k, u, ek, _⟩ := tx_str ok e he
    exact ⟨k, u, ev ▸ ek⟩
  have pl : (vs.map strOf).Perm l := (pm.map strOf).trans (tx_perm ok nd)
  have vl : vs.length = l.length := by rw [← pl.length_eq, List.length_map]
  refine wpAny_bind (wpAny_newList ?_ (by rw [vl, sizeLine_eq]; omega))
  have hoL : (s1.heap.push (seqObj "list" vs.toArray 0)).get? s1.heap.objs.size = some (seqObj "list" vs.toArray 0) := Heap.get?_push_size _ rfl
  refine wpAny_bind (wpAny_holding (wpAny_call_entry slot_list_sort ⟨_, hoL, rfl⟩ entry_list_sort (list_sort_treeK strKind_oneLt hoL hS.keysOf (fun v₁ v₂ rest e => keyKind_strs (by rw [← e]; exact hS)) (by rw [vl]; exact h64) fun st' hp hs => ⟨_, rfl, ?_⟩) (args_list_sort _)))
  obtain ⟨ys, y1, y2, y3⟩ := sorted_out_str hS hp hs
  suffices fin : ∀ out : Array Value, StrsAre out.toList ys → Q (.ref s1.heap.objs.size) { s1 with heap := sortedHeap (s1.heap.push (seqObj "list" vs.toArray 0)) s1.heap.objs.size vs out } from wpAny_pure ⟨_, rfl, fin _ y1⟩
  intro out yo
  obtain ⟨c, hc⟩ := sortedHeap_at (vs := vs) (out := out) hoL
  refine q _ s1.heap.objs.size out c ys (fun b o e => ?_) eg eo size hc yo (y2.trans pl) y3
  have e1 := keep b o e
  have lt1 := Heap.lt_size e1
  show (sortedHeap (s1.heap.push (seqObj "list" vs.toArray 0)) s1.heap.objs.size vs _).get? b = some o
  rw [sortedHeap_old (Nat.ne_of_lt lt1) (by rw [size_push']; exact Nat.lt_succ_of_lt lt1)]
  exact Heap.get?_push_of_some _ e1
end
end VL

/-! VLZ3: set(xs) of a list of texts -/
namespace VL
open PySem PySem.Spec PyProof.Rows L2 PySem.Froz
section
variable {P : Program} {w : World} {A : Around} {R : Result → Shared → Prop} {I : Addr} {fp wr : List Addr} {G : Array GenState → Array GenState → Prop} {n : Nat} {Pv : Nat → Value → Prop} {St : Nat → Shared → Prop}
theorem fill_X (W : WalksS P w A.in1 I fp wr G n Pv St) (S : Addr) (hSf : S ∉ fp) (xs : List Str) (hsz : xs.length = n) (hb : n + 1 < scanBound) (hval : ∀ i v, Pv i v → ∃ t, v = .str (xs.getD i Str.empty) t) :
    ∀ (j i : Nat) (s : Shared), n - i = j → i ≤ n → St i s → SetX P w s.heap S (setL (xs.take i)) → (∀ s', Moved (S :: wr) G s s' → SetX P w s'.heap S (setL xs) → R (.ok (.ret .none)) s') → codeAny (model P w) A (.builtin "set.update.loop" ⟨[.ref S, .ref I], []⟩) R s := by
  have hSw : S ∉ wr := fun h => hSf (W.sub _ h)
  have up : ∀ b ∈ wr, b ∈ S :: wr := fun b hb => List.mem_cons_of_mem _ hb
  intro j
  induction j with
  | zero =>
    intro i s hj hi hst hS hR
    obtain rfl : i = n := by omega
    refine codeAny_builtin F.entry_set_update_loop ?_
    rw [Around.under_plainId F.plain_set_update_loop _]
    refine wpAny_bind (m := pyNext (.ref I)) (W.done s _ _ hst fun s' hm => wpAny_pure (hR s' (hm.mono up) ?_))
    have e : xs.take i = xs := List.take_of_length_le (by omega)
    rw [e] at hS
    exact hS.at fun o e => hm.heap S o hSw e
  | succ j ih =>
    intro i s hj hi hst hS hR
    have hlt : i < n := by omega
    refine codeAny_builtin F.entry_set_update_loop ?_
    rw [Around.under_plainId F.plain_set_update_loop _]
    refine wpAny_bind (m := pyNext (.ref I)) (W.item i s _ _ hlt hst fun v s' hP hst' hm => ?_)
    obtain ⟨t, rfl⟩ := hval i v hP
    have hS1 : SetX P w s'.heap S (setL (xs.take i)) := hS.at fun o e => hm.heap S o hSw e
    have hx : xs[i]? = some (xs.getD i Str.empty) := by
      rw [List.getD_eq_getElem?_getD, List.getElem?_eq_getElem (by omega)]
      rfl
    refine wpAny_bind (m := holding [Value.str (xs.getD i Str.empty) t] (setAdd S (.str (xs.getD i Str.empty) t))) (wpAny_holding ?_)
    unfold setAdd
    refine wpAny_holding (wpAny_bind ((PySem.strKind P w).pyHash (k := xs.getD i Str.empty) (is_str _ _) ?_))
    have hc : (xs.take i).length ≤ i := by rw [List.length_take]; omega
    have hn := setL_len (xs.take i)
    refine addX (s := { s' with toks := s'.toks + 1 }) hS1 (by omega) fun _ h' hsb hS2 => ?_
    have hS3 : SetX P w h' S (setL (xs.take (i + 1))) := by
      have e : xs.take (i + 1) = xs.take i ++ [xs.getD i Str.empty] := by rw [List.take_add_one, hx]; rfl
      rw [e]
      unfold setL at hS2 ⊢
      rw [setFrom_snoc]
      exact hS2
    have go : Moved (S :: wr) G s { s' with heap := h', toks := s'.toks + 1 } := (hm.mono up).then_heap (Nat.le_succ _) fun b o hb e => by
      rw [hsb.2 b (fun z => hb (by rw [z]; exact List.mem_cons_self))]
      exact e
    refine wpAny_pure ⟨plainId_quiet F.plain_set_update_loop _, ih (i + 1) _ (by omega) hlt (W.frame _ s' _ _ hst' (Nat.le_succ _) fun b hb o e => ?_) hS3 fun s'' hm2 hS'' => hR s'' (Moved.trans W.gtrans go hm2) hS''⟩
    rw [hsb.2 b (fun z => hSf (by rw [← z]; exact hb))]
    exact e
end
section
variable {P : Program} {w : World} {A : Around} {E : Value → Shared → Prop} {s : Shared}
abbrev SGoodX (P : Program) (w : World) (s : Shared) (xs : List Str) (h' : Heap) : Prop := SetX P w h' s.heap.objs.size (setL xs) ∧ ∀ b o, b < s.heap.objs.size → s.heap.get? b = some o → h'.get? b = some o
set_option maxHeartbeats 3200000 in
theorem call_setX {l : Addr} {items : Array Value} {xs : List Str} {Q : Value → Shared → Prop} (hh : A.handled = none) (hl : s.heap.IsList l items) (hi : StrsAre items.toList xs) (hb : xs.length + 1 < scanBound)
    (h : ∀ (h' : Heap) (tk : Nat), SGoodX P w s xs h' → Q (.ref s.heap.objs.size) { s with heap := h', toks := tk }) :
    wpAny (model P w) A (call (.type "set") [.ref l]) Q E s := by
  have hsz : xs.length = items.size := by rw [← StrsAre.len_eq hi, Array.length_toList]
  have hval : ∀ (i : Nat) (v : Value), items[i]? = some v → ∃ t, v = .str (xs.getD i Str.empty) t := fun i v hv => SS.strs_at hi i v (by rw [Array.getElem?_toList]; exact hv)
  obtain ⟨c, tl, hmro⟩ := PySem.F.called_set.mro
  have hmade := PySem.F.called_set.made
  have hsub := PySem.F.called_set.sub
  have h1 := PySem.F.called_set.notType
  have h2 := PySem.F.called_set.canCreate
  have hct := PySem.F.typeCall_set_1 (.ref l)
  refine wpAny_call (codeAny_of_tree ?_)
  show wpAny _ _ (callAny (.type "set") _) _ _ _
  refine wpAny_pure ⟨Code.quiet_builtin _ (by decide +kernel), codeAny_builtin PySem.F.entry_type_call ?_⟩
  rw [Around.under_plain (weight_type_call_type "set" [.ref l] []) rfl]
  repeat (any_goals (first | assumption | wp_step))
  refine codeAny_mono (code_set_led1 (.ref l) (E := E) (Q₁ := fun obj s₁ => obj = .ref s.heap.objs.size ∧ s₁ = { s with heap := s.heap.push (newSX w) }) ⟨rfl, rfl⟩) fun r s₁ hr => ?_
  cases r with
  | error e => exact hr
  | ok fl =>
  cases fl with
  | next => exact hr.elim
  | brk => exact hr.elim
  | cont => exact hr.elim
  | ret obj =>
    obtain ⟨rfl, rfl⟩ := hr
    have hS : (s.heap.push (newSX w)).get? s.heap.objs.size = some (newSX w) := Heap.get?_push_size _ rfl
    have hT : Shared.TypeIs { s with heap := s.heap.push (newSX w) } (.ref s.heap.objs.size) "set" := ⟨_, hS, rfl⟩
    have hli := PySem.F.called_set.init.lookup
    have hbi := PySem.F.called_set.init.bind (.ref s.heap.objs.size)
    repeat (any_goals (first | assumption | wp_step))
    refine codeAny_mono (codeAny_call_builtin (R := wants (fun r s₂ => r = .none ∧ ∃ h' tk, s₂ = { s with heap := h', toks := tk } ∧ SGoodX P w s xs h') E) PySem.F.called_set.init.plain PySem.F.entry_set_init (check_set_init_1 hT ?_)) fun r₂ s₂ hr₂ => ?_
    · obtain ⟨⟨ocls, odict, odata, oslots⟩, hol, hcl, nl, hdl⟩ := hl
      simp only at hcl hdl
      subst hcl hdl
      have hol' : (s.heap.push (newSX w)).get? l = some { cls := .type "list", dict := odict, data := .seq items nl, slots := oslots } := Heap.get?_push_of_some _ hol
      have hsls := PySem.F.sub_list_set
      have hslf := PySem.F.sub_list_frozenset
      have hne : (Value.type "list" == Value.type "dict") = false := by decide
      have hl1 : (s.heap.push (newSX w)).IsList l items := ⟨_, hol', rfl, nl, rfl⟩
      unfold Builtin.«set.__init__» noKeywords Builtin.Frozenset.updateFrom
      generalize hPI : pyIter = PI
      wp_walk
      subst hPI
      have hlS : l < s.heap.objs.size := Heap.lt_size hol
      refine wpAny_pyIter_list hl1 (wpAny_bind (wpAny_runValue ?_))
      have hneI : l ≠ (s.heap.push (newSX w)).objs.size := by
        rw [Heap.size_push]
        exact Nat.ne_of_lt (Nat.lt_succ_of_lt hlS)
      have hSf : s.heap.objs.size ∉ [(s.heap.push (newSX w)).objs.size, l] := by
        rw [Heap.size_push]
        intro z
        rcases List.mem_cons.mp z with z | z
        · exact absurd z (Nat.ne_of_lt (Nat.lt_succ_self _))
        · exact absurd (List.mem_singleton.mp z) (Nat.ne_of_gt hlS)
      refine fill_X ((Walks.list (by simp [hh]) _ l hneI items).toS) s.heap.objs.size hSf xs hsz (by omega) hval (items.size - 0) 0 _ (by omega) (Nat.zero_le _) ?hI ?hE ?hR
      case hI => exact ⟨⟨_, Heap.get?_push_size _ rfl, rfl, rfl⟩, (hl1.push _)⟩
      case hE =>
        exact SetX.new (Heap.get?_push_of_some _ hS)
      case hR =>
        rintro ⟨h', g', d', tk', os'⟩ hm hS'
        obtain rfl : g' = s.gens := hm.gens
        obtain rfl : d' = s.drawn := hm.drawn
        obtain rfl : os' = s.os := hm.os
        refine wpAny_pure (wpAny_pure ⟨rfl, h', tk', rfl, hS', fun b o hb e => ?_⟩)
        refine hm.heap b o (fun z => ?_) (Heap.get?_push_of_some _ (Heap.get?_push_of_some _ e))
        rcases List.mem_cons.mp z with z | z
        · exact Nat.ne_of_lt hb z
        · have z := List.mem_singleton.mp z
          rw [Heap.size_push] at z
          exact Nat.ne_of_lt (Nat.lt_succ_of_lt hb) z
    · cases r₂ with
      | error e => exact hr₂
      | ok fl =>
        cases fl with
        | next => exact hr₂.elim
        | brk => exact hr₂.elim
        | cont => exact hr₂.elim
        | ret r =>
          obtain ⟨rfl, h', tk, rfl, g⟩ := hr₂
          repeat (any_goals (first | assumption | wp_step))
          exact h _ _ g
end
end VL

/-! VLZ4: {text for x in xs}, sorted -/
namespace VL
open PySem PySem.Spec PyProof.Rows L2 PySem.Froz
/-- a set of texts as a part of the abstract heap -/
def SetXO (P : Program) (w : World) (a : Addr) (l : List Str) : HO := .ext fun h => SetX P w h a l
theorem setXO_ok {P : Program} {w : World} {H : Hp} {h : Heap} {a : Addr} {l : List Str} (R : SetX P w h a l) : ObjOk P w H h a (SetXO P w a l) := by
  obtain ⟨D, ho, _⟩ := id R
  exact ⟨R, ⟨_, ho⟩, fun h1 h2 p k => SetX.at p k⟩
section
variable {X : Cx}
theorem setXO_at {pn : List (Addr × Obj)} {σ : L2.St} {H : Hp} {s : Shared} {a : Addr} {l : List Str} (I : Inv X pn σ H s) (e : H a = some (SetXO X.prog X.w a l)) : SetX X.prog X.w s.heap a l := (I.hok a _ e).1
theorem addXO {pn : List (Addr × Obj)} {σ : L2.St} {H : Hp} {s : Shared} {E : Value → Shared → Prop} {a : Addr} {l : List Str} {k : Str} {u : Tok} {Q : Value → Shared → Prop} (I : Inv X pn σ H s) (e : H a = some (SetXO X.prog X.w a l)) (hb : l.length + 1 < scanBound)
    (q : ∀ s', Inv X pn σ (upd H a (SetXO X.prog X.w a (insS k l))) s' → Q .none s') : wpAny (model X.prog X.w) X.A (call (.builtin "set.add") [.ref a, .str k u]) Q E s := by
  refine callAddX (setXO_at I e) hb fun h' same R => ?_
  obtain ⟨D, ho, _⟩ := id R
  exact q _ (I.write (e := a) (t' := s.toks + 1) (by rw [e]; trivial) (.inl rfl) (fun b o hb ho => (same.2 b hb).trans ho) ⟨_, ho⟩ (setXO_ok R))
/-- {elt for tg in iter if ..}: the walk; D the new set -/
def tScX (X : Cx) (wi : TI) (g : TG) (tt : TT) (te : TE) (vs : List Nat) : TE := fun σ H Q => wi σ H fun J H1 => ∀ D, H1 D = none → ∃ W : Nat → Nat → Hp → Prop, (∃ m, W 0 m (upd H1 D (SetXO X.prog X.w D []))) ∧ ∀ i m H, W i m H →
  (J.stop i H ∧ Q (.ref D) H) ∨ (J.go i H ∧ ∃ Nx : Hp → Prop, (∀ H', Nx H' → ∃ m', m' < m ∧ W (i + 1) m' H') ∧ ∀ x H', J.yld i H x H' → g x (wipe σ vs) H' fun σ2 H2 => wipe σ2 vs = wipe σ vs ∧ tt σ2 H2 fun b H3 =>
    if b = true then te σ2 H3 fun y H4 => ∃ (k : Str) (l : List Str), y = .str k ∧ H4 D = some (SetXO X.prog X.w D l) ∧ l.length + 1 < scanBound ∧ Nx (upd H4 D (SetXO X.prog X.w D (insS k l))) else Nx H3)
variable {elt tg iter : Expr} {ifs : List Expr} {sco : Scope} {own : List (PySem.Str × Nat)} {pos : Pos} {wi : TI} {g : TG} {tt : TT} {te : TE}
theorem pe_scX (calm : X.calm = true) (nd : X.N.Nodup) (hi : PI X tg iter wi) (bk : BlkOk X.N X.env.scope sco own)
    (pG : ∀ (s : Shared) (H : Hp) (C : Addr) (cl : List (PySem.Str × Addr)) (fp : List Addr), PG (X.blk s H sco (compEnvC sco cl C X.env) fp) tg g)
    (pT : ∀ (s : Shared) (H : Hp) (C : Addr) (cl : List (PySem.Str × Addr)) (fp : List Addr), PTs (X.blk s H sco (compEnvC sco cl C X.env) fp) ifs tt)
    (pE : ∀ (s : Shared) (H : Hp) (C : Addr) (cl : List (PySem.Str × Addr)) (fp : List Addr), PE (X.blk s H sco (compEnvC sco cl C X.env) fp) elt te) (plain : ∀ x, foldedSetIterable iter X.env x = pure x := by intro _; rfl) :
    PE X (.SetComp elt [⟨tg, iter, ifs, 0⟩] sco pos) (tScX X wi g tt te (own.map (·.2))) := by
  refine ⟨fun pn s σ H Q I0 hyp => ?_⟩
  rw [PpSet.eval_SetComp]
  have fr : ∀ y ∈ sco.names, y.2 = .free → ∃ c, X.env.cells.lookup y.1 = some c := fun y my ey => I0.ok.has _ (bk.free y my ey)
  refine wpAny_comprehension_free (use := none) rfl plain (closure_ok fr) bk.kind (fun y my ey => (bk.uniq y my).trans (by rw [ey])) ?_
  refine thn (hi.run pn s σ H _ I0 hyp) fun xv sA hA => thn hA fun itv sB hB => ?_
  obtain ⟨it, fp, tn, J, HB, rfl, IB, T, stB, fB, body⟩ := hB
  refine PpSet.newSet_ok (newEnv_comp ?_)
  obtain ⟨D, eD⟩ : ∃ D, D = sB.heap.objs.size := ⟨_, rfl⟩
  rw [← eD]
  have freeD : HB D = none := IB.hok.fresh (Nat.le_of_eq eD.symm)
  obtain ⟨W, ⟨m0, w0⟩, turn⟩ := body D freeD
  obtain ⟨sC, eC⟩ : ∃ sC : Shared, sC = { sB with heap := sB.heap.push (newSX X.w) } := ⟨_, rfl⟩
  obtain ⟨HC, eH⟩ : ∃ HC : Hp, HC = upd HB D (SetXO X.prog X.w D []) := ⟨_, rfl⟩
  have hC : sC.heap = sB.heap.push (newSX X.w) := by rw [eC]
  have IC : Inv X pn σ HC sC := by
    rw [eC, eH]
    exact IB.laid (t' := sB.toks) (fun b o e => Heap.get?_push_of_some _ e) (Nat.le_of_eq eD.symm) (setXO_ok (SetX.new (by rw [eD]; exact Heap.get?_push_size _ rfl)))
  have below : ∀ b ∈ fp, b < sB.heap.objs.size := fun b hb => by
    obtain ⟨o, eo, _⟩ := T.obj _ _ stB b hb
    exact Heap.lt_size eo
  have fC : ∀ b ∈ fp, FpOk X pn HC b ∧ b < sC.heap.objs.size := fun b hb => by
    have lt := below b hb
    refine ⟨⟨?_, (fB b hb).2⟩, ?_⟩
    · rw [eH, upd_ne (by rw [eD]; exact Nat.ne_of_lt lt)]
      exact (fB b hb).1
    · rw [hC, Heap.size_push]
      exact Nat.lt_succ_of_lt lt
  have stC : tn 0 sC.heap := T.keep _ _ _ stB fun b _ o e => by rw [hC]; exact Heap.get?_push_of_some _ e
  have ID := block_start IC bk nd fC
  have gD := pG sC HC sC.heap.objs.size (cellsFrom (sC.heap.objs.size + 1) sco.names (cloFrom X.env.cells sco.names [])) fp
  have tD := pT sC HC sC.heap.objs.size (cellsFrom (sC.heap.objs.size + 1) sco.names (cloFrom X.env.cells sco.names [])) fp
  have vD := pE sC HC sC.heap.objs.size (cellsFrom (sC.heap.objs.size + 1) sco.names (cloFrom X.env.cells sco.names [])) fp
  have w1 : W 0 m0 HC := by rw [eH]; exact w0
  have noneC : ∀ b ∈ fp, HC b = none := fun b hb => (fC b hb).1.1
  rw [← eC]
  obtain ⟨ce, ece⟩ : ∃ ce, ce = compEnvC sco (cellsFrom (sC.heap.objs.size + 1) sco.names (cloFrom X.env.cells sco.names [])) sC.heap.objs.size X.env := ⟨_, rfl⟩
  have locC : ce.locals = sC.heap.objs.size := by rw [ece]; rfl
  rw [← ece] at ID gD tD vD
  show codeAny _ _ (.compStart (.SetComp elt [⟨tg, iter, ifs, 0⟩] sco pos) 0 (.ref it) (.ref D) (compEnvC sco (cellsFrom (sC.heap.objs.size + 1) sco.names (cloFrom X.env.cells sco.names [])) sC.heap.objs.size X.env)) _ { sC with heap := pushCells (sC.heap.push { cls := .type "dict", data := .dict #[] }) sco.names }
  rw [← ece]
  obtain ⟨sD, eSD⟩ : ∃ sD : Shared, sD = { sC with heap := pushCells (sC.heap.push { cls := .type "dict", data := .dict #[] }) sco.names } := ⟨_, rfl⟩
  rw [← eSD] at ID ⊢
  have stD : tn 0 sD.heap := T.keep _ _ _ stC fun b _ o e => by rw [eSD]; exact pushCells_keeps _ _ _ _ (Heap.get?_push_of_some _ e)
  have fpD : ∀ {σ' : L2.St} {H' : Hp} {s' : Shared}, Inv (X.blk sC HC sco ce fp) [] σ' H' s' → (∀ b ∈ fp, H' b = none) → ∀ b ∈ fp, FpOk (X.blk sC HC sco ce fp) [] H' b := fun {σ' H' s'} I' no b hb =>
    ⟨no b hb, (I'.ok.exf b hb).1, I'.ok.exfs b hb, .inl hb, fun x c e => (I'.ok.exf b hb).2 x c e, fun p hp => absurd (show p ∈ ([] : List (Addr × Obj)) ++ [] from hp) (by simp)⟩
  suffices lp : codeAny (model X.prog X.w) X.A (.compLoop (.SetComp elt [⟨tg, iter, ifs, 0⟩] sco pos) 0 (.ref it) (.ref D) ce) _ sD from PpSet.codeAny_compStart_set lp (T.self X.A 0 _ _ _ stD lp)
  refine PpSet.compLoopS_any (fun n s' => ∃ i H', Inv (X.blk sC HC sco ce fp) [] (wipe σ (own.map (·.2))) H' s' ∧ tn i s'.heap ∧ (∀ b ∈ fp, H' b = none) ∧ W i n H') (fun n sE hE => ?_) m0 ⟨0, HC, ID, stD, noneC, w1⟩
  obtain ⟨i, HE, IE, stE, noE, wE⟩ := hE
  rcases turn i n HE wE with ⟨stop, fin⟩ | ⟨go, Nx, down, step⟩
  · refine thnF (T.done (X.blk sC HC sco ce fp) rfl rfl rfl calm i [] sE _ HE (fun _ _ => False) IE (fpD IE noE) stE stop) fun r sF ⟨er, IF⟩ => ?_
    subst er
    have IG : Inv X pn σ HE sF := IC.call' (ch := fp) IF.os IF.base IF.hok IF.bare fun b hb => ⟨(fC b hb).1.2.2.2.1, (fC b hb).1.2.1, (fC b hb).1.2.2.2.2.1, (fC b hb).1.2.2.2.2.2⟩
    have freeL : HE sC.heap.objs.size = none := by
      rw [← locC]
      exact IF.free
    obtain ⟨mm, hns, _⟩ := IF.loc
    have hns : sF.heap.Ns ce.locals mm := hns
    rw [locC] at hns
    obtain ⟨f0, f1, f2, f3, f4, f5⟩ := IC.fpOk (H' := HE) (Nat.le_refl _) freeL
    exact ⟨mm, hns, fun h'' sb => ⟨.ref D, HE, IG.turned (t' := sF.toks) (fun b o hb e => (sb.2 b hb).trans e) f0 f1 f3 f4 f5, rfl, fin⟩⟩
  · refine thnF (T.item (X.blk sC HC sco ce fp) rfl rfl rfl calm i [] sE _ HE (fun _ _ => False) IE (fpD IE noE) stE go) fun r sF ⟨u, er, hF⟩ => ?_
    subst er
    refine thnF hF fun _ sG ⟨x, HG, IG, rG, yG, stG, noG⟩ => ?_
    have IG' := IG.pinned (fpD IG noG) (T.obj _ _ stG)
    refine thnF (gD.run _ sG _ HG x u _ IG' rG (step x HG yG)) fun _ sH ⟨σH, HH, IH, wipedH, qH⟩ => ?_
    refine thnF (tD.run _ sH σH HH _ IH qH) fun b sI ⟨HI, II, qI⟩ => ?_
    have last : ∀ {s' : Shared} {H' : Hp}, Inv (X.blk sC HC sco ce fp) ([] ++ pinsAt fp sG.heap) σH H' s' → Nx H' → ∃ m, m < n ∧ ∃ i H', Inv (X.blk sC HC sco ce fp) [] (wipe σ (own.map (·.2))) H' s' ∧ tn i s'.heap ∧ (∀ b ∈ fp, H' b = none) ∧ W i m H' := fun {s' H'} I' nx => by
      obtain ⟨m', lt, w'⟩ := down H' nx
      have kept : ∀ b ∈ fp, ∀ o, sG.heap.get? b = some o → s'.heap.get? b = some o ∧ H' b = none := fun b hb o e =>
        have z := I'.pin (b, o) (List.mem_append_right _ (List.mem_append_right _ (mem_pinsAt hb e)))
        ⟨z.1, z.2.1⟩
      have len : (wipe σ (own.map (·.2))).length = σH.length := by rw [← wipedH, wipe_length]
      refine ⟨m', lt, i + 1, H', (I'.unpinned (pins := [])).weak len (fun j v e => ?_), T.keep _ _ _ stG fun b hb o e => (kept b hb o e).1, fun b hb => ?_, w'⟩
      · rw [← wipedH] at e
        exact (wipe_some e).1
      · obtain ⟨o, e, _⟩ := T.obj _ _ stG b hb
        exact (kept b hb o e).2
    cases b with
    | false =>
      rw [if_neg (by decide)] at qI ⊢
      exact last II qI
    | true =>
      rw [if_pos rfl] at qI ⊢
      refine thnF (vD.run _ sI σH HI _ II qI) fun z sJ ⟨yv, HJ, IJ, rJ, k, l, ey, eDJ, room, nx⟩ => ?_
      subst ey
      obtain ⟨u2, rfl⟩ := rJ
      exact addXO (X := X.blk sC HC sco ce fp) IJ eDJ room fun sK IK => last IK nx
end
end VL

/-! VLZ5: sorted(set(xs)), sorted({str(x) for x in xs}) -/
namespace VL
open PySem PySem.Spec PyProof.Rows L2 PySem.Froz
section
variable {X : Cx} {G : Gx} {W : WX} {e a : Expr} {fa : Ex} {pos p p2 q : Pos}
theorem boot_sorted : bootBuiltins "sorted" = some (.builtin "sorted") := by decide +kernel
theorem laidX {pn : List (Addr × Obj)} {σ : L2.St} {H : Hp} {s s' : Shared} {Q : VK} {b : Addr} {out : Array Value} {c : Nat} {ys l : List Str} (I : Inv X pn σ H s) (keep : ∀ b o, s.heap.get? b = some o → s'.heap.get? b = some o) (eg : s'.gens = s.gens) (eo : s'.os = s.os) (hp : s.heap.objs.size ≤ b)
    (at' : s'.heap.get? b = some (seqObj "list" out c)) (st : StrsAre out.toList ys) (pm : ys.Perm l) (h64 : l.length < 64) (hq : H b = none → Q (.ref b) (upd H b (.lst (ys.map V.str)))) : ∃ (v : V) (H' : Hp), Inv X pn σ H' s' ∧ RelV v (.ref b) ∧ Q v H' := by
  have fresh : H b = none := I.hok.fresh hp
  have len : (ys.map V.str).length ≤ sizeLine := by rw [List.length_map, pm.length_eq]; exact small64 h64
  have J : Inv X pn σ (upd H b (.lst (ys.map V.str))) { s with heap := s'.heap, gens := s'.gens, drawn := s'.drawn, toks := s'.toks } :=
    I.call (ch := []) (Un.laid keep hp fresh) (I.hok.laid keep hp ⟨len, out.toList, c, vals_of_strs st, at'⟩) (by rw [eg]; exact I.bare) (fun _ z => nomatch z)
  have es : s' = { s with heap := s'.heap, gens := s'.gens, drawn := s'.drawn, toks := s'.toks } := by
    obtain ⟨_, _, _, _, _⟩ := s'
    obtain ⟨_, _, _, _, _⟩ := s
    cases eo
    rfl
  rw [es]
  exact ⟨.ref b, _, J, rfl, hq fresh⟩
/-- sorted(s), s a set of texts -/
def rSortedX (X : Cx) : List V → Hp → VK → Prop := fun vs H Q => ∃ (a : Addr) (l : List Str), vs = [V.ref a] ∧ H a = some (SetXO X.prog X.w a l) ∧ l.length < 64 ∧ ∀ (ys : List Str) (p : Addr), ys.Perm l → sortedS ys = true → H p = none → Q (.ref p) (upd H p (.lst (ys.map V.str)))
theorem cr_sortedX (calm : X.calm = true) : CallR X (.builtin "sorted") (rSortedX X) := by
  intro pn s σ H vs us Q I r h
  obtain ⟨a, l, rfl, ha, h64, hq⟩ := h
  rw [Vals.ref1 r]
  exact sortedX (setXO_at I ha) (I.ok.hd calm) h64 fun s' b out c ys keep eg eo hp at' st pm srt => laidX I keep eg eo hp at' st pm h64 (hq ys b pm srt)
def sortSet (ys : List Str) : List Str := sortT (setL ys)
theorem sortSet_eq {ys zs : List Str} (h : zs.Perm (setL ys)) (s : sortedS zs = true) : zs = sortSet ys := sortS_uniq (h.trans (sortT_perm (setL ys)).symm) (sorted_pw s) (sortT_sorted (setL ys))
def eSortSet (fa : Ex) : Ex := fun st => (fa st).bind fun x c1 => match lstOf c1 x with
  | some ds => (match strsOf ds with
    | some ys => if ys.length < 64 then .ok (.lst ((sortSet ys).map .str)) c1 else .no
    | none => .no)
  | none => .no
theorem sortSet_read {ρ : List Addr} {F : Hp} {st : S} {σ : L2.St} {H : Hp} {x : D} {v : V} {Q : VK} (r : Rel G ρ F st σ H) (rv : RV G.K ρ F x v) (po : Post RV G W ρ F st.env σ Q (match lstOf st.cs x with
  | some ds => (match strsOf ds with
    | some ys => if ys.length < 64 then .ok (.lst ((sortSet ys).map .str)) st.cs else .no
    | none => .no)
  | none => .no)) : ∃ (b : Addr) (ys : List Str), v = .ref b ∧ SqL G.K.K H b (ys.map V.str) ∧ ys.length < 64 ∧ Post RV G W ρ F st.env σ Q (.ok (.lst ((sortSet ys).map .str)) st.cs) := by
  cases q : lstOf st.cs x with
  | none => rw [q] at po; exact po.elim
  | some ds =>
    rw [q] at po
    obtain ⟨b, ws, rfl, hsq, rvs⟩ := lst_read r rv q
    cases q2 : strsOf ds with
    | none => simp only [q2] at po; exact po.elim
    | some ys =>
      simp only [q2] at po
      have ev := strs_read rvs q2
      subst ev
      by_cases c : ys.length < 64
      · rw [if_pos c] at po
        exact ⟨b, ys, rfl, hsq, c, po⟩
      · rw [if_neg c] at po
        exact po.elim
theorem de_sortSet (hK : X.K = G.K.K) (hc : X.calm = true) (hg : Gl X "sorted") (hm : X.mg "sorted" = none) (hg2 : Gl X "set") (hm2 : X.mg "set" = none) (ha : PE X a (tE G W fa)) (na : starEach [a] X.env = (false, eval a X.env) :: starEach [] X.env := by rfl) :
    PE X (.Call (.Name "sorted" p) [.Call (.Name "set" p2) [a] [] q] [] pos) (tE G W (eSortSet fa)) := by
  refine ⟨fun pn s σ H Q I h => ?_⟩
  refine Call_ (ld_blt I hg hm boot_sorted (callWith_builtin1 (args_cons ?_ rfl) rfl rfl))
  refine Call_ (ld_blt I hg2 hm2 boot_set ?_)
  obtain ⟨ρ, F, st, r, po⟩ := h
  have step := seqX r po (f := fa) (R := RV) (Q' := fun (v : V) (H1 : Hp) => ∃ (b : Addr) (ys : List Str), v = .ref b ∧ SqL G.K.K H1 b (ys.map V.str) ∧ ys.length < 64 ∧ ∀ zs p, zs.Perm (setL ys) → sortedS zs = true → H1 p = none → Q (.ref p) (upd H1 p (.lst (zs.map V.str)))) fun ρ1 F1 H1 x c1 v x1 r1 rv1 p1 => by
    obtain ⟨b, ys, e1, e2, e3, e4⟩ := sortSet_read (st := ⟨st.env, c1⟩) r1 rv1 p1
    refine ⟨b, ys, e1, e2, e3, fun zs p h1 h2 h3 => ?_⟩
    have ez := sortSet_eq h1 h2
    subst ez
    obtain ⟨x3, r3⟩ := r1.fresh (o := .lst ((sortSet ys).map V.str)) h3
    exact e4 _ _ _ _ x3 r3 (.lst upd_same rvs_strs)
  refine callWith_type1 (args_cons (thn (ha.run pn s σ H _ I step) fun v s1 ⟨x, H1, I1, r1, q1⟩ => args_nil ?_) na) na rfl
  obtain ⟨b, ys, rfl, sq, h64, hq⟩ := q1
  cases r1
  rw [← hK] at sq
  obtain ⟨its, rv, pl, _⟩ := I1.list sq
  have hn := setL_len ys
  refine call_setX (xs := ys) (I1.ok.hd hc) pl.isList (by simpa using rv.strs) (by unfold scanBound; omega) fun h' tk ⟨hS, hk⟩ => args_nil ?_
  have I2 : Inv X pn σ H1 { s1 with heap := h', toks := tk } := I1.kept fun b o e => hk b o (Heap.lt_size e) e
  have hl : (setL ys).length < 64 := by omega
  exact sortedX (s := { s1 with heap := h', toks := tk }) hS (I1.ok.hd hc) hl fun s' b out c zs keep eg eo hp at' st pm srt => laidX I2 keep eg eo hp at' st pm hl (hq zs b pm srt)
variable {elt iter tg : Expr} {sco : Scope} {i : Nat} {x : Str} {rS : List V → Hp → VK → Prop}
def eSortSc (i : Nat) (fa : Ex) : Ex := fun st => (fa st).bind fun x c1 => if i < st.env.length then (match lstOf c1 x with
  | some ds => (match strsOf ds with
    | some ys => if ys.length < 64 then .ok (.lst ((sortSet ys).map .str)) c1 else .no
    | none => .no)
  | none => .no) else .no
theorem de_sortSc (hK : X.K = G.K.K) (calm : X.calm = true) (nd : X.N.Nodup) (hg : Gl X "sorted") (hm : X.mg "sorted" = none) (ha : PE X iter (tE G W fa)) (bk : BlkOk X.N X.env.scope sco [(x, i)])
    (pG : ∀ (s : Shared) (H : Hp) (C : Addr) (cl : List (PySem.Str × Addr)) (fp : List Addr), PG (X.blk s H sco (compEnvC sco cl C X.env) fp) tg (gName i))
    (pE : ∀ (s : Shared) (H : Hp) (C : Addr) (cl : List (PySem.Str × Addr)) (fp : List Addr), PE (X.blk s H sco (compEnvC sco cl C X.env) fp) elt (tCB (fun vs H Q => ∃ z, vs = [.str z] ∧ Q (.str z) H) (tCons (tVar i) tNil))) (plain : ∀ x, foldedSetIterable iter X.env x = pure x := by intro _; rfl)
    (na : starEach [.SetComp elt [⟨tg, iter, [], 0⟩] sco q] X.env = (false, eval (.SetComp elt [⟨tg, iter, [], 0⟩] sco q) X.env) :: starEach [] X.env := by rfl) :
    PE X (.Call (.Name "sorted" p) [.SetComp elt [⟨tg, iter, [], 0⟩] sco q] [] pos) (tE G W (eSortSc i fa)) := by
  refine (pe_callB (cr_sortedX calm) hg hm (by decide +kernel) (pa_cons (pe_scX calm nd (pi_list ha) bk pG (fun _ _ _ _ _ => pts_nil) pE plain) pa_nil na)).impV fun σ H Q ⟨ρ, F, st, r, po⟩ => ?_
  refine seqX r po fun ρ1 F1 H1 y c1 v x1 r1 rv1 p1 => ?_
  by_cases li : i < st.env.length
  case neg => rw [if_neg li] at p1; exact p1.elim
  rw [if_pos li] at p1
  have lσ : i < σ.length := by rw [← r1.len]; exact li
  obtain ⟨b, ys, rfl, sq, h64, e4⟩ := sortSet_read (st := ⟨st.env, c1⟩) r1 rv1 p1
  rw [hK]
  refine ⟨b, rfl, ⟨_, sq⟩, fun D hD => ?_⟩
  have sqD : ∀ l, SqL G.K.K (upd H1 D (SetXO X.prog X.w D l)) b (ys.map V.str) := fun l => (same_upd' hD).seq sq
  refine ⟨fun j m H => m = ys.length - j ∧ j ≤ ys.length ∧ H = upd H1 D (SetXO X.prog X.w D (setL (ys.take j))), ⟨ys.length, rfl, Nat.zero_le _, rfl⟩, ?_⟩
  rintro j m H ⟨rfl, hj, rfl⟩
  by_cases lt : j < ys.length
  · refine .inr ⟨⟨_, .str ys[j], sqD _, by rw [List.getElem?_map, List.getElem?_eq_getElem lt]; rfl⟩, fun H' => H' = upd H1 D (SetXO X.prog X.w D (setL (ys.take (j + 1)))), ?_, ?_⟩
    · rintro H' rfl
      exact ⟨ys.length - (j + 1), by omega, rfl, lt, rfl⟩
    · rintro z H' ⟨rfl, hz⟩
      have ez := hz _ (sqD _)
      rw [List.getElem?_map, List.getElem?_eq_getElem lt] at ez
      obtain rfl : V.str ys[j] = z := Option.some.inj ez
      refine ⟨wipe_but But.set (fun _ h => h), ?_⟩
      unfold tYes
      simp only [if_true]
      refine ⟨.str ys[j], ?_, ys[j], rfl, ys[j], setL (ys.take j), rfl, upd_same, ?_, ?_⟩
      · rw [List.getElem?_set_self]
        rw [wipe_length]
        exact lσ
      · have h1 := setL_len (ys.take j)
        rw [List.length_take] at h1
        unfold scanBound
        omega
      · have e1 : ys.take (j + 1) = ys.take j ++ [ys[j]] := by rw [List.take_add_one, List.getElem?_eq_getElem lt]; rfl
        rw [e1]
        unfold setL
        rw [setFrom_snoc]
        exact upd_upd
  · obtain rfl : j = ys.length := by omega
    refine .inl ⟨⟨_, sqD _, by rw [List.length_map]; exact Nat.le_refl _⟩, ?_⟩
    rw [List.take_length]
    have hn := setL_len ys
    obtain ⟨xD, rD⟩ := r1.fresh (o := SetXO X.prog X.w D (setL ys)) hD
    refine ⟨D, setL ys, rfl, upd_same, by omega, fun zs pp h1 h2 h3 => ?_⟩
    have ez := sortSet_eq h1 h2
    subst ez
    obtain ⟨x3, r3⟩ := rD.fresh (o := .lst ((sortSet ys).map V.str)) h3
    exact e4 _ _ _ _ (xD.trans x3) r3 (.lst upd_same rvs_strs)
end
end VL

/-! VLZ6: a, *b = xs; xs[::k] -/
namespace VL
open PySem PySem.Spec PyProof.Rows L2
section
variable {prog : Program} {w : World} {A : Around} {E : Value → Shared → Prop} {s : Shared}
/-- a list's iterator, one item drawn -/
theorem walk_rest (hh : A.handled = none) (I l : Addr) (hne : l ≠ I) (x : Value) (rest : List Value) :
    Walks prog w A I [I, l] [I] rest.length (fun i v => rest[i]? = some v) (fun i h => h.IsListIter I l (i + 1) ∧ h.IsList l (x :: rest).toArray) := by
  have W := Walks.list (prog := prog) (w := w) (A := A) hh I l hne (x :: rest).toArray
  have sz : (x :: rest).toArray.size = rest.length + 1 := by simp
  refine ⟨W.sub, fun i h h' st k => W.frame (i + 1) h h' st k, fun i s Q E hi st q => W.item (i + 1) s Q E (by omega) st fun v h' tk pv st' k => q v h' tk (by simpa using pv) st' k, fun s Q E st q => W.done s Q E (by rw [sz]; exact st) q, fun i s Q E st q => W.self (i + 1) s Q E st q⟩
theorem unpack_star {l : Addr} {x : Value} {rest : List Value} {Q : List Value → Shared → Prop} (hh : A.handled = none) (hl : s.heap.IsList l (x :: rest).toArray) (hz : rest.length ≤ sizeLine)
    (q : ∀ (h' : Heap) (tk : Nat), (∀ b o, s.heap.get? b = some o → h'.get? b = some o) → Q [x, .ref h'.objs.size] { s with heap := h'.push (seqObj "list" rest.toArray 0), toks := tk }) :
    wpAny (model prog w) A (unpackItems (.ref l) 2 (some 1)) Q E s := by
  have hlt : l ≠ s.heap.objs.size := by
    obtain ⟨o, ho, _⟩ := hl
    exact Nat.ne_of_lt (Heap.lt_size ho)
  have hls : l < s.heap.objs.size := by
    obtain ⟨o, ho, _⟩ := hl
    exact Heap.lt_size ho
  unfold unpackItems notIterableAtAll
  refine wpAny_bind (wpAny_bind (wpAny_specialOf hl.typeIs slot_list_iter.lookup (wpAny_pure ?_)))
  simp only [Bool.false_eq_true, if_false]
  refine wpAny_bind (wpAny_holding (wpAny_pyIter_list hl ?_))
  refine wpAny_bind (wpAny_holding (PySem.W.kun_draw (items := (x :: rest).toArray) hlt 1 0 _ _ ⟨_, Heap.get?_push_size _ rfl, rfl, rfl⟩ (hl.push _) (by simp) fun h1 it1 same => ?_))
  have l1 : h1.IsList l (x :: rest).toArray := (hl.push _).extBut same.extBut hlt
  have sz1 : h1.objs.size = s.heap.objs.size + 1 := by rw [same.1, Heap.size_push]
  have e1 : ((x :: rest).toArray.toList.drop 0).take 1 = [x] := rfl
  rw [e1]
  rw [if_neg (show ¬ [x].length < 1 from Nat.lt_irrefl 1)]
  have fpl : ∀ b ∈ [s.heap.objs.size, l], b < h1.objs.size := fun b hb => by
    rw [sz1]
    rcases List.mem_cons.mp hb with z | z
    · rw [z]; exact Nat.lt_succ_self _
    · rw [List.mem_singleton.mp z]; exact Nat.lt_succ_of_lt hls
  refine wpAny_bind (wpAny_holding (wpAny_collect_iter (T := "list_iterator") (n := rest.length) (.inr (.inr (.inl rfl))) ((walk_rest (A := A.in1) (by simp [hh]) s.heap.objs.size l hlt x rest).toS) (fun i s' st => st.1.typeIs) ⟨it1, l1⟩ fpl List.mem_cons_self (fun s2 acc mv it => ?_) hz))
  have ea : acc.toList = rest := items_out it (fun j v h => h)
  rw [ea]
  show wpAny _ _ (if rest.length < 0 then _ else _) _ _ _
  rw [if_neg (Nat.not_lt_zero _)]
  have fin := q s2.heap s2.toks fun b o e => mv.heap b o (fun z => by
    rw [List.mem_singleton.mp z] at e
    exact absurd (Heap.lt_size e) (Nat.lt_irrefl _)) (same.extBut b o (Nat.ne_of_lt (Heap.lt_size e)) (Heap.get?_push_of_some _ e))
  have es : ({ s with heap := s2.heap.push (seqObj "list" rest.toArray 0), toks := s2.toks } : Shared) = { s2 with heap := s2.heap.push (seqObj "list" rest.toArray 0) } := by
    have g1 : s2.gens = s.gens := mv.gens
    have g2 : s2.drawn = s.drawn := mv.drawn
    have g3 : s2.os = s.os := mv.os
    obtain ⟨_, _, _, _, _⟩ := s2
    obtain ⟨_, _, _, _, _⟩ := s
    cases g1
    cases g2
    cases g3
    rfl
  rw [es] at fin
  have e2 : rest.take (rest.length - (2 - 1 - 1)) = rest := List.take_length
  have e3 : rest.drop (rest.length - (2 - 1 - 1)) = [] := List.drop_length
  show wpAny _ _ (newList (rest.take (rest.length - (2 - 1 - 1))) >>= fun v => pure ([x] ++ [v] ++ rest.drop (rest.length - (2 - 1 - 1)))) _ _ _
  rw [e2, e3]
  exact wpAny_bind (wpAny_newList (wpAny_pure fin) hz)
end
/-- x, *xs = a list -/
def gStar (K : PySem.W.Frag) (t : TGs) : TG := fun v σ H Q => ∃ a x xs, v = .ref a ∧ SqL K H a (x :: xs) ∧ ∀ q, H q = none → t [x, .ref q] σ (upd H q (.lst xs)) Q
section
variable {X : Cx} {G : Gx} {W : WX} {e a : Expr} {fa : Ex} {pos : Pos}
theorem pg_star {es : List Expr} {k : Nat} {t : TGs} (hc : X.calm = true) (h : PGs X es t) (hn : (assignEach es X.env).length = 2 := by rfl) (hst : (assignEach es X.env).findIdx? (·.1) = some 1 := by rfl) : PG X (.Tuple es k pos) (gStar X.K t) := by
  refine ⟨fun pn s σ H v u Q I r hw => ?_⟩
  obtain ⟨b, x, xs, rfl, hq, hw⟩ := hw
  cases r
  obtain ⟨its, rv, pl, hz⟩ := I.list hq
  cases rv with
  | @cons _ u1 _ us r1 rr =>
  rw [assign_Tuple]
  refine wpAny_bind (wpAny_standAt ?_)
  unfold unpack
  rw [hn, hst]
  have hz1 : us.length ≤ sizeLine := by
    have := rr.length
    rw [List.length_cons] at hz
    omega
  refine wpAny_bind (wpAny_holding (unpack_star (I.ok.hd hc) pl.isList hz1 fun h' tk keep => ?_))
  have I1 : Inv X pn σ H { s with heap := h', toks := tk } := I.kept keep
  have fresh : H h'.objs.size = none := I1.hok.fresh (Nat.le_refl _)
  have hz2 : xs.length ≤ sizeLine := by rw [rr.length]; exact hz1
  have I2 : Inv X pn σ (upd H h'.objs.size (.lst xs)) { s with heap := h'.push (seqObj "list" us.toArray 0), toks := tk } := I1.laid (t' := tk) (fun b o e => Heap.get?_push_of_some _ e) (Nat.le_refl _) ⟨hz2, us, 0, rr, Heap.get?_push_size _ rfl⟩
  exact h.run pn _ σ _ [x, .ref h'.objs.size] [u1, .ref h'.objs.size] Q I2 (.cons r1 (.cons rfl .nil)) (hw _ fresh)
def sStar (i j : Nat) (f : Ex) : Sx := fun st => thenS (f st) st.env fun d st' => match d with
  | .lst (x :: xs) => .nx ⟨(st'.env.set i (some x)).set j (some (.lst xs)), st'.cs⟩
  | _ => .no
theorem pgs_starred {t : TG} {p : Pos} (h : PG X e t) (hs : (assignEach [.Starred e p] X.env).map (·.2) = [assign e X.env] := by rfl) : PGs X [.Starred e p] (fun vs σ H Q => ∃ v, vs = [v] ∧ t v σ H Q) := by
  refine ⟨fun pn s σ H vs us Q I r hw => ?_⟩
  obtain ⟨v, rfl, hw⟩ := hw
  cases r with
  | cons r rr =>
  cases rr
  rw [hs]
  exact assignInOrder_cons (thn (h.run pn s σ H _ _ _ I r hw) fun _ s1 q => assignInOrder_nil q)
theorem ds_star {i j : Nat} {x y : Str} {px py ps pt : Pos} {kt : Nat} (hK : X.K = G.K.K) (hc : X.calm = true) (hN : X.N.Nodup) (h : PE X e (tE G W fa)) (hi : X.N[i]? = some x := by rfl) (hj : X.N[j]? = some y := by rfl)
    (hx : Loc X.env.scope x := by first | exact Or.inl rfl | exact Or.inr rfl) (hy : Loc X.env.scope y := by first | exact Or.inl rfl | exact Or.inr rfl) (hfx : X.fn x = true ∨ X.env.scope.names.lookup x = some .local := by first | exact .inl rfl | exact .inr rfl) (hfy : X.fn y = true ∨ X.env.scope.names.lookup y = some .local := by first | exact .inl rfl | exact .inr rfl)
    (hs : swapsWithSole [.Tuple [.Name x px, .Starred (.Name y py) ps] kt pt] e pos.line X.env = pure false := by rfl) (hw : swappedStores [.Tuple [.Name x px, .Starred (.Name y py) ps] kt pt] e X.env = pure none := by rfl)
    (h1 : (assignEach [.Tuple [.Name x px, .Starred (.Name y py) ps] kt pt] X.env).map (·.2) = [assign (.Tuple [.Name x px, .Starred (.Name y py) ps] kt pt) X.env] := by rfl)
    (h2 : (assignEach [.Name x px, .Starred (.Name y py) ps] X.env).map (·.2) = assign (.Name x px) X.env :: (assignEach [.Starred (.Name y py) ps] X.env).map (·.2) := by rfl)
    (h3 : (assignEach [.Name x px, .Starred (.Name y py) ps] X.env).length = 2 := by rfl) (h4 : (assignEach [.Name x px, .Starred (.Name y py) ps] X.env).findIdx? (·.1) = some 1 := by rfl) (h5 : (assignEach [.Starred (.Name y py) ps] X.env).map (·.2) = [assign (.Name y py) X.env] := by rfl) :
    PS X (.Assign [.Tuple [.Name x px, .Starred (.Name y py) ps] kt pt] e pos) (tS G W (sStar i j fa)) := by
  refine (ps_asg h (pg_star hc (pgs_cons (pg_name (i := i) hN hi hx hfx) (pgs_starred (pg_name (i := j) hN hj hy hfy) h5) h2) h3 h4) hs hw h1).impV fun D σ H ⟨ρ, F, st, r, p⟩ => seqS (f := fa) r p fun ρ1 F1 H1 d c1 v x1 r1 rv1 p1 => ?_
  cases rv1 with
  | lst q1 q2 =>
    cases q2 with
    | nil => exact p1.elim
    | @cons d0 ds v0 vs r0 rr =>
      rw [hK]
      refine ⟨_, v0, vs, rfl, SqL.of (r1.fz _ _ q1), fun q hq => ?_⟩
      obtain ⟨x2, r2⟩ := r1.fresh (o := .lst vs) hq
      exact ⟨v0, [.ref q], rfl, .ref q, rfl, p1 _ _ _ _ x2 ((r2.slot (r0.ext x2)).slot (.lst upd_same (rr.ext x2)))⟩
  | _ => exact p1.elim
end
end VL

/-! VLZ7: xs[::k], min, str of a text or a whole number, a walk over a list or a tuple, defs with defaults, len(o), o == a tuple -/
namespace VL
open PySem PySem.Spec PyProof.Rows L2
section
variable {X : Cx} {G : Gx} {W : WX} {e a se tg : Expr} {es : List Expr} {fa : Ex} {g : Ax} {pos p p3 : Pos}
/-! ### xs[::k] -/
def pickL {α : Type} (k : Int) (xs : List α) : List α := (sliceRange (sliceBounds none none (some k) xs.length).1 (sliceBounds none none (some k) xs.length).2.1 (sliceBounds none none (some k) xs.length).2.2).filterMap (xs[·]?)
theorem pick_vals {vs : List V} {us : List Value} (r : Vals vs us) : ∀ is : List Nat, Vals (is.filterMap (vs[·]?)) (is.filterMap (us[·]?))
  | [] => .nil
  | i :: is => by
    rw [List.filterMap_cons, List.filterMap_cons]
    cases q : vs[i]? with
    | none =>
      rw [r.none_of q]
      exact pick_vals r is
    | some v =>
      obtain ⟨u, e1, e2⟩ := r.get q
      rw [e1]
      exact .cons e2 (pick_vals r is)
theorem pick_rvs {K : Kt} {ρ : List Addr} {F : Hp} {ds : List D} {vs : List V} (r : RVs K ρ F ds vs) : ∀ is : List Nat, RVs K ρ F (is.filterMap (ds[·]?)) (is.filterMap (vs[·]?))
  | [] => .nil
  | i :: is => by
    rw [List.filterMap_cons, List.filterMap_cons]
    cases q : ds[i]? with
    | none =>
      have : vs[i]? = none := by
        rw [List.getElem?_eq_none_iff] at q ⊢
        rw [← r.length]
        exact q
      rw [this]
      exact pick_rvs r is
    | some v =>
      obtain ⟨u, e1, e2⟩ := r.get q
      rw [e1]
      exact .cons e2 (pick_rvs r is)
theorem pick_slice {vs : List V} {us : List Value} {k : Int} (r : Vals vs us) : Vals (pickL k vs) (slicePick us.toArray none none (some k)).toList := by
  unfold slicePick pickL
  rw [List.size_toArray, r.length]
  have : ((sliceRange (sliceBounds none none (some k) us.length).1 (sliceBounds none none (some k) us.length).2.1 (sliceBounds none none (some k) us.length).2.2).filterMap (us.toArray[·]?)).toArray.toList = (sliceRange (sliceBounds none none (some k) us.length).1 (sliceBounds none none (some k) us.length).2.1 (sliceBounds none none (some k) us.length).2.2).filterMap (us[·]?) := by
    simp
  rw [this]
  exact pick_vals r _
def tStep (K : PySem.W.Frag) (pick : List V → List V) (te : TE) : TE := fun σ H Q => te σ H fun x H1 => ∃ a xs, x = .ref a ∧ SqL K H1 a xs ∧ (xs.length ≤ sizeLine → (pick xs).length ≤ sizeLine) ∧ ∀ p, H1 p = none → Q (.ref p) (upd H1 p (.lst (pick xs)))
theorem pe_step {te : TE} {k : Int} (pick : List V → List V) (he : PE X e te) (hst : PE X se (tC (.int k))) (h0 : k ≠ 0) (hp : ∀ vs us, Vals vs us → Vals (pick vs) (slicePick us.toArray none none (some k)).toList)
    (hsub : ∀ o i, subscripted (.Slice none none (some se) p3) false o i = operate [o, i] (getItem o i) := by intro _ _; with_unfolding_all rfl) : PE X (.Subscript e (.Slice none none (some se) p3) pos) (tStep X.K pick te) := by
  refine ⟨fun pn s σ H Q I h => ?_⟩
  refine Subscript_ (thn (he.run pn s σ H _ I h) fun v s1 ⟨x, H1, I1, r1, b, xs, ex, sq, len, q⟩ => ?_)
  subst ex
  cases r1
  refine wpAny_Slice (thn (po_none.run pn s1 σ H1 (fun o H2 => o = none ∧ H2 = H1) I1 ⟨rfl, rfl⟩) fun v1 s2 ⟨o1, H2, I2, pl, e1, e2⟩ => ?_)
  subst e1 e2
  refine thn (po_none.run pn s2 σ H2 (fun o H3 => o = none ∧ H3 = H2) I2 ⟨rfl, rfl⟩) fun v2 s3 ⟨o2, H3, I3, pu, e1, e2⟩ => ?_
  subst e1 e2
  refine thn ((po_some hst).run pn s3 σ H3 (fun o H4 => o = some k ∧ H4 = H3) I3 ⟨k, rfl, rfl, rfl⟩) fun v3 s4 ⟨o3, H4, I4, ps, e1, e2⟩ => ?_
  subst e1 e2
  have I5 : Inv X pn σ H4 { s4 with heap := s4.heap.push { cls := .type "slice", data := .fields #[v1, v2, v3] } } := I4.kept (t' := s4.toks) fun b ob q => Heap.get?_push_of_some _ q
  obtain ⟨its, r, ht, hz⟩ := I5.list sq
  refine tail_any (ops := [.ref b, .ref s4.heap.objs.size]) ht.isList.typeIs PySem.slot_list_getitem.lookup ?_ (hsub _ _)
  have hk : some k ≠ some 0 := fun z => h0 (Option.some.inj z)
  refine wpAny_getItem_list_slice ht.isList (Heap.IsSliceOf.new _ v1 v2 v3) pl pu ps hk ?_ (by rw [List.size_toArray, ← r.length]; exact hz)
  refine ⟨.ref _, _, I5.laid (t' := s4.toks) (o := .lst (pick xs)) (fun b ob q => Heap.get?_push_of_some _ q) (Nat.le_refl _) ?_, rfl, q _ (I5.hok.fresh (Nat.le_refl _))⟩
  exact ⟨len hz, _, 0, hp xs its r, Heap.get?_push_size _ rfl⟩
def gStep (k : Int) : F1 := fun cs x => match lstOf cs x with
  | some xs => if (pickL k xs).length ≤ 16777216 then .ok (.lst (pickL k xs)) cs else .no
  | none => .no
theorem pick_len {α β : Type} {k : Int} {xs : List α} {ys : List β} (h : xs.length = ys.length) : (pickL k xs).length = (pickL k ys).length := by
  unfold pickL
  rw [h]
  generalize sliceRange _ _ _ = is
  induction is with
  | nil => rfl
  | cons i is ih =>
    rw [List.filterMap_cons, List.filterMap_cons]
    by_cases c : i < xs.length
    · rw [List.getElem?_eq_getElem c, List.getElem?_eq_getElem (h ▸ c)]
      simp only [List.length_cons, ih]
    · rw [List.getElem?_eq_none (Nat.le_of_not_lt c), List.getElem?_eq_none (by rw [← h]; exact Nat.le_of_not_lt c)]
      exact ih
theorem de_step {k : Int} (hK : X.K = G.K.K) (h0 : k ≠ 0) (ha : PE X e (tE G W fa)) (hst : PE X se (tC (.int k))) (hsub : ∀ o i, subscripted (.Slice none none (some se) p3) false o i = operate [o, i] (getItem o i) := by intro _ _; with_unfolding_all rfl) :
    PE X (.Subscript e (.Slice none none (some se) p3) pos) (tE G W (eUn (gStep k) fa)) :=
  (pe_step (pickL k) ha hst h0 (fun vs us r => pick_slice r) hsub).impV fun σ H Q ⟨ρ, F, st, r, po⟩ => seqX r po fun ρ1 F1 H1 x c1 v x1 r1 rv1 p1 => by
    unfold gStep at p1
    cases q : lstOf c1 x with
    | none => simp only [q] at p1; exact p1.elim
    | some xs =>
      simp only [q] at p1
      obtain ⟨b, ws, rfl, s2, r2⟩ := lst_read (st := ⟨st.env, c1⟩) r1 rv1 q
      by_cases c : (pickL k xs).length ≤ 16777216
      · rw [if_pos c] at p1
        rw [hK]
        refine ⟨b, ws, rfl, s2, fun _ => line_of (by rw [← pick_len r2.length]; exact c), fun q hq => ?_⟩
        obtain ⟨x2, r3⟩ := r1.fresh (o := .lst (pickL k ws)) hq
        refine p1 _ _ _ _ x2 r3 (.lst upd_same (RVs.ext x2 ?_))
        unfold pickL
        rw [r2.length]
        exact pick_rvs r2 _
      · rw [if_neg c] at p1
        exact p1.elim
/-- xs[::-1], an own list, the step being any expression -/
theorem de_revLocS (hK : X.K = G.K.K) (ha : PE X e (tE G W fa)) (hst : PE X se (tC (.int (-1)))) (hsub : ∀ o i, subscripted (.Slice none none (some se) p3) false o i = operate [o, i] (getItem o i) := by intro _ _; with_unfolding_all rfl) :
    PE X (.Subscript e (.Slice none none (some se) p3) pos) (tE G W (eUn gRevLoc fa)) :=
  (pe_step (fun xs => xs.reverse) ha hst (by decide) (fun vs us r => by rw [PySem.W.krv_pick]; simpa using r.reverse) hsub).impV fun σ H Q ⟨ρ, F, st, r, po⟩ => seqX r po fun ρ1 F1 H1 x c1 v x1 r1 rv1 p1 => by
    unfold gRevLoc at p1
    cases q : lstOf c1 x with
    | none => simp only [q] at p1; exact p1.elim
    | some xs =>
      simp only [q] at p1
      obtain ⟨b, ws, rfl, s2, r2⟩ := lst_read (st := ⟨st.env, c1⟩) r1 rv1 q
      rw [hK]
      exact ⟨b, ws, rfl, s2, fun h => by rw [List.length_reverse]; exact h, fun q hq => newCell_of (st := ⟨st.env, c1⟩) r1 r2.reverse hq p1⟩
theorem pe_neg1 {k1 k2 : Nat} {p1 p2 : Pos} {m : Int} {n : Int} : PE X (.BinOp (.Constant (.int m) k1 p1) .Sub (.Constant (.int n) k2 p2) pos) (tC (.int (m - n))) :=
  (pe_op op_sub' pe_int pe_int).impV fun σ H Q q => ⟨m, n, rfl, rfl, trivial, q⟩
end
end VL

/-! VLZ8: min, str of a text or a whole number, a walk over a list or a tuple, defs with defaults, len(o), o == a tuple -/
namespace VL
open PySem PySem.Spec PyProof.Rows L2
section
variable {X : Cx} {G : Gx} {W : WX} {e a b tg : Expr} {es : List Expr} {fa fb : Ex} {g : Ax} {pos p : Pos}
/-! ### min(i, j) -/
def hMin2 : FB := fun cs xs => match xs with
  | [.int i, .int j] => .ok (.int (if j < i then j else i)) cs
  | _ => .no
theorem de_min2 (hc : X.calm = true) (hg : Gl X "min") (hm : X.mg "min" = none) (ha : PA X (e :: es) (tAs G W g)) (he : starEach (e :: es) X.env = (false, eval e X.env) :: starEach es X.env := by rfl) (hpl : (backTo pos (starEach es X.env)).any (·.1) = false := by rfl) : PE X (.Call (.Name "min" p) (e :: es) [] pos) (tE G W (eB hMin2 g)) := by
  refine de_callB (call_min2 hc) ?_ hg hm (by decide +kernel) ha (he := he) (hpl := hpl)
  intro ρ F st σ H ds vs Q r rv po
  unfold hMin2 at po
  split at po
  · cases rv with
    | cons h1 h2 =>
      cases h1
      cases h2 with
      | cons h3 h4 =>
        cases h3
        cases h4
        exact ⟨_, _, rfl, po.here r (.int _)⟩
  · exact po.elim
/-! ### str(x), x a text or a whole number -/
def hStrA : FB := fun cs xs => match xs with
  | [.str z] => .ok (.str z) cs
  | [.int i] => hStrI cs [.int i]
  | _ => .no
theorem PE.either {e : Expr} {t1 t2 : TE} (h1 : PE X e t1) (h2 : PE X e t2) : PE X e (fun σ H Q => t1 σ H Q ∨ t2 σ H Q) := ⟨fun pn s σ H Q I h => h.elim (h1.run pn s σ H Q I) (h2.run pn s σ H Q I)⟩
theorem de_strA (hg : Gl X "str") (hm : X.mg "str" = none) (ha : PA X (e :: es) (tAs G W g)) (he : starEach (e :: es) X.env = (false, eval e X.env) :: starEach es X.env := by rfl) (hpl : (backTo pos (starEach es X.env)).any (·.1) = false := by rfl) : PE X (.Call (.Name "str" p) (e :: es) [] pos) (tE G W (eB hStrA g)) := by
  refine (PE.either (de_strS (G := G) (W := W) hg hm ha he hpl) (de_strI (G := G) (W := W) hg hm ha he hpl)).impV ?_
  rintro σ H Q ⟨ρ, F, st, r, po⟩
  by_cases c : ∃ i c1, g st = .ok [.int i] c1
  · obtain ⟨i, c1, q⟩ := c
    refine .inr ⟨ρ, F, st, r, ?_⟩
    unfold eB at po ⊢
    rw [q] at po ⊢
    exact po
  · refine .inl ⟨ρ, F, st, r, ?_⟩
    unfold eB at po ⊢
    cases q : g st with
    | no => rw [q] at po; exact po
    | ex e' cs => rw [q] at po; exact po
    | ok ds c1 =>
      rw [q] at po
      have po : Post RV G W ρ F st.env σ Q (hStrA c1 ds) := po
      show Post RV G W ρ F st.env σ Q (hStrS c1 ds)
      unfold hStrA at po
      split at po
      · exact po
      · exact absurd ⟨_, _, q⟩ c
      · exact po.elim
/-! ### a walk over a list, a tuple or an own list -/
def iSq (f : Ex) : Ix := fun st => (f st).bind fun x c1 => match x with
  | .lst ds => .ok (ds, keepAll) c1
  | .frl ds => .ok (ds, keepAll) c1
  | .tup ds => .ok (ds, keepAll) c1
  | .btp ds => .ok (ds, keepAll) c1
  | .loc n => (match c1[n]? with
    | some (.lst ds) => .ok (ds, keepD n ds) c1
    | _ => .no)
  | _ => .no
theorem iSq_one (f : Ex) (st : S) : iSq f st = iL f st ∨ iSq f st = iT f st ∨ iSq f st = iLo f st := by
  unfold iSq iL iT iLo
  cases f st with
  | no => exact .inl rfl
  | ex e' cs => exact .inl rfl
  | ok x c1 =>
    cases x with
    | tup ds => exact .inr (.inl rfl)
    | btp ds => exact .inr (.inl rfl)
    | loc n => exact .inr (.inr rfl)
    | _ => exact .inl rfl
theorem di_seq (hK : X.K = G.K.K) (h : PE X e (tE G W fa)) : PI X tg e (tI G W (iSq fa)) := ⟨fun pn s σ H R I ⟨ρ, F, st, r, po⟩ => by
  rcases iSq_one fa st with q | q | q
  · exact (di_list hK h).run pn s σ H R I ⟨ρ, F, st, r, q ▸ po⟩
  · exact (di_tup hK h).run pn s σ H R I ⟨ρ, F, st, r, q ▸ po⟩
  · exact (di_loc hK h).run pn s σ H R I ⟨ρ, F, st, r, q ▸ po⟩⟩
end
section
variable {X : Cx} {G : Gx} {W : WX} {e : Expr} {g : Ax}
/-- enumerate of a list or a tuple -/
def iEnQ (g : Ax) : Ix := fun st => (g st).bind fun xs c1 => match xs with
  | [.lst ds] => .ok (enumD ds, keepAll) c1
  | [.frl ds] => .ok (enumD ds, keepAll) c1
  | [.tup ds] => .ok (enumD ds, keepAll) c1
  | [.btp ds] => .ok (enumD ds, keepAll) c1
  | _ => .no
theorem iEnQ_one (g : Ax) (st : S) : iEnQ g st = iEn g st ∨ iEnQ g st = iEnT g st := by
  unfold iEnQ iEn iEnT
  cases g st with
  | no => exact .inl rfl
  | ex e' cs => exact .inl rfl
  | ok xs c1 =>
    cases xs with
    | nil => exact .inl rfl
    | cons x r =>
      cases r with
      | nil =>
        cases x with
        | tup ds => exact .inr rfl
        | btp ds => exact .inr rfl
        | _ => exact .inl rfl
      | cons y r => exact .inl (by cases x <;> rfl)
theorem di_enumQ {p pos tpos : Pos} {elts : List Expr} {kk : Nat} (hK : X.K = G.K.K) (hg : Gl X "enumerate") (hm : X.mg "enumerate" = none) (ha : PA X [e] (tAs G W g)) (hs : starEach [e] X.env = [(false, eval e X.env)] := by rfl) :
    PI X (.Tuple elts kk tpos) (.Call (.Name "enumerate" p) [e] [] pos) (tI G W (iEnQ g)) := ⟨fun pn s σ H R I ⟨ρ, F, st, r, po⟩ => by
  rcases iEnQ_one g st with q | q
  · exact (di_enum hK hg hm ha hs).run pn s σ H R I ⟨ρ, F, st, r, q ▸ po⟩
  · exact (di_enumT hK hg hm ha hs).run pn s σ H R I ⟨ρ, F, st, r, q ▸ po⟩⟩
end
/-! ### defs with defaults -/
section
variable {P : Program} {w : World} {K : Kt} {mg : Str → Option Value} {base : Heap} {x : Str} {st : Stmt} {ps N : List Str} {k : Nat} {fn fn' : Fn} {body : Sx} {Φ : FuncData → Prop}
structure TxtX (K : Kt) (mg : Str → Option Value) (x : Str) (st : Stmt) (ps : List Str) (Φ : FuncData → Prop) : Prop where
  ex : ∃ (f : Addr) (fd : FuncData), mg x = some (.ref f) ∧ PySem.W.keepIn K.K (.ref f) = true ∧ (∃ dV, FunA K.K x x st dV f fd) ∧ Binds K.K fd ps [] ∧ Φ fd
structure DefX (P : Program) (w : World) (K : Kt) (mg : Str → Option Value) (base : Heap) (x : Str) (k : Nat) (ps : List Str) (fn : Fn) (Φ : FuncData → Prop) : Prop where
  ex : ∃ (f : Addr) (fd : FuncData), mg x = some (.ref f) ∧ PySem.W.keepIn K.K (.ref f) = true ∧ Binds K.K fd ps [] ∧ FnOk P w K.K mg base (L2.CX P w) k f fd ps (spF K ps.length fn) ∧ Φ fd
theorem mkDefX (t : TxtX K mg x st ps Φ) (S : FnScope N ps (defScope st))
    (hbody : ∀ (f : Addr) (G : Gx), G.K = K → ∀ (cdv : Value) (A : Around) (outer : List Env) (s : Shared) (H : Hp) (E : XK), Room k (A.deeper (envOfC x (defScope st) s.heap.objs.size f cdv)) →
      PSs (cxOf (L2.CX P w) P w K.K mg base N x (defScope st) f cdv A outer s H E) (defBody st) (tS G (fun cls d _ H' => E cls d H') body)) :
    DefX P w K mg base x (k + 1) ps (runF N.length body) Φ := by
  obtain ⟨f, fd, h1, h2, ⟨dV, h3⟩, h4, h5⟩ := t.ex
  exact ⟨f, fd, h1, h2, h4, okA h3 S fun G e cdv A outer s H E hr => hbody f G e cdv A outer s H E hr, h5⟩
theorem DefX.trim (d : DefX P w K mg base x k ps fn Φ) : DefX P w K mg base x k ps (trimF fn) Φ := by
  obtain ⟨f, fd, h1, h2, h3, h4, h5⟩ := d.ex
  exact ⟨f, fd, h1, h2, h3, fnTrim h4, h5⟩
end
section
variable {X : Cx} {G : Gx} {W : WX} {e : Expr} {es : List Expr} {g gk : Ax} {pos p : Pos} {x : Str} {k : Nat} {fn : Fn} {ps ks : List Str} {kws : List Keyword} {Φ : FuncData → Prop} {ds : List D}
/-- f(e, k = v) -/
def eCallN (n : Nat) (fn : Fn) (ix : List Nat) (g gk : Ax) : Ex := fun st => (g st).bind fun xs c1 => (gk ⟨st.env, c1⟩).bind fun zs c2 => callV n fn (xs ++ permD ix zs) c2
theorem de_callN (n : Nat) (ix : List Nat) (d : DefX X.prog X.w G.K X.mg X.base x k ps fn Φ) (hΦ : ∀ fd, Φ fd → PhiK G.K ps ks ix fd) (hK : X.K = G.K.K) (hW : Flat W) (tk : Takes X W) (hr : Room k X.A) (ha : PA X (e :: es) (tAs G W g)) (hl : ALen 1 g) (hkw : PK X kws (tAs G W gk)) (hlk : ALen ks.length gk) (hix : ∀ i ∈ ix, i < ks.length) (hixl : ix.length + 1 = ps.length) (hg : Gl X x := by rfl)
    (hall : (backToKw pos (keywordEach kws X.env)).all (·.1.isSome) = true := by rfl) (hks : (backToKw pos (keywordEach kws X.env)).filterMap (·.1) = ks := by rfl) (hdb : (x == ("__debug__" : Str)) = false := by decide) (he : starEach (e :: es) X.env = (false, eval e X.env) :: starEach es X.env := by rfl)
    (hpl : ((backTo pos (starEach (e :: es) X.env)).any (·.1) || (backToKw pos (keywordEach kws X.env)).any (·.1.isNone)) = false := by rfl) :
    PE X (.Call (.Name x p) (e :: es) kws pos) (tE G W (eCallN n fn ix g gk)) := by
  obtain ⟨f, fd, h1, h2, h3, h4, h5⟩ := d.ex
  have kb := hΦ fd h5
  unfold PhiK at kb
  rw [← hK] at h2 h4 kb
  refine (pe_callN h4 hr hg h1 h2 kb (passF tk hW) ha hkw hall hks hdb he hpl).impV ?_
  rintro σ H Q ⟨ρ, F, st, r, po⟩
  unfold eCallN at po
  refine ⟨ρ, F, st, r, ?_⟩
  cases q0 : g st with
  | no => rw [q0] at po; exact po.elim
  | ex e' cs => rw [q0] at po; exact po
  | ok xs c1 =>
  rw [q0] at po
  have po : Post RV G W ρ F st.env σ Q ((gk ⟨st.env, c1⟩).bind fun zs c2 => callV n fn (xs ++ permD ix zs) c2) := po
  intro ρ1 F1 H1 vs x1 r1 rv1
  have l1 : xs.length = 1 := hl _ _ _ q0
  have p1 := Post.ext x1 po
  refine ⟨ρ1, F1, ⟨st.env, c1⟩, r1, ?_⟩
  cases q : gk ⟨st.env, c1⟩ with
  | no => rw [q] at p1; exact p1.elim
  | ex e' cs => rw [q] at p1; exact p1
  | ok zs c2 =>
    rw [q] at p1
    have p1 : Post RV G W ρ1 F1 st.env σ Q (callV n fn (xs ++ permD ix zs) c2) := p1
    intro ρ2 F2 H2 ws x2 r2 rv2
    have l2 := hlk _ _ _ q
    refine ⟨by rw [← rv1.length]; exact l1, by rw [← rv2.length]; exact l2, ?_⟩
    have hp := perm_rel rv2 ix fun i hi => by rw [l2]; exact hix i hi
    exact spF_flat hW (callV_of (st := ⟨st.env, c2⟩) (m := ps.length) (n := n) r2 ((rv1.ext x2).append hp) (by rw [List.length_append, l1]; unfold permD; rw [List.length_map]; omega) (Post.ext x2 p1))
/-- f(e), the rest by defaults -/
def eCallDf (n : Nat) (fn : Fn) (ds : List D) (g : Ax) : Ex := fun st => (g st).bind fun xs c1 => callV n fn (xs ++ ds) c1
theorem de_callDf (n : Nat) (d : DefX X.prog X.w G.K X.mg X.base x k ps fn Φ) (hΦ : ∀ fd, Φ fd → Phi0 G.K ps ds fd) (hK : X.K = G.K.K) (hW : Flat W) (tk : Takes X W) (hr : Room k X.A) (ha : PA X (e :: es) (tAs G W g)) (hl : ALen 1 g) (hd : ds.length + 1 = ps.length) (hg : Gl X x := by rfl)
    (hdb : (x == ("__debug__" : Str)) = false := by decide) (he : starEach (e :: es) X.env = (false, eval e X.env) :: starEach es X.env := by rfl) (hpl : (backTo pos (starEach es X.env)).any (·.1) = false := by rfl) :
    PE X (.Call (.Name x p) (e :: es) [] pos) (tE G W (eCallDf n fn ds g)) := by
  obtain ⟨f, fd, h1, h2, h3, h4, h5⟩ := d.ex
  obtain ⟨its, dvs, h6, h7, h8⟩ := hΦ fd h5
  rw [← hK] at h2 h4 h6
  refine (pe_call h4 hr hg h1 h2 h6 h7 (passF tk hW) ha hdb he hpl).impV ?_
  rintro σ H Q ⟨ρ, F, st, r, po⟩
  refine ⟨ρ, F, st, r, ?_⟩
  unfold eCallDf at po
  cases q0 : g st with
  | no => rw [q0] at po; exact po.elim
  | ex e' cs => rw [q0] at po; exact po
  | ok xs c1 =>
  rw [q0] at po
  have po : Post RV G W ρ F st.env σ Q (callV n fn (xs ++ ds) c1) := po
  intro ρ1 F1 H1 vs x1 r1 rv1
  have l1 : xs.length = 1 := hl _ _ _ q0
  exact spF_flat hW (callV_of (st := ⟨st.env, c1⟩) (m := ps.length) (n := n) r1 (rv1.append (h8 _ _)) (by rw [List.length_append, l1]; omega) (Post.ext x1 po))
end
/-! ### len(o) -/
section
variable {X : Cx} {G : Gx} {W : WX} {e a b : Expr} {es : List Expr} {fa fb : Ex} {g : Ax} {pos p : Pos} {cn k : Nat} {fn : Fn} {ps : List Str}
def hLenO (cn : Nat) (fn : Fn) : FB := fun cs xs => match xs with
  | [.obj C ks ds] => if C = cn then (callV 0 fn [.obj C ks ds] cs).bind fun d c => (match d with
    | .int i => if 0 ≤ i ∧ i ≤ 16777216 then .ok (.int i) c else .no
    | _ => .no) else .no
  | _ => .no
theorem special_own {x : Addr} {C f : Addr} {ox : Obj} {od : Option Obj} {P : Program} {w : World} {A : Around} {E : Value → Shared → Prop} {s : Shared} {K : PySem.W.Frag} {name : Str} {args : List Value} {Q : Option Value → Shared → Prop} (X : K.In s.heap) (I : PySem.W.InstAt s.heap x ox C od) (hs : PySem.W.findIn K (.ref C) name = some (some (.ref f))) (hf : PySem.W.isFn K (.ref f) = true)
    (h : wpAny (model P w) A (call (.ref f) (.ref x :: args)) (fun v => Q (some v)) E s) : wpAny (model P w) A (callSpecial? (.ref x) name args) Q E s := by
  unfold callSpecial? specialOf
  refine wpAny_bind (wpAny_bind (I.type.here ((PySem.W.looks_findIn X hs).here (wpAny_holding ?_))))
  refine wpAny_bind ((PySem.W.bind_fn X _ (beq_iff_eq.mp hf)).here ?_)
  exact wpAny_bind (wpAny_mono h (fun v s' q => wpAny_pure q) fun _ _ z => z)
def rLenO (C : Addr) (sp : Sp) (W : WX) (σ : L2.St) : List V → Hp → VK → Prop := fun xs H Q => ∃ a dx fs, xs = [.ref a] ∧ H a = some (.ins C dx fs) ∧ sp xs H (fun v H' => ∃ i : Int, v = .int i ∧ 0 ≤ i ∧ i ≤ 16777216 ∧ Q (.int i) H') (fun cls d H' => W cls d σ H')
theorem run_lenO {C f : Addr} {fd : FuncData} {sp : Sp} (F : FnOk X.prog X.w X.K X.mg X.base (L2.CX X.prog X.w) k f fd ps sp) (hs : PySem.W.findIn X.K (.ref C) "__len__" = some (some (.ref f))) (hf : PySem.W.isFn X.K (.ref f) = true) (hb : Binds X.K fd ps []) (tk : Takes X W) (hr : Room (k + 1) X.A)
    {pins : List (Addr × Obj)} {s : Shared} {σ : L2.St} {H : Hp} {xs : List V} {us : List Value} {Q : VK} (I : Inv X pins σ H s) (r : Vals xs us) (h : rLenO C sp W σ xs H Q) : wpAny (model X.prog X.w) X.A (call (.builtin "len") us) (EP X pins σ Q) X.xe s := by
  obtain ⟨a, dx, fs, rfl, ha, hsp⟩ := h
  cases r with
  | cons rx rr =>
  cases rr
  cases rx
  obtain ⟨mA, J, _⟩ := ins_get I.hok ha
  obtain ⟨od, J, _⟩ := J.look
  have hl := F.len _ _ _ _ hsp
  have r2 : Vals [V.ref a] [Value.ref a] := .cons rfl .nil
  refine Calls.call_function_entry kind_len plain_len entry_len (args_len1 _) ?_
  unfold Builtin.«len»
  refine wpAny_bind (m := oneArg "len" _) (wpAny_pure (wpAny_bind (special_own I.kIn J hs hf ?_)))
  refine wpAny_call (codeAny_mono (F.run _ X.stack s H ⟨[.ref a], []⟩ [.ref a] [.ref a] _ _ hr.in1 I.env0.in1 (by simpa using hb s [.ref a] I.kIn (by simpa using hl)) r2 hsp) fun q s' hq => ?_)
  cases q with
  | error e => exact tk e s' (XE.of_call I (fun _ _ _ h => h) hq)
  | ok fl =>
    cases fl with
    | ret w =>
      obtain ⟨z, H', I', rz, i, rfl, i0, i1, ex⟩ := I.after hq
      obtain ⟨t, rfl⟩ := rz
      refine wpAny_bind (wpAny_holding (wpAny_pure (wpAny_bind (wpAny_letGo ?_))))
      show wpAny _ _ (if i < 0 then _ else _) _ _ _
      rw [if_neg (by omega)]
      show wpAny _ _ (if i ≥ 2 ^ 63 then _ else _) _ _ _
      rw [if_neg (by omega)]
      exact wpAny_bind (wpAny_mkInt (wpAny_pure ⟨_, rfl, .int i, H', I'.tok _, ⟨_, rfl⟩, ex⟩))
    | next => exact False.elim hq
    | brk => exact False.elim hq
    | cont => exact False.elim hq
theorem call_lenO (d : DefM X.prog X.w G.K X.mg X.base cn "__len__" k ps fn) (hp : ps.length = 1) (hK : X.K = G.K.K) (hW : Flat W) (tk : Takes X W) (hr : Room (k + 1) X.A) : CallR X (.builtin "len") (fun xs H Q => ∃ σ0, rLenO (G.K.κ cn) (spF G.K 1 fn) W σ0 xs H Q) := by
  obtain ⟨f, fd, h1, h2, h3, h4⟩ := d.ex
  rw [hp, ← hK] at h4
  rw [← hK] at h1 h2 h3
  intro pins s σ H xs us Q I r ⟨σ0, q⟩
  refine run_lenO h4 h1 h2 h3 tk hr I r ?_
  obtain ⟨a, dx, fs, rfl, ha, hsp⟩ := q
  exact ⟨a, dx, fs, rfl, ha, spF_flat hW hsp⟩
theorem vn_lenO : VN G W (fun xs H Q => ∃ σ0, rLenO (G.K.κ cn) (spF G.K 1 fn) W σ0 xs H Q) (hLenO cn fn) := by
  intro ρ F st σ H ds vs Q r rv po
  unfold hLenO at po
  split at po
  · rename_i C ks ds
    cases rv with
    | cons h1 h2 =>
      cases h2
      cases h1 with
      | obj h hl hr =>
        by_cases c : C = cn
        · subst c
          rw [if_pos rfl] at po
          refine ⟨σ, _, _, _, rfl, r.fz _ _ h, callV_of (m := 1) (n := 0) (fn := fn) r (.cons (.obj h hl hr) .nil) rfl ?_⟩
          cases o : callV 0 fn [.obj C ks ds] st.cs with
          | ok d cs =>
            rw [o] at po
            cases d with
            | int i =>
              have po : Post RV G W ρ F st.env σ Q (if 0 ≤ i ∧ i ≤ 16777216 then .ok (.int i) cs else .no) := po
              by_cases c2 : 0 ≤ i ∧ i ≤ 16777216
              · rw [if_pos c2] at po
                intro ρ' F' H' v x r rv
                cases rv
                exact ⟨i, rfl, c2.1, c2.2, po ρ' F' H' _ x r (.int _)⟩
              · rw [if_neg c2] at po
                exact po.elim
            | _ => exact po.elim
          | ex e cs => rw [o] at po; exact po
          | no => rw [o] at po; exact po
        · rw [if_neg c] at po
          exact po.elim
  · exact po.elim
theorem de_lenObj (d : DefM X.prog X.w G.K X.mg X.base cn "__len__" k ps fn) (hp : ps.length = 1) (hK : X.K = G.K.K) (hW : Flat W) (tk : Takes X W) (hr : Room (k + 1) X.A) (hg : Gl X "len") (hm : X.mg "len" = none) (ha : PA X (e :: es) (tAs G W g)) (he : starEach (e :: es) X.env = (false, eval e X.env) :: starEach es X.env := by rfl) (hpl : (backTo pos (starEach es X.env)).any (·.1) = false := by rfl) : PE X (.Call (.Name "len" p) (e :: es) [] pos) (tE G W (eB (hLenO cn fn) g)) :=
  de_callB (call_lenO d hp hK hW tk hr) vn_lenO hg hm PySem.boot_len ha (he := he) (hpl := hpl)
/-! ### o == a tuple -/
def rEqT (K : PySem.W.Frag) (C : Addr) (sp : Sp) (W : WX) : R2 := fun x y H Q => ∃ a dx fs σ0 b ys, x = .ref a ∧ H a = some (.ins C dx fs) ∧ y = .ref b ∧ SqT K H b ys ∧ sp [x, y] H (fun v H' => ∃ b, v = .bl b ∧ Q (.bl b) H') (WE W σ0)
theorem run_eqT {C f : Addr} {fd : FuncData} {sp : Sp} (F : FnOk X.prog X.w X.K X.mg X.base (L2.CX X.prog X.w) k f fd ps sp) (he : PySem.W.findIn X.K (.ref C) "__eq__" = some (some (.ref f))) (hf : PySem.W.isFn X.K (.ref f) = true) (hb : Binds X.K fd ps []) (hst : PySem.W.subIn X.K (.type "tuple") (.ref C) = some false) (hW : Flat W) (tk : Takes X W) (hr : Room k X.A) :
    OpR X (compareOp .Eq) (rEqT X.K C sp W) := by
  intro pins s σ H x y v u Q I rx ry h
  obtain ⟨a, dx, fs, σ0, bt, ys, rfl, ha, rfl, sq, hsp⟩ := h
  obtain rfl : v = Value.ref a := rx
  obtain rfl : u = Value.ref bt := ry
  obtain ⟨mA, J, _⟩ := ins_get I.hok ha
  obtain ⟨od, J, _⟩ := J.look
  obtain ⟨its, rv, ht, _⟩ := I.tuple sq
  obtain ⟨m, hF⟩ := I.fr
  have hl := F.len _ _ _ _ hsp
  have r2 : Vals [V.ref a, V.ref bt] [Value.ref a, Value.ref bt] := .cons rfl (.cons rfl .nil)
  have lt : PySem.W.Looks (model X.prog X.w) s.heap (typeOf (.ref bt)) (.type "tuple") := by
    obtain ⟨o, ho, hc, _⟩ := ht
    exact fun A Q E s k q => wpAny_typeOf_ref (k _ _ ho) (by rw [hc]; exact q)
  have nf : PySem.W.notFirst X.K C (.type "tuple") = true := by unfold PySem.W.notFirst; rw [hst]; rfl
  refine PySem.W.cmp_ofEq (PySem.W.cmp_K (op := .Eq) (tb := .type "tuple") (by have := hr.un; omega) hF I.ok.mod.kin J lt nf he hf ?_)
  refine wpAny_call (codeAny_mono (F.run _ X.stack s H ⟨[.ref a, .ref bt], []⟩ [.ref a, .ref bt] [.ref a, .ref bt] _ _ hr I.env0 (by simpa using hb s [.ref a, .ref bt] I.kIn (by simpa using hl)) r2 hsp) fun q s' hq => ?_)
  cases q with
  | error e => exact tk e s' (XE.of_call I (fun _ _ _ h => hW _ _ _ _ _ h) hq)
  | ok fl =>
    cases fl with
    | ret w =>
      obtain ⟨z, H', I', rz, b, rfl, ex⟩ := I.after hq
      obtain rfl : w = Value.bool b := rz
      exact ⟨.bl b, H', I', rfl, ex⟩
    | next => exact False.elim hq
    | brk => exact False.elim hq
    | cont => exact False.elim hq
def gEqT (cn : Nat) (fn : Fn) : F2 := fun cs x y => match x, y with
  | .obj C ks ds, .tup ys => if C = cn then (callV 0 fn [.obj C ks ds, .tup ys] cs).bind (boolO false) else .no
  | _, _ => .no
theorem v2_eqT : V2 G W (rEqT G.K.K (G.K.κ cn) (spF G.K 2 fn) W) (gEqT cn fn) := by
  intro ρ F st σ H x y v w Q r h1 h2 po
  unfold gEqT at po
  split at po
  · rename_i C ks ds ys
    by_cases c : C = cn
    · rw [if_pos c] at po
      subst c
      obtain ⟨b, ws, rfl, sq, _⟩ := tup_read r h2 rfl
      cases h1 with
      | obj h hl hr =>
        have po2 := post_bool po
        exact ⟨_, _, _, σ, b, ws, rfl, r.fz _ _ h, rfl, sq, callV_of (m := 2) (n := 0) (fn := fn) r (.cons (.obj h hl hr) (.cons h2 .nil)) rfl po2⟩
    · rw [if_neg c] at po
      exact po.elim
  · exact po.elim
theorem dt_eqT (d : DefM X.prog X.w G.K X.mg X.base cn "__eq__" k ps fn) (hp : ps.length = 2) (T : PySem.W.subIn G.K.K (.type "tuple") (.ref (G.K.κ cn)) = some false) (hK : X.K = G.K.K) (hW : Flat W) (tk : Takes X W) (hr : Room k X.A) (ha : PE X a (tE G W fa)) (hb : PE X b (tE G W fb)) : PT X (.Compare a [.Eq] [b] pos) (tTs G W (tCmp' (gEqT cn fn) fa fb)) := by
  obtain ⟨f, fd, h1, h2, h3, h4⟩ := d.ex
  rw [hp, ← hK] at h4
  rw [← hK] at h1 h2 h3
  exact dt_cmp (run_eqT h4 h1 h2 h3 (hK ▸ T) hW tk hr) (by rw [hK]; exact v2_eqT) ha hb (nomark _)
end
end VL

/-! VLZ9: x in a list of data of any depth -/
namespace VL
open PySem L2 PyProof.Rows
section
variable {X : Cx} {G : Gx} {W : WX} {a b : Expr} {fa fb : Ex} {pos : Pos}
def rInL (neg : Bool) (K : PySem.W.Frag) : R2 := fun x y H Q => ∃ d ds, Dp K H x d ∧ Dp K H y (.list ds) ∧ SeqAt.shaped d = true ∧ SeqAt.shaped (.list ds) = true ∧ Q (.bl (if neg then !(ds.any fun z => PyData.eqv z d) else ds.any fun z => PyData.eqv z d)) H
theorem op_inL (hu : X.A.units + 65 < cLine) : OpR X (compareOp .In) (rInL false X.K) := by
  intro pins s σ H x y v u Q I rx ry h
  obtain ⟨d, ds, hd, he, sd, se, q⟩ := h
  obtain ⟨as, r1⟩ := Dp.reads I d x v hd rx
  obtain ⟨bs, r2⟩ := Dp.reads I (.list ds) y u he ry
  exact SeqAt.in_list_reads r2 r1 (SeqAt.canLay_of_shaped se) (SeqAt.canLay_of_shaped sd) (room_in_shaped sd hu) ⟨.bl _, H, I, rfl, q⟩
theorem op_notInL (hu : X.A.units + 65 < cLine) : OpR X (compareOp .NotIn) (rInL true X.K) := by
  intro pins s σ H x y v u Q I rx ry h
  obtain ⟨d, ds, hd, he, sd, se, q⟩ := h
  obtain ⟨as, r1⟩ := Dp.reads I d x v hd rx
  obtain ⟨bs, r2⟩ := Dp.reads I (.list ds) y u he ry
  exact SeqAt.notIn_list_reads r2 r1 (SeqAt.canLay_of_shaped se) (SeqAt.canLay_of_shaped sd) (room_in_shaped sd hu) ⟨.bl _, H, I, rfl, q⟩
def gInL (neg : Bool) : F2 := fun cs x y => match norm cs y with
  | .lst ds => if VL.plain (norm cs x) && SeqAt.shaped (py (norm cs x)) && plains ds && SeqAt.shaped (.list (pys ds)) then .ok (.bl (if neg then !((pys ds).any fun z => PyData.eqv z (py (norm cs x))) else (pys ds).any fun z => PyData.eqv z (py (norm cs x)))) cs else .no
  | _ => .no
theorem v2_inL {neg : Bool} : V2 G W (rInL neg G.K.K) (gInL neg) := by
  intro ρ F st σ H x y v w Q r h1 h2 p
  unfold gInL at p
  cases e : norm st.cs y with
  | lst ds =>
    rw [e] at p
    dsimp only at p
    by_cases c : (VL.plain (norm st.cs x) && SeqAt.shaped (py (norm st.cs x)) && plains ds && SeqAt.shaped (.list (pys ds))) = true
    · rw [if_pos c] at p
      simp only [Bool.and_eq_true] at c
      have h3 := dp_norm r h2 (by rw [e]; unfold VL.plain; exact c.1.2)
      rw [e, show py (.lst ds) = .list (pys ds) from by simp [py]] at h3
      exact ⟨_, _, dp_norm r h1 c.1.1.1, h3, c.1.1.2, c.2, p.here r (.bl _)⟩
    · rw [if_neg c] at p
      exact p.elim
  | _ => rw [e] at p; exact p.elim
theorem de_inT (hK : X.K = G.K.K) (hu : X.A.units + 65 < cLine) (ha : PE X a (tE G W fa)) (hb : PE X b (tE G W fb)) (hm : behindInMarks .In b = false) : PE X (.Compare a [.In] [b] pos) (tE G W (eOp (gInT false) fa fb)) := de_cmp (op_inT hu) (by rw [hK]; exact v2_inT) ha hb hm
theorem dt_notinL (hK : X.K = G.K.K) (hu : X.A.units + 65 < cLine) (ha : PE X a (tE G W fa)) (hb : PE X b (tE G W fb)) (hm : behindInMarks .NotIn b = false) : PT X (.Compare a [.NotIn] [b] pos) (tTs G W (tCmp' (gInL true) fa fb)) := dt_cmp (op_notInL hu) (by rw [hK]; exact v2_inL) ha hb hm
theorem dt_inL (hK : X.K = G.K.K) (hu : X.A.units + 65 < cLine) (ha : PE X a (tE G W fa)) (hb : PE X b (tE G W fb)) (hm : behindInMarks .In b = false) : PT X (.Compare a [.In] [b] pos) (tTs G W (tCmp' (gInL false) fa fb)) := dt_cmp (op_inL hu) (by rw [hK]; exact v2_inL) ha hb hm
end
end VL

/-! VD2: makes with some defaults; in and sorted over a list or a tuple; isinstance(e, (C, D)) in a clause -/
namespace VL
open PySem L2 PyProof.Rows
section
variable {X : Cx} {G : Gx} {W : WX} {e a b : Expr} {es : List Expr} {fa fb : Ex} {g : Ax} {pos p : Pos} {x : Str} {cn k : Nat} {fn : Fn} {ps : List Str} {Φ : FuncData → Prop} {ds : List D}
/-- C(a, ..), the rest by defaults -/
def eMakeDf (cn : Nat) (fn : Fn) (ds : List D) (g : Ax) : Ex := fun st => (g st).bind fun xs c1 => makeD cn fn (xs ++ ds) c1
theorem de_makeDf (n : Nat) (d : DefCX X.prog X.w G.K X.mg X.base x cn k ps fn Φ) (hΦ : ∀ fd, Φ fd → Phi0 G.K ps ds fd) (hK : X.K = G.K.K) (hW : Flat W) (tk : Takes X W) (hr : Room (k + 1) X.A) (ha : PA X (e :: es) (tAs G W g)) (hl : ALen n g) (hd : n + ds.length + 1 = ps.length) (hg : Gl X x := by rfl)
    (hdb : (x == ("__debug__" : Str)) = false := by decide) (he : starEach (e :: es) X.env = (false, eval e X.env) :: starEach es X.env := by rfl) (hpl : (backTo pos (starEach es X.env)).any (·.1) = false := by rfl) :
    PE X (.Call (.Name x p) (e :: es) [] pos) (tE G W (eMakeDf cn fn ds g)) := by
  obtain ⟨f, fd, h1, h2, h3, h4, h5⟩ := d.ex
  obtain ⟨its, dvs, h6, h7, h8⟩ := hΦ fd h5
  rw [← hK] at h2 h4 h6
  refine (pe_make h2 h4 hr hg h1 h6 h7 (passF tk hW) ha hdb he hpl).impV ?_
  rintro σ H Q ⟨ρ, F, st, r, po⟩
  unfold eMakeDf at po
  refine ⟨ρ, F, st, r, ?_⟩
  cases q : g st with
  | no => rw [q] at po; exact po.elim
  | ex e' cs => rw [q] at po; exact po
  | ok xs c1 =>
    rw [q] at po
    have po : Post RV G W ρ F st.env σ Q (makeD cn fn (xs ++ ds) c1) := po
    intro ρ1 F1 H1 vs x1 r1 rv1 y dx nx ndx ne
    have l1 : xs.length = n := hl _ _ _ q
    exact make_of (st := ⟨st.env, c1⟩) hW r1 (rv1.append (h8 _ _)) (by rw [List.length_append, l1]; omega) nx ndx ne (Post.ext x1 po)
/-! ### a list or a tuple -/
def gInQ (neg : Bool) : F2 := fun cs x y => match y with
  | .tup ds => gInT neg cs x (.tup ds)
  | y => gInL neg cs x y
theorem v2_inQ {neg : Bool} : V2 G W (fun x y H Q => rInT neg G.K.K x y H Q ∨ rInL neg G.K.K x y H Q) (gInQ neg) := by
  intro ρ F st σ H x y v w Q r h1 h2 p
  unfold gInQ at p
  split at p
  · exact .inl (v2_inT ρ F st σ H x _ v w Q r h1 h2 p)
  · exact .inr (v2_inL ρ F st σ H x _ v w Q r h1 h2 p)
theorem dt_notinQ (hK : X.K = G.K.K) (hu : X.A.units + 65 < cLine) (ha : PE X a (tE G W fa)) (hb : PE X b (tE G W fb)) (hm : behindInMarks .NotIn b = false) : PT X (.Compare a [.NotIn] [b] pos) (tTs G W (tCmp' (gInQ true) fa fb)) := dt_cmp ((op_notInT hu).or (op_notInL hu)) (by rw [hK]; exact v2_inQ) ha hb hm
theorem de_notinQ (hK : X.K = G.K.K) (hu : X.A.units + 65 < cLine) (ha : PE X a (tE G W fa)) (hb : PE X b (tE G W fb)) (hm : behindInMarks .NotIn b = false) : PE X (.Compare a [.NotIn] [b] pos) (tE G W (eOp (gInQ true) fa fb)) := de_cmp ((op_notInT hu).or (op_notInL hu)) (by rw [hK]; exact v2_inQ) ha hb hm
def hSortQ : FB := fun cs xs => match xs with
  | [.tup ds] => hSortST cs [.tup ds]
  | xs => hSortS cs xs
theorem eB_sortQ (g : Ax) (st : S) : eB hSortQ g st = eB hSortST g st ∨ eB hSortQ g st = eB hSortS g st := by
  unfold eB
  cases g st with
  | no => exact .inl rfl
  | ex e' cs => exact .inl rfl
  | ok xs c1 =>
    show hSortQ c1 xs = hSortST c1 xs ∨ hSortQ c1 xs = hSortS c1 xs
    unfold hSortQ
    split
    · exact .inl rfl
    · exact .inr rfl
theorem de_sortQ (hK : X.K = G.K.K) (hg : Gl X "sorted") (hm : X.mg "sorted" = none) (ha : PA X (e :: es) (tAs G W g)) (he : starEach (e :: es) X.env = (false, eval e X.env) :: starEach es X.env := by rfl) (hpl : (backTo pos (starEach es X.env)).any (·.1) = false := by rfl) : PE X (.Call (.Name "sorted" p) (e :: es) [] pos) (tE G W (eB hSortQ g)) :=
  ⟨fun pn s σ H Q I ⟨ρ, F, st, r, po⟩ => by
    rcases eB_sortQ g st with q | q
    · exact (de_sortST hK hg hm ha he hpl).run pn s σ H Q I ⟨ρ, F, st, r, q ▸ po⟩
    · exact (de_sortS hK hg hm ha he hpl).run pn s σ H Q I ⟨ρ, F, st, r, q ▸ po⟩⟩
end
/-! ### isinstance(e, (C, D)) in a clause -/
section
variable {X : Cx} {G : Gx} {cn i : Nat} {b : Bool} {n x y : Str} {p p1 p2 p3 p5 pos : Pos} {kk : Nat}
def rIsE3 (K : PySem.W.Frag) (D a : Addr) (cls : Value) (d : Option Addr) : List V → Hp → VK → Prop := fun xs H Q => ∃ (q D1 D2 : Addr) (b : Bool), xs = [.ref a, .ref q] ∧ H q = some (.tup [.ref D1, .ref D2]) ∧ PySem.W.kitAny K (.ref D) [.ref D1, .ref D2] = some b ∧ cls = .ref D ∧ (∃ dd fs, d = some dd ∧ H dd = some (.xd fs)) ∧ Q (.bl b) H
theorem call_isE3 {a D : Addr} {oe : Obj} {cls : Value} {d : Option Addr} {pn : List (Addr × Obj)} (C : ExcC X.K D) (hz : Zc cls d oe) (hf : ∃ vs, oe.data = .fields vs) : CallR (X.suite a ((a, oe) :: pn)) (.builtin "isinstance") (rIsE3 X.K D a cls d) := by
  intro pins s σ H xs us Q I r h
  obtain ⟨q, D1, D2, b, rfl, hT, e, rfl, ⟨dd, fs, rfl, ed⟩, q'⟩ := h
  obtain ⟨u1, u2, rfl, r1, r2⟩ := vals2 r
  cases (show u1 = Value.ref a from r1)
  cases (show u2 = Value.ref q from r2)
  have hget := (I.pin (a, oe) (List.mem_append.mpr (.inl List.mem_cons_self))).1
  obtain ⟨vs, hv⟩ := hf
  have hx : ObjOk X.prog X.w H s.heap dd (.xd fs) := I.hok dd _ ed
  obtain ⟨mA, hns, _⟩ := hx
  obtain ⟨od, ho, _⟩ := lookIn_ns hns
  have J : PySem.W.InstAt s.heap a oe D (some od) := ⟨hget, hz.1, by unfold PySem.W.notCls; rw [hv] <;> rfl, by rw [hz.2]; exact ho⟩
  obtain ⟨cdD, hcD, _⟩ := PySem.W.any_some C.hd
  obtain ⟨_, its, rv, o, h1, h2, n, h3⟩ := (show ObjOk X.prog X.w H s.heap q (.tup [.ref D1, .ref D2]) from I.hok q _ hT)
  cases rv with
  | cons a1 t1 =>
    cases t1 with
    | cons a2 t2 =>
      cases t2
      cases a1
      cases a2
      obtain ⟨oc, od', dt, sl⟩ := o
      simp only at h2 h3
      subst h2 h3
      exact PySem.W.kia_tup (PySem.W.kitx_exc (od := some od) (by rw [hcD]; rfl) C.hg C.hk C.hs C.ha C.hn C.ht C.hm) I.kIn J h1 e (fun z => nomatch z) fun tk => ⟨.bl b, H, I.kept (t' := tk) fun _ _ z => z, rfl, q'⟩
/-- a test whose answer hangs on the class alone, and that may lay a new thing -/
def SuiteB2 (X : Cx) (G : Gx) (cn i : Nat) (e : Expr) (b : Bool) : Prop :=
  ∀ (a : Addr) (oe : Obj) (cls : Value) (d : Option Addr) (pn : List (Addr × Obj)), Zc cls d oe → (∃ vs, oe.data = .fields vs) →
    PT (X.suite a ((a, oe) :: pn)) e (fun σ H Q => XHere G cn i a cls d σ H ∧ Q b H ∧ ∀ q o, H q = none → Q b (upd H q o))
variable {c e1 e2 : Expr} {ct : Nat → Option Bool} {f1 f2 : Exn → Ex} {b1 b2 : Bool}
theorem sb2_not (h : SuiteB2 X G cn i c b) : SuiteB2 X G cn i (.UnaryOp .Not c pos) (!b) := fun a oe cls d pn hz hd => (pt_not (h a oe cls d pn hz hd)).impV fun σ H Q h => h
theorem sb2_and (h1 : SuiteB X G cn i e1 b1) (h2 : SuiteB2 X G cn i e2 b2) : SuiteB2 X G cn i (.BoolOp .And [e1, e2] pos) (b1 && b2) := by
  intro a oe cls d pn hz hd
  refine (pw_and (h1 a oe cls d pn hz hd) (pw_and1 (h2 a oe cls d pn hz hd))).pt.impV ?_
  rintro σ H Q ⟨xh, q⟩
  refine ⟨xh, ?_⟩
  cases b1 with
  | true => exact ⟨xh, q⟩
  | false => exact q.1
theorem sb2_isi {D1 D2 : Addr} (hK : X.K = G.K.K) (T : ExcC G.K.K (G.K.κ cn)) (hg : Gl X "isinstance") (hm : X.mg "isinstance" = none) (hgx : Gl X x) (hmx : X.mg x = some (.ref D1)) (hgy : Gl X y) (hmy : X.mg y = some (.ref D2)) (hk : PySem.W.kitAny G.K.K (.ref (G.K.κ cn)) [.ref D1, .ref D2] = some b) (hv : ∀ a pn, PE (X.suite a pn) (.Name n p) (tVar i))
    (hd : (x == ("__debug__" : Str)) = false := by decide) (hd2 : (y == ("__debug__" : Str)) = false := by decide)
    (hs : starEach [.Name n p, .Tuple [.Name x p2, .Name y p3] kk p5] X.env = (false, eval (.Name n p) X.env) :: starEach [.Tuple [.Name x p2, .Name y p3] kk p5] X.env := by rfl) (hpl : (backTo pos (starEach [.Tuple [.Name x p2, .Name y p3] kk p5] X.env)).any (·.1) = false := by rfl) (hs2 : starEach [.Tuple [.Name x p2, .Name y p3] kk p5] X.env = (false, eval (.Tuple [.Name x p2, .Name y p3] kk p5) X.env) :: starEach [] X.env := by rfl)
    (hs3 : starEach [.Name x p2, .Name y p3] X.env = (false, eval (.Name x p2) X.env) :: starEach [.Name y p3] X.env := by rfl) (hs4 : starEach [.Name y p3] X.env = (false, eval (.Name y p3) X.env) :: starEach [] X.env := by rfl)
    (he : ∀ whole, isTrue (.Call (.Name "isinstance" p1) [.Name n p, .Tuple [.Name x p2, .Name y p3] kk p5] [] pos) X.env whole = (do let v ← whole; standAt (Expr.Call (.Name "isinstance" p1) [.Name n p, .Tuple [.Name x p2, .Name y p3] kk p5] [] pos).pos; holding [v] (truthy v)) := by intro _; rfl) :
    SuiteB2 X G cn i (.Call (.Name "isinstance" p1) [.Name n p, .Tuple [.Name x p2, .Name y p3] kk p5] [] pos) b := by
  intro a oe cls d pn hz hf
  have hA : PE (X.suite a ((a, oe) :: pn)) (.Name x p2) (tC (.ref D1)) := pe_glob hgx hmx rfl hd
  have hB : PE (X.suite a ((a, oe) :: pn)) (.Name y p3) (tC (.ref D2)) := pe_glob hgy hmy rfl hd2
  have P := pe_callB (p := p1) (pos := pos) (call_isE3 (a := a) (pn := pn) (hK ▸ T) hz hf) hg hm PyProof.Rows.Boot.«isinstance» (pa_cons (hv a _) (pa_cons (pe_tup (pa_cons hA (pa_cons hB pa_nil hs4) hs3)) pa_nil hs2) hs) (he := hs) (hpl := hpl)
  refine (pt_truth P he).impV ?_
  rintro σ H Q ⟨xh, _, q⟩
  refine ⟨.ref a, xh.slot, ?_⟩
  refine ⟨by rw [sizeLine_eq]; show 2 ≤ 16777216; decide, fun z hz => ?_⟩
  obtain ⟨dd, fs, e1, e2⟩ := xh.dict
  exact ⟨z, D1, D2, b, rfl, upd_same, by rw [hK]; exact hk, xh.cls, ⟨dd, fs, e1, by rw [upd_ne (ne_of_none e2 hz)]; exact e2⟩, ⟨b, rfl, q z _ hz⟩⟩
theorem se_if2 (hc : SuiteB2 X G cn i c b) (only : ∀ C, ct C = some true → C = cn) (h1 : SuiteE X G i e1 ct f1) (h2 : SuiteE X G i e2 ct f2) : SuiteE X G i (.IfExp c e1 e2 pos) ct (if b then f1 else f2) := by
  intro a oe cls d pn hz hd
  refine (pe_ifExp (hc a oe cls d pn hz hd) (h1 a oe cls d pn hz hd) (h2 a oe cls d pn hz hd)).impV ?_
  rintro σ H Q ⟨ex, hct, hs, ρ, F, st, r, xa, po⟩
  have xh := xhere_of (i := i) r xa hs
  rw [only _ hct] at xh
  refine ⟨xh, ?_, fun q o hq => ?_⟩
  · cases b with
    | true => exact ⟨ex, hct, hs, ρ, F, st, r, xa, po⟩
    | false => exact ⟨ex, hct, hs, ρ, F, st, r, xa, po⟩
  · obtain ⟨x1, r1⟩ := r.fresh (o := o) hq
    cases b with
    | true => exact ⟨ex, hct, hs, ρ, _, st, r1, xa.ext x1, Post.ext x1 po⟩
    | false => exact ⟨ex, hct, hs, ρ, _, st, r1, xa.ext x1, Post.ext x1 po⟩
end
theorem units1 {k : Nat} {A : Around} (r : Room k A) : A.units + 1 < cLine := by
  have := r.un
  omega
/-! ### defaults behind more than one argument -/
theorem FunA.bindsM {K : Kt} {x qual : Str} {st : Stmt} {f : Addr} {fd : FuncData} {ps : List Str} {T : Addr} {o : Obj} {its : List Value} {m : Nat} (n : Nat) (Fu : FunA K.K x qual st (.ref T) f fd) (lT : K.K.lookup T = some o) (oT : o.data = .seq its.toArray m) (hn : its.length + n = ps.length)
    (h : ∀ (kV doc pm : Value) (an : Option Addr) (cdv ct : Value) (us : List Value), us.length = n → ∃ k, bindArgs (PySem.W.fnOf x qual (defArgs st) (defBody st) (defScope st) (.ref T) kV doc pm an cdv ct) ⟨us, []⟩ = seqItems? (.ref T) >>= k ∧ k (some its.toArray) = pure (ps.zip (us ++ its))) : Binds K.K fd ps its := by
  obtain ⟨oc, od, kV, doc, pm, an, cdv, ct, osl, rfl, lk, hcd⟩ := Fu.ex
  intro s us KX hl
  rw [List.length_append] at hl
  have hu : us.length = n := by omega
  obtain ⟨k, e1, e2⟩ := h kV doc pm an cdv ct us hu
  refine BindsTo.of_looks fun M => ?_
  rw [e1]
  exact looks_items KX lT oT (PySem.W.Looks.of_pure e2)
/-! ### isinstance with more classes -/
def ansTC (Ts : List String) (cs : List Nat) : Ty → Option Bool
  | .t n => anySub n Ts
  | .c C => if cs.contains C then some false else none
def AnsAny (K : Kt) (us : List Value) (ans : Ty → Option Bool) : Prop := ∀ t b, ans t = some b → PySem.W.kitAny K.K (t.val K) us = some b ∧ ∀ C, t = .c C → InsC K.K (K.κ C)
theorem ansTC_ok {K : Kt} {Ts : List String} {cs : List Nat} (h : ∀ C ∈ cs, PySem.W.kitAny K.K (.ref (K.κ C)) (Ts.map .type) = some false ∧ InsC K.K (K.κ C)) : AnsAny K (Ts.map .type) (ansTC Ts cs) := by
  intro t b e
  cases t with
  | t n => exact ⟨anySub_kit e, fun C z => by cases z⟩
  | c C =>
    have e : (if cs.contains C = true then some false else none) = some b := e
    by_cases q : cs.contains C = true
    · rw [if_pos q] at e
      cases e
      obtain ⟨h1, h2⟩ := h C (List.contains_iff_mem.mp q)
      exact ⟨h1, fun C' z => by cases z; exact h2⟩
    · rw [if_neg q] at e
      cases e
def ansOC (c0 : Nat) (cs : List Nat) : Ty → Option Bool
  | .t n => if tyNames.contains n then some false else none
  | .c C => if C = c0 then some true else if cs.contains C then some false else none
theorem ansOC_ok {K : Kt} {c0 : Nat} {cs : List Nat} (h : ∀ n ∈ tyNames, PySem.W.kitOne K.K (.type n) (.ref (K.κ c0)) = some false) (i : InsC K.K (K.κ c0)) (hc : ∀ C ∈ cs, PySem.W.kitOne K.K (.ref (K.κ C)) (.ref (K.κ c0)) = some false ∧ InsC K.K (K.κ C)) : AnsOk K (.ref (K.κ c0)) (ansOC c0 cs) := by
  intro t b e
  cases t with
  | t n => exact ansO_ok h i (.t n) b e
  | c C =>
    by_cases q0 : C = c0
    · exact ansO_ok h i (.c C) b (by
        have e : (if C = c0 then some true else if cs.contains C then some false else none) = some b := e
        rw [if_pos q0] at e
        show (if C = c0 then some true else none) = some b
        rw [if_pos q0]; exact e)
    · have e : (if C = c0 then some true else if cs.contains C = true then some false else none) = some b := e
      rw [if_neg q0] at e
      by_cases q : cs.contains C = true
      · rw [if_pos q] at e
        cases e
        obtain ⟨h1, h2⟩ := hc C (List.contains_iff_mem.mp q)
        exact ⟨h1, fun C' z => by cases z; exact h2⟩
      · rw [if_neg q] at e
        cases e
section
variable {X : Cx} {G : Gx} {W : WX} {a : Expr} {fa : Ex} {pos : Pos} {ans : Ty → Option Bool}
theorem de_isiT2G {T1 T2 : String} {x1 x2 : Str} {kk : Nat} {p1 p3 p4 p5 : Pos} (hK : X.K = G.K.K) (hg : Gl X "isinstance") (hm : X.mg "isinstance" = none) (hg1 : Gl X x1) (hm1 : X.mg x1 = none) (hb1 : bootBuiltins x1 = some (.type T1)) (hg2 : Gl X x2) (hm2 : X.mg x2 = none) (hb2 : bootBuiltins x2 = some (.type T2)) (hA : AnsAny G.K [.type T1, .type T2] ans) (ha : PE X a (tE G W fa))
    (hn1 : x1 ≠ "__name__" := by decide) (hd1 : (x1 == ("__debug__" : Str)) = false := by decide) (hn2 : x2 ≠ "__name__" := by decide) (hd2 : (x2 == ("__debug__" : Str)) = false := by decide)
    (hs : starEach [a, .Tuple [.Name x1 p3, .Name x2 p4] kk p5] X.env = (false, eval a X.env) :: starEach [.Tuple [.Name x1 p3, .Name x2 p4] kk p5] X.env := by rfl) (hpl : (backTo pos (starEach [.Tuple [.Name x1 p3, .Name x2 p4] kk p5] X.env)).any (·.1) = false := by rfl)
    (hs2 : starEach [.Tuple [.Name x1 p3, .Name x2 p4] kk p5] X.env = (false, eval (.Tuple [.Name x1 p3, .Name x2 p4] kk p5) X.env) :: starEach [] X.env := by rfl) (hs3 : starEach [.Name x1 p3, .Name x2 p4] X.env = (false, eval (.Name x1 p3) X.env) :: starEach [.Name x2 p4] X.env := by rfl) (hs4 : starEach [.Name x2 p4] X.env = (false, eval (.Name x2 p4) X.env) :: starEach [] X.env := by rfl) :
    PE X (.Call (.Name "isinstance" p1) [a, .Tuple [.Name x1 p3, .Name x2 p4] kk p5] [] pos) (tE G W (eUn (gIsiG ans) fa)) := by
  have hA1 : PE X (.Name x1 p3) (tC (.ty T1)) := pe_bltn hg1 hm1 hb1 rfl hn1 hd1
  have hB1 : PE X (.Name x2 p4) (tC (.ty T2)) := pe_bltn hg2 hm2 hb2 rfl hn2 hd2
  refine (pe_callB call_isiT hg hm boot_isinstance (pa_cons ha (pa_cons (pe_tup (pa_cons hA1 (pa_cons hB1 pa_nil hs4) hs3)) pa_nil hs2) hs) (he := hs) (hpl := hpl)).impV ?_
  rintro σ H Q ⟨ρ, F, st, r, po⟩
  refine seqX r po fun ρ1 F1 H1 x c1 v x1 r1 rv1 p1 => ?_
  refine ⟨by rw [sizeLine_eq]; show 2 ≤ 16777216; decide, fun q hq => ?_⟩
  unfold gIsiG at p1
  cases qt : tyG c1 x with
  | none => rw [qt] at p1; exact p1.elim
  | some t =>
    rw [qt] at p1
    simp only at p1
    cases q2 : ans t with
    | none => rw [q2] at p1; exact p1.elim
    | some kb =>
      rw [q2] at p1
      obtain ⟨h1, h2⟩ := hA t kb q2
      obtain ⟨x2', r2⟩ := r1.fresh (o := .tup [V.ty T1, V.ty T2]) hq
      rw [hK]
      refine ⟨v, q, [.ty T1, .ty T2], t.val G.K, [.type T1, .type T2], kb, rfl, upd_same, .cons (.ty T1) (.cons (.ty T2) .nil), ?_, h1, ?_⟩
      · exact tyX_G (st := ⟨st.env, c1⟩) r2 (rv1.ext x2') qt h2
      · exact p1 _ _ _ _ x2' r2 (.bl _)
end
end VL

/-! VLW: plain reckoning by what must hold behind it: WO of an answer, WS of a statement's end -/
namespace VL
open PySem L2
@[irreducible] def WO {α : Type} (o : Out α) (Q : α → List Cell → Prop) (E : Exn → List Cell → Prop) : Prop := match o with
  | .ok a cs => Q a cs
  | .ex e cs => E e cs
  | .no => False
/-- a is f of some b, of which K holds -/
def Is {α β : Type} (f : β → α) (a : α) (K : β → Prop) : Prop := ∃ b, a = f b ∧ K b
theorem is_mk {α β : Type} {f : β → α} {a : α} {K : β → Prop} {b : β} (e : a = f b) (h : K b) : Is f a K := ⟨b, e, h⟩
def Is2 {α β γ : Type} (f : β → γ → α) (a : α) (K : β → γ → Prop) : Prop := ∃ b c, a = f b c ∧ K b c
theorem is_mk2 {α β γ : Type} {f : β → γ → α} {a : α} {K : β → γ → Prop} {b : β} {c : γ} (e : a = f b c) (h : K b c) : Is2 f a K := ⟨b, c, e, h⟩
/-- of at most so many things -/
def Lim (n : Nat) (K : Prop) : Prop := n ≤ 16777216 ∧ K
theorem lim_mk {n : Nat} {K : Prop} (h : n ≤ 16777216) (k : K) : Lim n K := ⟨h, k⟩
abbrev NoE : Exn → List Cell → Prop := fun _ _ => False
section
variable {α β : Type} {o : Out α} {Q Q' : α → List Cell → Prop} {E E' : Exn → List Cell → Prop}
theorem wo_ok {a : α} {cs : List Cell} (h : Q a cs) : WO (.ok a cs) Q E := by unfold WO; exact h
theorem wo_ex {e : Exn} {cs : List Cell} (h : E e cs) : WO (.ex e cs : Out α) Q E := by unfold WO; exact h
theorem wo_okI {a : α} {cs : List Cell} (h : WO (.ok a cs) Q E) : Q a cs := by unfold WO at h; exact h
theorem wo_exI {e : Exn} {cs : List Cell} (h : WO (.ex e cs : Out α) Q E) : E e cs := by unfold WO at h; exact h
theorem wo_noI (h : WO (.no : Out α) Q E) : False := by unfold WO at h; exact h
theorem wo_of {a : α} {cs : List Cell} (e : o = .ok a cs) (h : Q a cs) : WO o Q E := by rw [e]; exact wo_ok h
theorem wo_eq {o' : Out α} (e : o = o') (h : WO o' Q E) : WO o Q E := by rw [e]; exact h
theorem wo_imp (h : WO o Q E) (hq : ∀ a cs, Q a cs → Q' a cs) (he : ∀ e cs, E e cs → E' e cs) : WO o Q' E' := by
  cases o with
  | ok a cs => exact wo_ok (hq _ _ (wo_okI h))
  | ex e cs => exact wo_ex (he _ _ (wo_exI h))
  | no => exact (wo_noI h).elim
theorem wo_impN (h : WO o Q NoE) (hq : ∀ a cs, Q a cs → Q' a cs) : WO o Q' E := wo_imp h hq fun _ _ h => h.elim
theorem WO.ex (h : WO o Q NoE) : ∃ a cs, o = .ok a cs ∧ Q a cs := by
  cases o with
  | ok a cs => exact ⟨a, cs, rfl, wo_okI h⟩
  | ex e cs => exact (wo_exI h).elim
  | no => exact (wo_noI h).elim
theorem wo_bind {k : α → List Cell → Out β} {Q : β → List Cell → Prop} (h : WO o (fun a cs => WO (k a cs) Q E) E) : WO (o.bind k) Q E := by
  cases o with
  | ok a cs => exact wo_okI h
  | ex e cs => exact wo_ex (wo_exI h)
  | no => exact (wo_noI h).elim
end
section
variable {Q : D → List Cell → Prop} {T : Bool → List Cell → Prop} {A : List D → List Cell → Prop} {E : Exn → List Cell → Prop} {env : List (Option D)} {cs : List Cell} {fa fb : Ex} {ga : Ax} {t t2 : Tx}
theorem wo_eOp {g : F2} (h : WO (fa ⟨env, cs⟩) (fun x c1 => WO (fb ⟨env, c1⟩) (fun y c2 => WO (g c2 x y) Q E) E) E) : WO (eOp g fa fb ⟨env, cs⟩) Q E :=
  wo_bind (wo_imp h (fun _ _ h => wo_bind h) fun _ _ h => h)
theorem wo_eUn {g : F1} (h : WO (fa ⟨env, cs⟩) (fun x c1 => WO (g c1 x) Q E) E) : WO (eUn g fa ⟨env, cs⟩) Q E := wo_bind h
theorem wo_eC {d : D} (h : Q d cs) : WO (eC d ⟨env, cs⟩) Q E := wo_ok h
theorem wo_eVar {i : Nat} {d : D} (e : env[i]? = some (some d)) (h : Q d cs) : WO (eVar i ⟨env, cs⟩) Q E := by
  unfold eVar; simp only [e]; exact wo_ok h
theorem wo_tCmp {g : F2} (h : WO (fa ⟨env, cs⟩) (fun x c1 => WO (fb ⟨env, c1⟩) (fun y c2 => WO (g c2 x y) (fun d c3 => Is D.bl d fun k => T k c3) E) E) E) : WO (tCmp' g fa fb ⟨env, cs⟩) T E :=
  wo_bind (wo_imp (wo_eOp h) (fun _ _ ⟨k, e, h⟩ => by subst e; exact wo_ok h) fun _ _ h => h)
theorem wo_tTru (h : WO (fa ⟨env, cs⟩) (fun x c1 => Is some (truD c1 x) fun k => T k c1) E) : WO (tTru fa ⟨env, cs⟩) T E := wo_bind (wo_imp h (fun _ _ ⟨k, e, h⟩ => by rw [e]; exact wo_ok h) fun _ _ h => h)
theorem wo_tNot (h : WO (t ⟨env, cs⟩) (fun k c1 => T (!k) c1) E) : WO (tNot' t ⟨env, cs⟩) T E := wo_bind (wo_imp h (fun _ _ h => wo_ok h) fun _ _ h => h)
theorem wo_tAnd (h : WO (t ⟨env, cs⟩) (fun k c1 => WO (if k then t2 ⟨env, c1⟩ else .ok false c1) T E) E) : WO (tAnd' t t2 ⟨env, cs⟩) T E := wo_bind h
theorem wo_tOr (h : WO (t ⟨env, cs⟩) (fun k c1 => WO (if k then .ok true c1 else t2 ⟨env, c1⟩) T E) E) : WO (tOr' t t2 ⟨env, cs⟩) T E := wo_bind h
theorem wo_eIf (h : WO (t ⟨env, cs⟩) (fun k c1 => WO (if k then fa ⟨env, c1⟩ else fb ⟨env, c1⟩) Q E) E) : WO (eIf t fa fb ⟨env, cs⟩) Q E := wo_bind h
theorem wo_eAnd (h : WO (fa ⟨env, cs⟩) (fun x c1 => Is some (truD c1 x) fun k => WO (if k = true then fb ⟨env, c1⟩ else Out.ok x c1) Q E) E) : WO (eAnd fa fb ⟨env, cs⟩) Q E := wo_bind (wo_imp h (fun _ _ ⟨k, e, h⟩ => by rw [e]; exact h) fun _ _ h => h)
theorem wo_eOr (h : WO (fa ⟨env, cs⟩) (fun x c1 => Is some (truD c1 x) fun k => WO (if k = true then Out.ok x c1 else fb ⟨env, c1⟩) Q E) E) : WO (eOr fa fb ⟨env, cs⟩) Q E := wo_bind (wo_imp h (fun _ _ ⟨k, e, h⟩ => by rw [e]; exact h) fun _ _ h => h)
theorem wo_eNot (h : WO (fa ⟨env, cs⟩) (fun x c1 => Is some (truD c1 x) fun k => Q (.bl (!k)) c1) E) : WO (eNot fa ⟨env, cs⟩) Q E := wo_bind (wo_imp h (fun _ _ ⟨k, e, h⟩ => by rw [e]; exact wo_ok h) fun _ _ h => h)
theorem wo_aNil (h : A [] cs) : WO (aNil ⟨env, cs⟩) A E := wo_ok h
theorem wo_aCons (h : WO (fa ⟨env, cs⟩) (fun x c1 => WO (ga ⟨env, c1⟩) (fun xs c2 => A (x :: xs) c2) E) E) : WO (aCons fa ga ⟨env, cs⟩) A E :=
  wo_bind (wo_imp h (fun _ _ h => wo_bind (wo_imp h (fun _ _ h => wo_ok h) fun _ _ h => h)) fun _ _ h => h)
theorem wo_aStar (h : WO (fa ⟨env, cs⟩) (fun x c1 => Is some (seqOf c1 x) fun xs => WO (ga ⟨env, c1⟩) (fun ys c2 => A (xs ++ ys) c2) E) E) : WO (aStar fa ga ⟨env, cs⟩) A E :=
  wo_bind (wo_imp h (fun _ _ ⟨xs, e, h⟩ => by rw [e]; exact wo_bind (wo_imp h (fun _ _ h => wo_ok h) fun _ _ h => h)) fun _ _ h => h)
theorem wo_eTup (h : WO (ga ⟨env, cs⟩) (fun xs c1 => Lim xs.length (Q (.tup xs) c1)) E) : WO (eTup ga ⟨env, cs⟩) Q E := wo_bind (wo_imp h (fun _ _ ⟨a, b⟩ => by rw [if_pos a]; exact wo_ok b) fun _ _ h => h)
theorem wo_eLst (h : WO (ga ⟨env, cs⟩) (fun xs c1 => Lim xs.length (Q (.lst xs) c1)) E) : WO (eLst ga ⟨env, cs⟩) Q E := wo_bind (wo_imp h (fun _ _ ⟨a, b⟩ => by rw [if_pos a]; exact wo_ok b) fun _ _ h => h)
theorem wo_eB {f : FB} (h : WO (ga ⟨env, cs⟩) (fun xs c1 => WO (f c1 xs) Q E) E) : WO (eB f ga ⟨env, cs⟩) Q E := wo_bind h
theorem wo_eCall {n : Nat} {fn : Fn} (h : WO (ga ⟨env, cs⟩) (fun xs c1 => WO (callV n fn xs c1) Q E) E) : WO (eCall n fn ga ⟨env, cs⟩) Q E := wo_bind h
theorem wo_eCallAll {fn : Fn} (h : WO (ga ⟨env, cs⟩) (fun xs c1 => WO (fn xs c1) Q E) E) : WO (eCallAll fn ga ⟨env, cs⟩) Q E := wo_bind h
theorem wo_eCMeth {n cn : Nat} {fn : Fn} (h : WO (ga ⟨env, cs⟩) (fun xs c1 => WO (callV n fn (.cls cn :: xs) c1) Q E) E) : WO (eCMeth n cn fn ga ⟨env, cs⟩) Q E := wo_bind h
theorem wo_eMake {cn : Nat} {fn : Fn} (h : WO (ga ⟨env, cs⟩) (fun xs c1 => WO (makeD cn fn xs c1) Q E) E) : WO (eMake cn fn ga ⟨env, cs⟩) Q E := wo_bind h
theorem wo_eCallDf {n : Nat} {fn : Fn} {ds : List D} (h : WO (ga ⟨env, cs⟩) (fun xs c1 => WO (callV n fn (xs ++ ds) c1) Q E) E) : WO (eCallDf n fn ds ga ⟨env, cs⟩) Q E := wo_bind h
theorem wo_eMS {g : Str → List Cell → D → Out D} (h : WO (fa ⟨env, cs⟩) (fun x c1 => Is D.str x fun z => WO (fb ⟨env, c1⟩) (fun y c2 => WO (g z c2 y) Q E) E) E) : WO (eMS g fa fb ⟨env, cs⟩) Q E :=
  wo_bind (wo_imp h (fun _ _ ⟨z, e, h⟩ => by subst e; exact wo_bind h) fun _ _ h => h)
theorem wo_eMeth {cn : Nat} {m : Str} {fn : Fn} (h : WO (fa ⟨env, cs⟩) (fun x c1 => Is2 (D.obj cn) x fun ks ds => ks.contains m = false ∧ WO (ga ⟨env, c1⟩) (fun xs c2 => WO (callV 0 fn (.obj cn ks ds :: xs) c2) Q E) E) E) : WO (eMeth cn m fn fa ga ⟨env, cs⟩) Q E :=
  wo_bind (wo_imp h (fun _ _ ⟨ks, ds, e, e2, h⟩ => by
    subst e
    show WO (if _ ∧ _ then _ else _) _ _
    rw [if_pos ⟨rfl, e2⟩]; exact wo_bind h) fun _ _ h => h)
theorem wo_oNone {A : Option Int → List Cell → Prop} (h : A none cs) : WO (oNone ⟨env, cs⟩) A E := wo_ok h
theorem wo_oSome {A : Option Int → List Cell → Prop} (h : WO (fa ⟨env, cs⟩) (fun x c1 => Is D.int x fun i => A (some i) c1) E) : WO (oSome fa ⟨env, cs⟩) A E :=
  wo_bind (wo_imp h (fun _ _ ⟨i, e, h⟩ => by subst e; exact wo_ok h) fun _ _ h => h)
theorem wo_eSl {own : Bool} {l h : Ox} (w : WO (fa ⟨env, cs⟩) (fun x c1 => WO (l ⟨env, c1⟩) (fun lo c2 => WO (h ⟨env, c2⟩) (fun hi c3 => WO (gSl own c3 x lo hi) Q E) E) E) E) : WO (eSl own fa l h ⟨env, cs⟩) Q E :=
  wo_bind (wo_imp w (fun _ _ h => wo_bind (wo_imp h (fun _ _ h => wo_bind h) fun _ _ h => h)) fun _ _ h => h)
theorem wo_ifT {α : Type} {Q : α → List Cell → Prop} {a b : Out α} (h : WO a Q E) : WO (if true = true then a else b) Q E := h
theorem wo_ifF {α : Type} {Q : α → List Cell → Prop} {a b : Out α} (h : WO b Q E) : WO (if false = true then a else b) Q E := h
theorem wo_if {α : Type} {Q : α → List Cell → Prop} {a b : Out α} {k : Bool} (h1 : k = true → WO a Q E) (h2 : k = false → WO b Q E) : WO (if k = true then a else b) Q E := by
  cases k with
  | true => exact h1 rfl
  | false => exact h2 rfl
/-! ### statements -/
end
def WS (o : SOut) (Q : SOut → Prop) : Prop := Q o
@[irreducible] def thenQ (g : Sx) (Q : SOut → Prop) : SOut → Prop
  | .nx st => WS (g st) Q
  | o => Q o
@[irreducible] def retQ (Q : D → List Cell → Prop) (E : Exn → List Cell → Prop) : SOut → Prop
  | .rt d st => Q d st.cs
  | .nx st => Q .non st.cs
  | .ex e st => E e st.cs
  | _ => False
section
variable {Q : D → List Cell → Prop} {E : Exn → List Cell → Prop} {P : SOut → Prop} {env : List (Option D)} {cs : List Cell} {fa fb fc : Ex} {ga : Ax} {t : Tx} {f g : Sx} {st : S}
theorem ws_seq (h : WS (f st) (thenQ g P)) : WS (sSeq f g st) P := by
  unfold sSeq WS at *
  unfold thenQ at h
  cases q : f st with
  | nx st' => rw [q] at h; exact h
  | rt d st' => rw [q] at h; exact h
  | bk st' => rw [q] at h; exact h
  | ct st' => rw [q] at h; exact h
  | ex e st' => rw [q] at h; exact h
  | no => rw [q] at h; exact h
theorem ws_nx (h : WS (g st) P) : WS (.nx st) (thenQ g P) := by unfold WS at *; unfold thenQ; exact h
theorem ws_rt {d : D} (h : WS (.rt d st) P) : WS (.rt d st) (thenQ g P) := by unfold WS at *; unfold thenQ; exact h
theorem ws_ex {e : Exn} (h : WS (.ex e st) P) : WS (.ex e st) (thenQ g P) := by unfold WS at *; unfold thenQ; exact h
theorem ws_ct (h : WS (.ct st) P) : WS (.ct st) (thenQ g P) := by unfold WS at *; unfold thenQ; exact h
theorem ws_bk (h : WS (.bk st) P) : WS (.bk st) (thenQ g P) := by unfold WS at *; unfold thenQ; exact h
theorem ws_nxR (h : Q .non st.cs) : WS (.nx st) (retQ Q E) := by unfold WS; unfold retQ; exact h
theorem ws_rtR {d : D} (h : Q d st.cs) : WS (.rt d st) (retQ Q E) := by unfold WS; unfold retQ; exact h
theorem ws_exR {e : Exn} (h : E e st.cs) : WS (.ex e st) (retQ Q E) := by unfold WS; unfold retQ; exact h
theorem ws_nil (h : WS (.nx st) P) : WS (sNil st) P := h
theorem ws_cnt (h : WS (.ct st) P) : WS (sCnt st) P := h
theorem ws_brk (h : WS (.bk st) P) : WS (sBrk st) P := h
theorem ws_then {α : Type} {o : Out α} {k : α → S → SOut} (h : WO o (fun a c1 => WS (k a ⟨env, c1⟩) P) (fun e c1 => WS (.ex e ⟨env, c1⟩) P)) : WS (thenS o env k) P := by
  cases o with
  | ok a c => exact wo_okI h
  | ex e c => exact wo_exI h
  | no => exact (wo_noI h).elim
theorem ws_if (h : WO (t ⟨env, cs⟩) (fun k c1 => WS (if k = true then f ⟨env, c1⟩ else g ⟨env, c1⟩) P) (fun e c1 => WS (.ex e ⟨env, c1⟩) P)) : WS (sIf t f g ⟨env, cs⟩) P := ws_then h
theorem ws_iteT {a b : SOut} (h : WS a P) : WS (if true = true then a else b) P := h
theorem ws_iteF {a b : SOut} (h : WS b P) : WS (if false = true then a else b) P := h
theorem ws_ite {a b : SOut} {k : Bool} (h1 : k = true → WS a P) (h2 : k = false → WS b P) : WS (if k = true then a else b) P := by
  cases k with
  | true => exact h1 rfl
  | false => exact h2 rfl
theorem ws_ret (h : WO (fa ⟨env, cs⟩) (fun d c1 => WS (.rt d ⟨env, c1⟩) P) (fun e c1 => WS (.ex e ⟨env, c1⟩) P)) : WS (sRet fa ⟨env, cs⟩) P := ws_then h
theorem ws_expr (h : WO (fa ⟨env, cs⟩) (fun d c1 => WS (.nx ⟨env, c1⟩) P) (fun e c1 => WS (.ex e ⟨env, c1⟩) P)) : WS (sExpr fa ⟨env, cs⟩) P := ws_then h
theorem ws_asg {gt : Gt} (h : WO (fa ⟨env, cs⟩) (fun d c1 => WS (asg gt d ⟨env, c1⟩) P) (fun e c1 => WS (.ex e ⟨env, c1⟩) P)) : WS (sAsg fa gt ⟨env, cs⟩) P := ws_then h
theorem ws_asgNm {i : Nat} {d : D} {env' : List (Option D)} (e : env.set i (some d) = env') (h : WS (.nx ⟨env', cs⟩) P) : WS (asg (gNm i) d ⟨env, cs⟩) P := by subst e; exact h
theorem ws_asgG {gt : Gt} {d : D} {st' : S} (e : gt d ⟨env, cs⟩ = some st') (h : WS (.nx st') P) : WS (asg gt d ⟨env, cs⟩) P := by
  unfold asg; rw [e]; exact h
theorem ws_par2 {i j : Nat} (h : WO (ga ⟨env, cs⟩) (fun ds c1 => Is2 (fun d e => [d, e]) ds fun d e => WS (.nx ⟨(env.set i (some d)).set j (some e), c1⟩) P) (fun e c1 => WS (.ex e ⟨env, c1⟩) P)) : WS (sPar [i, j] ga ⟨env, cs⟩) P :=
  ws_then (wo_imp h (fun _ _ ⟨d, e, q, h⟩ => by subst q; exact h) fun _ _ h => h)
theorem ws_par3 {i j k : Nat} (h : WO (ga ⟨env, cs⟩) (fun ds c1 => ∃ d e f, ds = [d, e, f] ∧ WS (.nx ⟨((env.set i (some d)).set j (some e)).set k (some f), c1⟩) P) (fun e c1 => WS (.ex e ⟨env, c1⟩) P)) : WS (sPar [i, j, k] ga ⟨env, cs⟩) P :=
  ws_then (wo_imp h (fun _ _ ⟨d, e, f, q, h⟩ => by subst q; exact h) fun _ _ h => h)
theorem ws_setFld {cn : Nat} {n : Str} (h : WO (fa ⟨env, cs⟩) (fun v c1 => WO (fb ⟨env, c1⟩) (fun o c2 => WS (setFld cn n o v ⟨env, c2⟩) P) (fun e c1 => WS (.ex e ⟨env, c1⟩) P)) (fun e c1 => WS (.ex e ⟨env, c1⟩) P)) : WS (sSetFld cn n fa fb ⟨env, cs⟩) P :=
  ws_then (wo_imp h (fun _ _ h => ws_then h) fun _ _ h => h)
theorem ws_for {src : Ix} {gt : Gt} {body : Sx} (h : WO (src ⟨env, cs⟩) (fun w c1 => WS (forL gt body w.2 w.1 ⟨env, c1⟩) P) (fun e c1 => WS (.ex e ⟨env, c1⟩) P)) : WS (sFor src gt body ⟨env, cs⟩) P := ws_then h
/-- a for whose turns all go on, by an invariant of what is left -/
theorem ws_forI {gt : Gt} {body : Sx} {kp : List Cell → Bool} (I : List D → S → Prop) (hk : ∀ ds st, I ds st → kp st.cs = true) (ht : ∀ d ds st, I (d :: ds) st → ∃ st1, gt d st = some st1 ∧ WS (body st1) (fun o => (∃ st2, o = .nx st2 ∧ I ds st2) ∨ (∃ st2, o = .ct st2 ∧ I ds st2))) (hn : ∀ st, I [] st → WS (.nx st) P) :
    ∀ (ds : List D) (st : S), I ds st → WS (forL gt body kp ds st) P
  | [], st, h => by
    unfold forL
    rw [if_pos (hk _ _ h)]
    exact hn st h
  | d :: ds, st, h => by
    obtain ⟨st1, e1, hb⟩ := ht d ds st h
    unfold forL
    rw [if_pos (hk _ _ h), e1]
    unfold WS at hb
    rcases hb with ⟨st2, e2, i2⟩ | ⟨st2, e2, i2⟩
    · simp only [e2]; exact ws_forI I hk ht hn ds st2 i2
    · simp only [e2]; exact ws_forI I hk ht hn ds st2 i2
theorem wo_run {n : Nat} {body : Sx} {ds : List D} {env : List (Option D)} (e : startD n ds = env) (h : WS (body ⟨env, cs⟩) (retQ Q E)) : WO (runF n body ds cs) Q E := by
  subst e
  unfold runF
  unfold WS retQ at h
  cases q : body ⟨startD n ds, cs⟩ with
  | nx st' => rw [q] at h; exact wo_ok h
  | rt d st' => rw [q] at h; exact wo_ok h
  | bk st' => rw [q] at h; exact h.elim
  | ct st' => rw [q] at h; exact h.elim
  | ex e st' => rw [q] at h; exact wo_ex h
  | no => rw [q] at h; exact h.elim
theorem wo_trim {fn : Fn} {ds : List D} (h : WO (fn ds cs) (fun d c => (c.take cs.length).all (belowC cs.length) = true ∧ ∃ d', outD cs.length c d = some d' ∧ Q d' (c.take cs.length)) (fun e c => (c.take cs.length).all (belowC cs.length) = true ∧ belows cs.length e.ds = true ∧ E e (c.take cs.length))) : WO (trimF fn ds cs) Q E := by
  unfold trimF
  cases q : fn ds cs with
  | ok d c =>
    rw [q] at h
    obtain ⟨h1, d', h2, h3⟩ := wo_okI h
    simp only [h1, h2, if_true]
    exact wo_ok h3
  | ex e c =>
    rw [q] at h
    obtain ⟨h1, h2, h3⟩ := wo_exI h
    simp only [h1, h2, Bool.and_self, if_true]
    exact wo_ex h3
  | no => rw [q] at h; exact (wo_noI h).elim
theorem wo_call0 {fn : Fn} {ds ds' : List D} (hd : ds.map (lendD 0 cs) = ds') (hb : belows 0 ds' = true) (h : WO (fn ds' []) (fun d c => c = [] ∧ (belows 0 ds = true ∨ noLst d = true) ∧ Q d cs) (fun e c => c = [] ∧ (belows 0 ds = true ∨ noLsts e.ds = true) ∧ E e cs)) : WO (callV 0 fn ds cs) Q E := by
  unfold callV
  rw [hd, if_pos ⟨Nat.zero_le _, hb, by simp⟩, List.take_zero]
  cases q : fn ds' [] with
  | ok d c =>
    rw [q] at h
    obtain ⟨h1, h2, h3⟩ := wo_okI h
    subst h1
    show WO (if _ then Out.ok d ([] ++ cs.drop 0) else Out.no) _ _
    rw [if_pos ⟨rfl, h2.imp id fun h => ⟨h, rfl⟩⟩]
    exact wo_ok h3
  | ex e c =>
    rw [q] at h
    obtain ⟨h1, h2, h3⟩ := wo_exI h
    subst h1
    show WO (if _ then Out.ex e ([] ++ cs.drop 0) else Out.no) _ _
    rw [if_pos ⟨rfl, h2.imp id fun h => ⟨h, rfl⟩⟩]
    exact wo_ex h3
  | no => rw [q] at h; exact (wo_noI h).elim
end
/-- a comprehension with cells that change: I holds of the cells all the time, R d y tells what may be put in for d -/
theorem wo_eLc {Q : D → List Cell → Prop} {E : Exn → List Cell → Prop} {src : Ix} {g : Gt} {t : Tx} {f : Ex} {vs : List Nat} {env : List (Option D)} {cs c1 : List Cell} {ds : List D} (I : List Cell → Prop) (R : D → Option D → Prop) (hs : src ⟨env, cs⟩ = .ok (ds, keepAll) c1) (hi : I c1) (hI : ∀ cs, I cs → cs.length = c1.length ∧ cs.all (belowC c1.length) = true) (hl : ds.length < 16777216)
    (hR : ∀ d y, R d (some y) → below c1.length y = true)
    (ht : ∀ d ∈ ds, ∀ (cs : List Cell) (acc : List D), I cs → ∃ env1, g d ⟨wipeD env vs, cs ++ [.lst acc]⟩ = some ⟨env1, cs ++ [.lst acc]⟩ ∧
      WO (t ⟨env1, cs ++ [.lst acc]⟩) (fun b c => ∃ cs2, c = cs2 ++ [.lst acc] ∧ I cs2 ∧ (b = false → R d none) ∧ (b = true → WO (f ⟨env1, cs2 ++ [.lst acc]⟩) (fun y c => ∃ cs3, c = cs3 ++ [.lst acc] ∧ I cs3 ∧ R d (some y)) NoE)) NoE)
    (hq : ∀ ys cs', Picks R ds ys → I cs' → Q (.lst ys) cs') : WO (eLc src g t f vs ⟨env, cs⟩) Q E := by
  obtain ⟨ys, cs', e, i, p⟩ := eLc_eval (I := I) (R := R) (g := g) (t := t) (f := f) (vs := vs) hs hi (fun cs h => (hI cs h).1) hl (fun cs h => (hI cs h).2) hR (fun d hd cs acc hi => by
    obtain ⟨env1, e1, w⟩ := ht d hd cs acc hi
    obtain ⟨b, c, eb, cs2, ec, i2, h0, h1⟩ := w.ex
    subst ec
    exact ⟨env1, e1, b, cs2, eb, i2, h0, fun hb => by
      obtain ⟨y, c, ey, cs3, ec, i3, r⟩ := (h1 hb).ex
      subst ec
      exact ⟨y, cs3, ey, i3, r⟩⟩)
  exact wo_of e (hq ys cs' p i)
/-! ### walks -/
def lsO : D → Option (List D)
  | .lst ds => some ds
  | .frl ds => some ds
  | _ => none
section
variable {A : Walk → List Cell → Prop} {E : Exn → List Cell → Prop} {env : List (Option D)} {cs : List Cell} {fa : Ex} {ga : Ax}
theorem wo_iL (h : WO (fa ⟨env, cs⟩) (fun x c1 => Is some (lsO x) fun ds => A (ds, keepAll) c1) E) : WO (iL fa ⟨env, cs⟩) A E := wo_bind (wo_imp h (fun x _ ⟨ds, e, h⟩ => by
  cases x with
  | lst l => cases e; exact wo_ok h
  | frl l => cases e; exact wo_ok h
  | _ => cases e) fun _ _ h => h)
theorem wo_iT (h : WO (fa ⟨env, cs⟩) (fun x c1 => Is D.tup x fun ds => A (ds, keepAll) c1) E) : WO (iT fa ⟨env, cs⟩) A E := wo_bind (wo_imp h (fun x _ ⟨ds, e, h⟩ => by subst e; exact wo_ok h) fun _ _ h => h)
theorem wo_iSq (h : WO (fa ⟨env, cs⟩) (fun x c1 => WO (iSq (fun _ => .ok x c1) ⟨env, c1⟩) A E) E) : WO (iSq fa ⟨env, cs⟩) A E := wo_bind h
theorem wo_iEn (h : WO (ga ⟨env, cs⟩) (fun xs c1 => Is (fun ds => [D.lst ds]) xs fun ds => A (enumD ds, keepAll) c1) E) : WO (iEn ga ⟨env, cs⟩) A E := wo_bind (wo_imp h (fun x _ ⟨ds, e, h⟩ => by subst e; exact wo_ok h) fun _ _ h => h)
theorem in62 {j : Nat} (hj : j < 1000000) : (decide (-(2 ^ 62) ≤ (j : Int)) && decide ((j : Int) < 2 ^ 62)) = true := by
  rw [Bool.and_eq_true, decide_eq_true_eq, decide_eq_true_eq]
  constructor <;> omega
theorem iR1_int {st : S} {i : Int} (h : (decide (-(2 ^ 62) ≤ i) && decide (i < 2 ^ 62)) = true) {c1 : List Cell} : iR1 (fun _ => .ok [.int i] c1) st = .ok (rangeD 0 i.toNat, keepAll) c1 := if_pos h
theorem iR1_at {st : S} {j : Nat} (hj : j < 1000000) {c1 : List Cell} : iR1 (fun _ => .ok [.int j] c1) st = .ok (rangeD 0 j, keepAll) c1 := by
  rw [iR1_int (in62 hj), Int.toNat_natCast]
theorem wo_iR1 (h : WO (ga ⟨env, cs⟩) (fun xs c1 => ∃ (i : Int) (j : Nat), xs = [.int i] ∧ i = j ∧ j < 1000000 ∧ A (rangeD 0 j, keepAll) c1) E) : WO (iR1 ga ⟨env, cs⟩) A E := by
  cases q : ga ⟨env, cs⟩ with
  | ok xs c1 =>
    rw [q] at h
    obtain ⟨i, j, e, e2, hj, h'⟩ := wo_okI h
    subst e e2
    have : iR1 ga ⟨env, cs⟩ = iR1 (fun _ => .ok [.int j] c1) ⟨env, cs⟩ := by unfold iR1; rw [q]
    rw [this, iR1_at hj]
    exact wo_ok h'
  | ex e c1 =>
    rw [q] at h
    have : iR1 ga ⟨env, cs⟩ = .ex e c1 := by unfold iR1; rw [q]; rfl
    rw [this]
    exact wo_ex (wo_exI h)
  | no => rw [q] at h; exact (wo_noI h).elim
end
/-- the rest of a comprehension, behind its source -/
def lcAt (g : Gt) (t : Tx) (f : Ex) (vs : List Nat) (env : List (Option D)) (w : Walk) (c1 : List Cell) : Out D := eLc (fun _ => .ok w c1) g t f vs ⟨env, c1⟩
theorem wo_lc {Q : D → List Cell → Prop} {E : Exn → List Cell → Prop} {src : Ix} {g : Gt} {t : Tx} {f : Ex} {vs : List Nat} {env : List (Option D)} {cs : List Cell} (h : WO (src ⟨env, cs⟩) (fun w c1 => WO (lcAt g t f vs env w c1) Q E) E) : WO (eLc src g t f vs ⟨env, cs⟩) Q E := by
  unfold eLc
  exact wo_bind (wo_imp h (fun w c1 h => by unfold lcAt eLc at h; exact h) fun _ _ h => h)
theorem wo_lcAt {Q : D → List Cell → Prop} {E : Exn → List Cell → Prop} {g : Gt} {t : Tx} {f : Ex} {vs : List Nat} {env : List (Option D)} {c1 : List Cell} {ds : List D} (I : List Cell → Prop) (R : D → Option D → Prop) (hi : I c1) (hI : ∀ cs, I cs → cs.length = c1.length ∧ cs.all (belowC c1.length) = true) (hl : ds.length < 16777216)
    (hR : ∀ d y, R d (some y) → below c1.length y = true)
    (ht : ∀ d ∈ ds, ∀ (cs : List Cell) (acc : List D), I cs → ∃ env1, g d ⟨wipeD env vs, cs ++ [.lst acc]⟩ = some ⟨env1, cs ++ [.lst acc]⟩ ∧
      WO (t ⟨env1, cs ++ [.lst acc]⟩) (fun b c => ∃ cs2, c = cs2 ++ [.lst acc] ∧ I cs2 ∧ (b = false → R d none) ∧ (b = true → WO (f ⟨env1, cs2 ++ [.lst acc]⟩) (fun y c => ∃ cs3, c = cs3 ++ [.lst acc] ∧ I cs3 ∧ R d (some y)) NoE)) NoE)
    (hq : ∀ ys cs', Picks R ds ys → I cs' → Q (.lst ys) cs') : WO (lcAt g t f vs env (ds, keepAll) c1) Q E := wo_eLc I R rfl hi hI hl hR ht hq
/-- .. without a test -/
theorem picks_all {P : D → D → Prop} : ∀ {ds ys : List D}, Picks (fun d o => ∃ y, o = some y ∧ P d y) ds ys → ys.length = ds.length ∧ ∀ y ∈ ys, ∃ d ∈ ds, P d y
  | _, _, .nil => ⟨rfl, fun _ h => nomatch h⟩
  | _, _, .skip ⟨_, e, _⟩ _ => nomatch e
  | _, _, .take (y := y) (d := d) ⟨z, e, h⟩ p => by
    cases e
    obtain ⟨h1, h2⟩ := picks_all p
    refine ⟨congrArg (· + 1) h1, fun x hx => ?_⟩
    rcases List.mem_cons.mp hx with rfl | hx
    · exact ⟨d, List.mem_cons_self, h⟩
    · obtain ⟨d', m, h⟩ := h2 x hx
      exact ⟨d', List.mem_cons_of_mem _ m, h⟩
theorem wo_lcAll {Q : D → List Cell → Prop} {E : Exn → List Cell → Prop} {g : Gt} {f : Ex} {vs : List Nat} {env : List (Option D)} {c1 : List Cell} {ds : List D} (I : List Cell → Prop) (P : D → D → Prop) (hi : I c1) (hI : ∀ cs, I cs → cs.length = c1.length ∧ cs.all (belowC c1.length) = true) (hl : ds.length < 16777216)
    (hR : ∀ d y, P d y → below c1.length y = true)
    (ht : ∀ d ∈ ds, ∀ (cs : List Cell) (acc : List D), I cs → ∃ env1, g d ⟨wipeD env vs, cs ++ [.lst acc]⟩ = some ⟨env1, cs ++ [.lst acc]⟩ ∧ WO (f ⟨env1, cs ++ [.lst acc]⟩) (fun y c => ∃ cs3, c = cs3 ++ [.lst acc] ∧ I cs3 ∧ P d y) NoE)
    (hq : ∀ ys cs', ys.length = ds.length → (∀ y ∈ ys, ∃ d ∈ ds, P d y) → I cs' → Q (.lst ys) cs') : WO (lcAt g tTrue f vs env (ds, keepAll) c1) Q E :=
  wo_lcAt I (fun d o => ∃ y, o = some y ∧ P d y) hi hI hl (fun d y ⟨z, e, h⟩ => by cases e; exact hR d y h) (fun d hd cs acc hi => by
    obtain ⟨env1, e1, w⟩ := ht d hd cs acc hi
    exact ⟨env1, e1, wo_ok ⟨cs, rfl, hi, (fun h => nomatch h), fun _ => wo_imp w (fun y c ⟨cs3, e, i, p⟩ => ⟨cs3, e, i, y, rfl, p⟩) fun _ _ h => h⟩⟩) fun ys cs' p i => hq ys cs' (picks_all p).1 (picks_all p).2 i
theorem mem_cutD {xs : List D} {lo hi : Option Int} {d : D} (h : d ∈ cutD xs lo hi) : d ∈ xs := by
  unfold cutD at h
  exact List.mem_of_mem_drop (List.mem_of_mem_take h)
theorem len_cutD {xs : List D} {lo hi : Option Int} : (cutD xs lo hi).length ≤ xs.length := by
  unfold cutD
  rw [List.length_take, List.length_drop]
  omega
theorem wo_tTrue {T : Bool → List Cell → Prop} {E : Exn → List Cell → Prop} {env : List (Option D)} {cs : List Cell} (h : T true cs) : WO (tTrue ⟨env, cs⟩) T E := wo_ok h
end VL

/-! VLV: more rules of the plain reckoning: comprehensions that change nothing, new instances, methods, == -/
namespace VL
open PySem L2
section
variable {α : Type} {g : Gt} {t : Tx} {f : Ex} {vs : List Nat} {env : List (Option D)} {c1 : List Cell} {xs : List α} {fD : α → D} {Q : D → List Cell → Prop} {E : Exn → List Cell → Prop}
def Turn (g : Gt) (t : Tx) (f : Ex) (vs : List Nat) (env : List (Option D)) (c1 : List Cell) (d : D) (q : Bool) (h : D) : Prop :=
  ∀ acc, ∃ env1, g d ⟨wipeD env vs, c1 ++ [.lst acc]⟩ = some ⟨env1, c1 ++ [.lst acc]⟩ ∧ t ⟨env1, c1 ++ [.lst acc]⟩ = .ok q (c1 ++ [.lst acc]) ∧ (q = true → f ⟨env1, c1 ++ [.lst acc]⟩ = .ok h (c1 ++ [.lst acc]))
theorem wo_lcMap (q : α → Bool) (h : α → D) (hl : xs.length < 16777216) (hb : c1.all (belowC c1.length) = true) (hh : ∀ x ∈ xs, q x = true → below c1.length (h x) = true)
    (ht : ∀ x ∈ xs, Turn g t f vs env c1 (fD x) (q x) (h x)) (hQ : Q (.lst ((xs.filter q).map h)) c1) : WO (lcAt g t f vs env (xs.map fD, keepAll) c1) Q E :=
  wo_of (ev_eLc q h rfl (fun _ => rfl) hl hb hh fun x hx acc _ => ht x hx acc) hQ
theorem wo_lcMapT (h : α → D) (hl : xs.length < 16777216) (hb : c1.all (belowC c1.length) = true) (hh : ∀ x ∈ xs, below c1.length (h x) = true)
    (ht : ∀ x ∈ xs, Turn g tTrue f vs env c1 (fD x) true (h x)) (hQ : Q (.lst (xs.map h)) c1) : WO (lcAt g tTrue f vs env (xs.map fD, keepAll) c1) Q E :=
  wo_lcMap (fun _ => true) h hl hb (fun x hx _ => hh x hx) ht (by rw [List.filter_eq_self.mpr fun _ _ => rfl]; exact hQ)
/-- the same, into an own list -/
theorem lcL_map {kp : List Cell → Bool} (hk : ∀ acc, kp (c1 ++ [.lst acc]) = true) (h : α → D) : ∀ (es : List α) (acc : List D), (∀ x ∈ es, Turn g tTrue f vs env c1 (fD x) true (h x)) → acc.length + es.length < 16777216 → lcL g tTrue f kp (wipeD env vs) c1.length (es.map fD) (c1 ++ [.lst acc]) = some (c1 ++ [.lst (acc ++ es.map h)])
  | [], acc, _, _ => by simp [lcL, hk]
  | d :: es, acc, ht, hz => by
    have hz' : acc.length + es.length + 1 < 16777216 := by simpa [Nat.add_assoc] using hz
    obtain ⟨env1, e1, e2, e3⟩ := ht d List.mem_cons_self acc
    have g1 : (c1 ++ [Cell.lst acc])[c1.length]? = some (.lst acc) := by
      rw [List.getElem?_append_right (Nat.le_refl _), Nat.sub_self]; rfl
    have g2 : (c1 ++ [Cell.lst acc]).set c1.length (.lst (acc ++ [h d])) = c1 ++ [.lst (acc ++ [h d])] := by
      rw [List.set_append_right _ _ (Nat.le_refl _), Nat.sub_self]; rfl
    rw [List.map_cons]
    unfold lcL
    simp only [hk, if_true, e1, e2, e3 rfl, g1, g2]
    rw [if_pos (by omega), lcL_map hk h es (acc ++ [h d]) (fun x hx => ht x (List.mem_cons_of_mem _ hx)) (by simp; omega)]
    simp
theorem wo_lcLoc {src : Ix} {cs : List Cell} {kp : List Cell → Bool} (h : α → D) (hs : src ⟨env, cs⟩ = .ok (xs.map fD, kp) c1) (hk : ∀ acc, kp (c1 ++ [.lst acc]) = true) (hl : xs.length < 16777216)
    (ht : ∀ x ∈ xs, Turn g tTrue f vs env c1 (fD x) true (h x)) (hQ : Q (.loc c1.length) (c1 ++ [.lst (xs.map h)])) : WO (eLcLoc src g tTrue f vs ⟨env, cs⟩) Q E := by
  unfold eLcLoc
  rw [hs]
  have e := lcL_map (g := g) (f := f) (vs := vs) (env := env) (c1 := c1) (fD := fD) hk h xs [] ht (by simpa using hl)
  show WO (match lcL g tTrue f kp (wipeD env vs) c1.length (xs.map fD) (c1 ++ [.lst []]) with
    | some c2 => _
    | none => _) _ _
  rw [e]
  exact wo_ok hQ
end
theorem strsOf_map : ∀ (l : List Str), strsOf (l.map D.str) = some l
  | [] => rfl
  | x :: l => by
    show (strsOf (l.map D.str)).map (x :: ·) = _
    rw [strsOf_map l]
    rfl
theorem boolsOf_map {α : Type} (f : α → Bool) : ∀ (l : List α), boolsOf (l.map fun x => D.bl (f x)) = some (l.map f)
  | [] => rfl
  | x :: l => by
    show (boolsOf (l.map fun x => D.bl (f x))).map (f x :: ·) = _
    rw [boolsOf_map f l]
    rfl
theorem belows_str {n : Nat} : ∀ {l : List Str}, belows n (l.map D.str) = true
  | [] => rfl
  | x :: l => by
    show (below n (.str x) && belows n (l.map D.str)) = true
    rw [belows_str]
    rfl
theorem noLsts_str : ∀ {l : List Str}, noLsts (l.map D.str) = true
  | [] => rfl
  | x :: l => by
    show (noLst (.str x) && noLsts (l.map D.str)) = true
    rw [noLsts_str]
    rfl
/-! ### == -/
theorem eqSame {neg : Bool} {cs : List Cell} {d e : D} (h : norm cs d = norm cs e) (hp : VL.plain (norm cs d) = true) (hs : SeqAt.shaped (py (norm cs d)) = true) : gEqB neg cs d e = .ok (.bl (!neg)) cs := by
  unfold gEqB
  simp only [← h, hp, hs, Bool.and_self, if_true]
  rw [SeqAt.eqv_refl _ (SeqAt.canLay_of_shaped hs)]
  cases neg <;> rfl
theorem eq_str {neg : Bool} {cs : List Cell} {a b : Str} (ha : PyData.strOk a = true) (hb : PyData.strOk b = true) : gEqB neg cs (.str a) (.str b) = .ok (.bl (if neg then !(a == b) else a == b)) cs := by
  simp [gEqB, norm, VL.plain, py, SeqAt.shaped, PyData.canLay0, PyData.depth, PyData.eqv, ha, hb]
theorem eq_strR {neg : Bool} {cs : List Cell} {a : Str} (ha : PyData.strOk a = true) : gEqB neg cs (.str a) (.str a) = .ok (.bl (!neg)) cs :=
  eqSame rfl (by simp [norm, VL.plain]) (by simp [norm, py, SeqAt.shaped, PyData.canLay0, PyData.depth, ha])
theorem eq_intR {neg : Bool} {cs : List Cell} {a : Int} : gEqB neg cs (.int a) (.int a) = .ok (.bl (!neg)) cs :=
  eqSame rfl (by simp [norm, VL.plain]) (by simp [norm, py, SeqAt.shaped, PyData.canLay0, PyData.depth])
theorem plains_str : ∀ {l : List Str}, plains (l.map D.str) = true
  | [] => by simp [plains]
  | x :: l => by
    rw [List.map_cons]
    simp only [plains, VL.plain, plains_str, Bool.and_self]
theorem lay_str : ∀ {l : List Str}, (∀ x ∈ l, PyData.strOk x = true) → PyData.canLayAll0 (pys (l.map D.str)) = true ∧ PyData.depthAll (pys (l.map D.str)) = 0
  | [], _ => by simp [pys, PyData.canLayAll0, PyData.depthAll]
  | x :: l, h => by
    have ih := lay_str (l := l) fun x hx => h x (List.mem_cons_of_mem _ hx)
    rw [List.map_cons]
    simp [pys, py, PyData.canLayAll0, PyData.canLay0, PyData.depthAll, PyData.depth, ih.1, ih.2, h x List.mem_cons_self]
theorem eq_strs {neg : Bool} {cs : List Cell} {l : List Str} (h : ∀ x ∈ l, PyData.strOk x = true) : gEqB neg cs (.tup (l.map D.str)) (.tup (l.map D.str)) = .ok (.bl (!neg)) cs := by
  refine eqSame rfl ?_ ?_
  · show VL.plain (.tup (l.map D.str)) = true
    simp [VL.plain, plains_str]
  · show SeqAt.shaped (py (.tup (l.map D.str))) = true
    simp [SeqAt.shaped, py, PyData.canLay0, PyData.depth, (lay_str h).1, (lay_str h).2]
theorem strOk_app {x y : Str} (hx : PyData.strOk x = true) (hy : PyData.strOk y = true) : PyData.strOk (x ++ y) = true := by
  unfold PyData.strOk at *
  show (x.cps ++ y.cps).all _ = true
  rw [Array.all_append, hx, hy]
  rfl
theorem strOk_join {z : Str} (hz : PyData.strOk z = true) : ∀ {ts : List Str}, (∀ t ∈ ts, PyData.strOk t = true) → PyData.strOk (Str.join z ts) = true
  | [], _ => by
    show PyData.strOk Str.empty = true
    decide +kernel
  | [t], h => h t List.mem_cons_self
  | t :: u :: ts, h => strOk_app (strOk_app (h t List.mem_cons_self) hz) (strOk_join hz fun x hx => h x (List.mem_cons_of_mem _ hx))
/-! ### own methods -/
section
variable {Q : D → List Cell → Prop} {E : Exn → List Cell → Prop} {cs : List Cell} {cn : Nat} {fn : Fn} {ks : List Str} {ds : List D} {y : D}
theorem wo_cmpO {neg : Bool} (hb : beside cn y = true) (h : WO (callV 0 fn [.obj cn ks ds, y] cs) (fun d c => ∃ b, d = .bl b ∧ Q (.bl (if neg then !b else b)) c) E) : WO (gCmpO neg cn fn cs (.obj cn ks ds) y) Q E := by
  show WO (if cn = cn ∧ beside cn y = true then _ else _) _ _
  rw [if_pos ⟨rfl, hb⟩]
  exact wo_bind (wo_imp h (fun _ _ ⟨b, e, h⟩ => by subst e; exact wo_ok h) fun _ _ h => h)
theorem wo_strO (h : WO (callV 0 fn [.obj cn ks ds] cs) (fun d c => ∃ z, d = .str z ∧ Q (.str z) c) E) : WO (hStrO cn fn cs [.obj cn ks ds]) Q E := by
  show WO (if cn = cn then _ else _) _ _
  rw [if_pos rfl]
  exact wo_bind (wo_imp h (fun _ _ ⟨b, e, h⟩ => by subst e; exact wo_ok h) fun _ _ h => h)
theorem wo_lenO (h : WO (callV 0 fn [.obj cn ks ds] cs) (fun d c => ∃ n : Nat, d = .int n ∧ n ≤ 16777216 ∧ Q (.int n) c) E) : WO (hLenO cn fn cs [.obj cn ks ds]) Q E := by
  show WO (if cn = cn then _ else _) _ _
  rw [if_pos rfl]
  refine wo_bind (wo_imp h (fun _ _ ⟨n, e, hn, h⟩ => ?_) fun _ _ h => h)
  subst e
  show WO (if _ then _ else _) _ _
  rw [if_pos ⟨by omega, by omega⟩]
  exact wo_ok h
theorem wo_eqT {ys : List D} (h : WO (callV 0 fn [.obj cn ks ds, .tup ys] cs) (fun d c => ∃ b, d = .bl b ∧ Q (.bl b) c) E) : WO (gEqT cn fn cs (.obj cn ks ds) (.tup ys)) Q E := by
  show WO (if cn = cn then _ else _) _ _
  rw [if_pos rfl]
  exact wo_bind (wo_imp h (fun _ _ ⟨b, e, h⟩ => by subst e; exact wo_ok h) fun _ _ h => h)
/-! ### new instances -/
def Low (cs : List Cell) : Prop := ∀ k, cs.length ≤ k → cs.all (belowC k) = true
theorem Low.all {cs : List Cell} (h : Low cs) : cs.all (belowC cs.length) = true := h _ (Nat.le_refl _)
theorem Low.snoc {cs : List Cell} (h : Low cs) {c : Cell} (hc : ∀ k, cs.length < k → belowC k c = true) : Low (cs ++ [c]) := fun k hk => by
  rw [List.length_append] at hk
  have hk : cs.length + 1 ≤ k := hk
  rw [List.all_append, h k (by omega)]
  show (true && (belowC k c && true)) = true
  rw [hc k (by omega)]
  rfl
theorem wo_make {args : List D} (hc : Low cs) (h : WO (fn (.loc cs.length :: args) (cs ++ [.ins cn [] []])) (fun d c => d = .non ∧ ∃ ks es, c = cs ++ [.ins cn ks es] ∧ belows cs.length es = true ∧ Q (.obj cn ks es) cs) (fun e c => belows cs.length e.ds = true ∧ (∃ x, c = cs ++ [x]) ∧ E e cs)) : WO (makeD cn fn args cs) Q E := by
  unfold makeD
  cases q : fn (.loc cs.length :: args) (cs ++ [.ins cn [] []]) with
  | ok d c =>
    rw [q] at h
    obtain ⟨rfl, ks, es, rfl, hb, h⟩ := wo_okI h
    have e : lastIns (cs ++ [.ins cn ks es]) = some (cs, cn, ks, es) := by
      unfold lastIns
      rw [List.reverse_append]
      simp
    simp only [e]
    rw [if_pos ⟨trivial, trivial, hb, hc.all⟩]
    exact wo_ok h
  | ex e c =>
    rw [q] at h
    obtain ⟨hb, ⟨x, rfl⟩, h'⟩ := wo_exI h
    have e1 : (cs ++ [x]).take cs.length = cs := by simp
    simp only [e1]
    rw [if_pos ⟨hb, hc.all, by simp⟩]
    exact wo_ex h'
  | no => rw [q] at h; exact (wo_noI h).elim
theorem ws_fldAt {env : List (Option D)} {f : Str} {v : D} {P : SOut → Prop} {n : Nat} (hn : n = cs.length) (hk : ks.length < 1000) (h : WS (.nx ⟨env, cs ++ [.ins cn (putD f v ks ds).1 (putD f v ks ds).2]⟩) P) : WS (setFld cn f (.loc n) v ⟨env, cs ++ [.ins cn ks ds]⟩) P := by
  subst hn
  have g1 : (cs ++ [Cell.ins cn ks ds])[cs.length]? = some (.ins cn ks ds) := by
    rw [List.getElem?_append_right (Nat.le_refl _), Nat.sub_self]; rfl
  have g2 : ∀ c : Cell, (cs ++ [Cell.ins cn ks ds]).set cs.length c = cs ++ [c] := fun c => by
    rw [List.set_append_right _ _ (Nat.le_refl _), Nat.sub_self]; rfl
  unfold setFld
  simp only [g1, g2]
  rw [if_pos ⟨trivial, hk⟩]
  exact h
theorem wo_makeL {env : List (Option D)} {i : Nat} {g : Ax} (he : env[i]? = some (some (.cls cn))) (h : WO (g ⟨env, cs⟩) (fun xs c1 => WO (makeD cn fn xs c1) Q E) E) : WO (eMakeL i cn fn g ⟨env, cs⟩) Q E := by
  unfold eMakeL
  simp only [he, if_true]
  exact wo_bind h
theorem wo_sortSet {env : List (Option D)} {fa : Ex} (h : WO (fa ⟨env, cs⟩) (fun x c1 => ∃ ys : List Str, x = .lst (ys.map D.str) ∧ ys.length < 64 ∧ Q (.lst ((sortSet ys).map .str)) c1) E) : WO (eSortSet fa ⟨env, cs⟩) Q E :=
  wo_bind (wo_imp h (fun _ _ ⟨ys, e, hl, h⟩ => by
    subst e
    show WO (match strsOf (ys.map D.str) with | some ys => _ | none => _) _ _
    rw [strsOf_map]
    show WO (if _ then _ else _) _ _
    rw [if_pos hl]
    exact wo_ok h) fun _ _ h => h)
theorem wo_sortSc {env : List (Option D)} {i : Nat} {fa : Ex} (hi : i < env.length) (h : WO (fa ⟨env, cs⟩) (fun x c1 => ∃ ys : List Str, x = .lst (ys.map D.str) ∧ ys.length < 64 ∧ Q (.lst ((sortSet ys).map .str)) c1) E) : WO (eSortSc i fa ⟨env, cs⟩) Q E :=
  wo_bind (wo_imp h (fun _ _ ⟨ys, e, hl, h⟩ => by
    subst e
    show WO (if i < env.length then (match strsOf (ys.map D.str) with | some ys => _ | none => _) else _) _ _
    rw [if_pos hi, strsOf_map]
    show WO (if _ then _ else _) _ _
    rw [if_pos hl]
    exact wo_ok h) fun _ _ h => h)
theorem wo_join {z : Str} {ys : List Str} {d : D} (hd : seqOf cs d = some (ys.map D.str)) (hj : joinOk z ys = true) (h : Q (.str (Txt.join z ys)) cs) : WO (gJoin z cs d) Q E := by
  unfold gJoin
  rw [hd]
  show WO (match strsOf (ys.map D.str) with | some ys => _ | none => _) _ _
  rw [strsOf_map]
  show WO (if _ then _ else _) _ _
  rw [if_pos hj]
  exact wo_ok h
theorem wo_append {env : List (Option D)} {fo f : Ex} (h : WO (fo ⟨env, cs⟩) (fun x c1 => ∃ n, x = .loc n ∧ (∃ ds, c1[n]? = some (.lst ds)) ∧ WO (f ⟨env, c1⟩) (fun v c2 => ∃ ds, c2[n]? = some (.lst ds) ∧ ds.length < 16777216 ∧ Q .non (c2.set n (.lst (ds ++ [v])))) E) E) : WO (eAppend fo f ⟨env, cs⟩) Q E := by
  unfold eAppend
  refine wo_bind (wo_imp h (fun x c1 ⟨n, e, ⟨ds0, e0⟩, h⟩ => ?_) fun _ _ h => h)
  subst e
  simp only [e0]
  refine wo_bind (wo_imp h (fun v c2 ⟨ds, e1, hl, h⟩ => ?_) fun _ _ h => h)
  simp only [e1]
  rw [if_pos hl]
  exact wo_ok h
theorem wo_tChn {env : List (Option D)} {g1 g2 : F2} {fa fb fc : Ex} {T : Bool → List Cell → Prop} (h : WO (fa ⟨env, cs⟩) (fun x c1 => WO (fb ⟨env, c1⟩) (fun y c2 => WO (g1 c2 x y) (fun d c3 => ∃ k, d = .bl k ∧ WO (if k then (fc ⟨env, c3⟩).bind (fun z c4 => (g2 c4 y z).bind fun d' c5 => (match d' with | .bl k => Out.ok k c5 | _ => .no)) else .ok false c3) T E) E) E) E) : WO (tChn g1 g2 fa fb fc ⟨env, cs⟩) T E :=
  wo_bind (wo_imp h (fun _ _ h => wo_bind (wo_imp h (fun _ _ h => wo_bind (wo_imp h (fun _ _ ⟨k, e, h⟩ => by subst e; cases k <;> exact h) fun _ _ h => h)) fun _ _ h => h)) fun _ _ h => h)
end
end VL

namespace K05
open PySem L2 PyProof.Rows VL
def topS (i : Nat) : Stmt := PySem.Challenge.pw_plainroads_k05_houses_refused.main.body.getD i (.Pass ⟨0, 0, 0, 0⟩)
abbrev s_is_integer : Stmt := topS 16
abbrev n_is_integer : List Str := ["value"]
theorem sc_is_integer : FnScope n_is_integer ["value"] (defScope s_is_integer) := ⟨rfl, rfl, rfl, by decide +kernel, rfl, by decide +kernel, by decide +kernel⟩
abbrev s_is_number : Stmt := topS 17
abbrev n_is_number : List Str := ["value"]
theorem sc_is_number : FnScope n_is_number ["value"] (defScope s_is_number) := ⟨rfl, rfl, rfl, by decide +kernel, rfl, by decide +kernel, by decide +kernel⟩
abbrev s_is_sequence : Stmt := topS 18
abbrev n_is_sequence : List Str := ["value"]
theorem sc_is_sequence : FnScope n_is_sequence ["value"] (defScope s_is_sequence) := ⟨rfl, rfl, rfl, by decide +kernel, rfl, by decide +kernel, by decide +kernel⟩
abbrev s_is_tuple_of : Stmt := topS 19
abbrev n_is_tuple_of : List Str := ["value", "size"]
theorem sc_is_tuple_of : FnScope n_is_tuple_of ["value", "size"] (defScope s_is_tuple_of) := ⟨rfl, rfl, rfl, by decide +kernel, rfl, by decide +kernel, by decide +kernel⟩
abbrev s_is_name : Stmt := topS 20
abbrev n_is_name : List Str := ["value", "sign"]
theorem sc_is_name : FnScope n_is_name ["value"] (defScope s_is_name) := ⟨rfl, rfl, rfl, by decide +kernel, rfl, by decide +kernel, by decide +kernel⟩
abbrev s_number_in : Stmt := topS 21
abbrev n_number_in : List Str := ["word", "most", "sign"]
theorem sc_number_in : FnScope n_number_in ["word", "most"] (defScope s_number_in) := ⟨rfl, rfl, rfl, by decide +kernel, rfl, by decide +kernel, by decide +kernel⟩
abbrev s_are_unlike : Stmt := topS 22
abbrev n_are_unlike : List Str := ["things", "at", "thing"]
theorem sc_are_unlike : FnScope n_are_unlike ["things"] (defScope s_are_unlike) := ⟨rfl, rfl, rfl, by decide +kernel, rfl, by decide +kernel, by decide +kernel⟩
abbrev s_is_lot_of : Stmt := topS 23
abbrev n_is_lot_of : List Str := ["value", "words", "one"]
theorem sc_is_lot_of : FnScope n_is_lot_of ["value", "words"] (defScope s_is_lot_of) := ⟨rfl, rfl, rfl, by decide +kernel, rfl, by decide +kernel, by decide +kernel⟩
abbrev s_part_in : Stmt := topS 25
abbrev n_part_in : List Str := ["word", "number"]
theorem sc_part_in : FnScope n_part_in ["word"] (defScope s_part_in) := ⟨rfl, rfl, rfl, by decide +kernel, rfl, by decide +kernel, by decide +kernel⟩
abbrev s_term_in : Stmt := topS 26
abbrev n_term_in : List Str := ["words", "told", "word"]
theorem sc_term_in : FnScope n_term_in ["words"] (defScope s_term_in) := ⟨rfl, rfl, rfl, by decide +kernel, rfl, by decide +kernel, by decide +kernel⟩
abbrev s_with_cell_in : Stmt := topS 29
abbrev n_with_cell_in : List Str := ["words", "parts", "value"]
theorem sc_with_cell_in : FnScope n_with_cell_in ["words"] (defScope s_with_cell_in) := ⟨rfl, rfl, rfl, by decide +kernel, rfl, by decide +kernel, by decide +kernel⟩
abbrev s_test_in : Stmt := topS 30
abbrev n_test_in : List Str := ["words", "value", "line"]
theorem sc_test_in : FnScope n_test_in ["words"] (defScope s_test_in) := ⟨rfl, rfl, rfl, by decide +kernel, rfl, by decide +kernel, by decide +kernel⟩
abbrev s_term_line_in : Stmt := topS 31
abbrev n_term_line_in : List Str := ["words", "parts"]
theorem sc_term_line_in : FnScope n_term_line_in ["words"] (defScope s_term_line_in) := ⟨rfl, rfl, rfl, by decide +kernel, rfl, by decide +kernel, by decide +kernel⟩
abbrev s_word_line_in : Stmt := topS 32
abbrev n_word_line_in : List Str := ["words"]
theorem sc_word_line_in : FnScope n_word_line_in ["words"] (defScope s_word_line_in) := ⟨rfl, rfl, rfl, by decide +kernel, rfl, by decide +kernel, by decide +kernel⟩
abbrev s_step_in : Stmt := topS 33
abbrev n_step_in : List Str := ["line", "words"]
theorem sc_step_in : FnScope n_step_in ["line"] (defScope s_step_in) := ⟨rfl, rfl, rfl, by decide +kernel, rfl, by decide +kernel, by decide +kernel⟩
abbrev s_steps_in : Stmt := topS 34
abbrev n_steps_in : List Str := ["value", "steps", "line", "step"]
theorem sc_steps_in : FnScope n_steps_in ["value"] (defScope s_steps_in) := ⟨rfl, rfl, rfl, by decide +kernel, rfl, by decide +kernel, by decide +kernel⟩
abbrev s_lot_of : Stmt := topS 35
abbrev n_lot_of : List Str := ["things", "thing"]
theorem sc_lot_of : FnScope n_lot_of ["things"] (defScope s_lot_of) := ⟨rfl, rfl, rfl, by decide +kernel, rfl, by decide +kernel, by decide +kernel⟩
abbrev s_pinit : Stmt := inClass (topS 36) 0
abbrev n_pinit : List Str := ["self", "name", "lines", "steps", "step"]
theorem sc_pinit : FnScope n_pinit ["self", "name", "lines"] (defScope s_pinit) := ⟨rfl, rfl, rfl, by decide +kernel, rfl, by decide +kernel, by decide +kernel⟩
abbrev s_is_lot : Stmt := topS 43
abbrev n_is_lot : List Str := ["value", "word"]
theorem sc_is_lot : FnScope n_is_lot ["value"] (defScope s_is_lot) := ⟨rfl, rfl, rfl, by decide +kernel, rfl, by decide +kernel, by decide +kernel⟩
abbrev s_rinit : Stmt := inClass (topS 45) 0
abbrev n_rinit : List Str := ["self", "sees", "looks", "takes", "word"]
theorem sc_rinit : FnScope n_rinit ["self", "sees", "looks", "takes"] (defScope s_rinit) := ⟨rfl, rfl, rfl, by decide +kernel, rfl, by decide +kernel, by decide +kernel⟩
abbrev s_tinit : Stmt := inClass (topS 48) 0
abbrev n_tinit : List Str := ["self", "ranked", "lent", "fair"]
theorem sc_tinit : FnScope n_tinit ["self", "ranked", "lent", "fair"] (defScope s_tinit) := ⟨rfl, rfl, rfl, by decide +kernel, rfl, by decide +kernel, by decide +kernel⟩
abbrev s_are_cells : Stmt := topS 54
abbrev n_are_cells : List Str := ["value", "one", "name", "size"]
theorem sc_are_cells : FnScope n_are_cells ["value"] (defScope s_are_cells) := ⟨rfl, rfl, rfl, by decide +kernel, rfl, by decide +kernel, by decide +kernel⟩
abbrev s_goes_with : Stmt := topS 55
abbrev n_goes_with : List Str := ["program", "sizes", "cell", "step"]
theorem sc_goes_with : FnScope n_goes_with ["program", "sizes"] (defScope s_goes_with) := ⟨rfl, rfl, rfl, by decide +kernel, rfl, by decide +kernel, by decide +kernel⟩
abbrev s_are_programs : Stmt := topS 56
abbrev n_are_programs : List Str := ["value", "cells", "one"]
theorem sc_are_programs : FnScope n_are_programs ["value", "cells"] (defScope s_are_programs) := ⟨rfl, rfl, rfl, by decide +kernel, rfl, by decide +kernel, by decide +kernel⟩
abbrev s_hinit : Stmt := inClass (topS 57) 0
abbrev n_hinit : List Str := ["self", "cells", "programs", "rule", "log", "tells", "turns", "at", "cell", "size", "one"]
theorem sc_hinit : FnScope n_hinit ["self", "cells", "programs", "rule", "log", "tells", "turns"] (defScope s_hinit) := ⟨rfl, rfl, rfl, by decide +kernel, rfl, by decide +kernel, by decide +kernel⟩
abbrev s_wprog : Stmt := inClass (topS 57) 4
abbrev n_wprog : List Str := ["self", "program", "some", "one"]
theorem sc_wprog : FnScope n_wprog ["self", "program"] (defScope s_wprog) := ⟨rfl, rfl, rfl, by decide +kernel, rfl, by decide +kernel, by decide +kernel⟩
abbrev s_wrule : Stmt := inClass (topS 57) 5
abbrev n_wrule : List Str := ["self", "rule"]
theorem sc_wrule : FnScope n_wrule ["self", "rule"] (defScope s_wrule) := ⟨rfl, rfl, rfl, by decide +kernel, rfl, by decide +kernel, by decide +kernel⟩
abbrev s_wlog : Stmt := inClass (topS 57) 6
abbrev n_wlog : List Str := ["self", "log"]
theorem sc_wlog : FnScope n_wlog ["self", "log"] (defScope s_wlog) := ⟨rfl, rfl, rfl, by decide +kernel, rfl, by decide +kernel, by decide +kernel⟩
abbrev s_wtells : Stmt := inClass (topS 57) 7
abbrev n_wtells : List Str := ["self", "tells"]
theorem sc_wtells : FnScope n_wtells ["self", "tells"] (defScope s_wtells) := ⟨rfl, rfl, rfl, by decide +kernel, rfl, by decide +kernel, by decide +kernel⟩
abbrev s_wturns : Stmt := inClass (topS 57) 8
abbrev n_wturns : List Str := ["self", "turns"]
theorem sc_wturns : FnScope n_wturns ["self", "turns"] (defScope s_wturns) := ⟨rfl, rfl, rfl, by decide +kernel, rfl, by decide +kernel, by decide +kernel⟩
abbrev s_deal : Stmt := topS 68
abbrev n_deal : List Str := ["_law_script", "_law_base", "_law_stirred", "_law_cells", "_law_cell"]
theorem sc_deal : FnScope n_deal ["_law_script", "_law_base"] (defScope s_deal) := ⟨rfl, rfl, rfl, by decide +kernel, rfl, by decide +kernel, by decide +kernel⟩
abbrev s_draw : Stmt := topS 69
abbrev n_draw : List Str := ["_law_deal_here", "_law_bound", "_law_rest"]
theorem sc_draw : FnScope n_draw ["_law_deal_here", "_law_bound"] (defScope s_draw) := ⟨rfl, rfl, rfl, by decide +kernel, rfl, by decide +kernel, by decide +kernel⟩
abbrev s_pick : Stmt := topS 70
abbrev n_pick : List Str := ["_law_deal_here", "_law_some"]
theorem sc_pick : FnScope n_pick ["_law_deal_here", "_law_some"] (defScope s_pick) := ⟨rfl, rfl, rfl, by decide +kernel, rfl, by decide +kernel, by decide +kernel⟩
abbrev s_thing : Stmt := topS 72
abbrev n_thing : List Str := ["_law_deal_here", "_law_deep", "_law_some", "_law_inner", "_law_turn"]
theorem sc_thing : FnScope n_thing ["_law_deal_here", "_law_deep"] (defScope s_thing) := ⟨rfl, rfl, rfl, by decide +kernel, rfl, by decide +kernel, by decide +kernel⟩
abbrev s_heard : Stmt := topS 73
abbrev n_heard : List Str := ["_law_work_here", "_law_found", "e"]
theorem sc_heard : FnScope n_heard ["_law_work_here"] (defScope s_heard) := ⟨rfl, rfl, rfl, by decide +kernel, rfl, by decide +kernel, by decide +kernel⟩
abbrev s_bad : Stmt := topS 74
abbrev n_bad : List Str := ["_law_deal_here", "_law_spot", "_law_odd", "_law_some", "_law_one"]
theorem sc_bad : FnScope n_bad ["_law_deal_here", "_law_spot"] (defScope s_bad) := ⟨rfl, rfl, rfl, by decide +kernel, rfl, by decide +kernel, by decide +kernel⟩
abbrev s_made : Stmt := topS 75
abbrev n_made : List Str := ["_law_parts"]
theorem sc_made : FnScope n_made ["_law_parts"] (defScope s_made) := ⟨rfl, rfl, rfl, by decide +kernel, rfl, by decide +kernel, by decide +kernel⟩
abbrev s_law : Stmt := topS 76
abbrev n_law : List Str := ["_law_script", "_law_deal_here", "_law_titles", "_law_turn", "_law_good", "_law_whole", "_law_wrong", "_law_spot", "_law_bad_here"]
theorem sc_law : FnScope n_law ["_law_script"] (defScope s_law) := ⟨rfl, rfl, rfl, by decide +kernel, rfl, by decide +kernel, by decide +kernel⟩
def PhiN (K : Kt) (fd : FuncData) : Prop := PhiK K ["word", "most"] ["most"] [0] fd ∧ Phi0 K ["word", "most"] [.int 4] fd
def PhiR (K : Kt) (fd : FuncData) : Prop := Phi0 K ["self", "sees", "looks", "takes"] [.tup [], .tup []] fd
def PhiT (K : Kt) (fd : FuncData) : Prop := Phi0 K ["self", "ranked", "lent", "fair"] [.bl false, .bl false, .non] fd
def ct_InvalidProgram : Nat → Option Bool := fun C => if C = 4 then some true else if C = 5 then some false else if C = 6 then some false else if C = 7 then some false else none
theorem catch_InvalidProgram {K : Kt} {c : Value} (e_InvalidProgram : PySem.W.exmOne K.K (.ref (K.κ 4)) c = some true) (e_InvalidHouse : PySem.W.exmOne K.K (.ref (K.κ 5)) c = some false) (e_InvalidRule : PySem.W.exmOne K.K (.ref (K.κ 6)) c = some false) (e_InvalidTurns : PySem.W.exmOne K.K (.ref (K.κ 7)) c = some false) : Catch K c ct_InvalidProgram := by
  intro C b h
  unfold ct_InvalidProgram at h
  split at h
  · rename_i e; cases h; subst e; exact e_InvalidProgram
  ·
    split at h
    · rename_i e; cases h; subst e; exact e_InvalidHouse
    ·
      split at h
      · rename_i e; cases h; subst e; exact e_InvalidRule
      ·
        split at h
        · rename_i e; cases h; subst e; exact e_InvalidTurns
        ·
          cases h
theorem only_InvalidProgram : ∀ C, ct_InvalidProgram C = some true → C = 4 := by
  intro C h
  unfold ct_InvalidProgram at h
  split at h
  · assumption
  · repeat (first | (split at h; · cases h) | cases h)
def ct_InvalidHouse : Nat → Option Bool := fun C => if C = 5 then some true else if C = 4 then some false else if C = 6 then some false else if C = 7 then some false else none
theorem catch_InvalidHouse {K : Kt} {c : Value} (e_InvalidHouse : PySem.W.exmOne K.K (.ref (K.κ 5)) c = some true) (e_InvalidProgram : PySem.W.exmOne K.K (.ref (K.κ 4)) c = some false) (e_InvalidRule : PySem.W.exmOne K.K (.ref (K.κ 6)) c = some false) (e_InvalidTurns : PySem.W.exmOne K.K (.ref (K.κ 7)) c = some false) : Catch K c ct_InvalidHouse := by
  intro C b h
  unfold ct_InvalidHouse at h
  split at h
  · rename_i e; cases h; subst e; exact e_InvalidHouse
  ·
    split at h
    · rename_i e; cases h; subst e; exact e_InvalidProgram
    ·
      split at h
      · rename_i e; cases h; subst e; exact e_InvalidRule
      ·
        split at h
        · rename_i e; cases h; subst e; exact e_InvalidTurns
        ·
          cases h
theorem only_InvalidHouse : ∀ C, ct_InvalidHouse C = some true → C = 5 := by
  intro C h
  unfold ct_InvalidHouse at h
  split at h
  · assumption
  · repeat (first | (split at h; · cases h) | cases h)
def ct_InvalidRule : Nat → Option Bool := fun C => if C = 6 then some true else if C = 4 then some false else if C = 5 then some false else if C = 7 then some false else none
theorem catch_InvalidRule {K : Kt} {c : Value} (e_InvalidRule : PySem.W.exmOne K.K (.ref (K.κ 6)) c = some true) (e_InvalidProgram : PySem.W.exmOne K.K (.ref (K.κ 4)) c = some false) (e_InvalidHouse : PySem.W.exmOne K.K (.ref (K.κ 5)) c = some false) (e_InvalidTurns : PySem.W.exmOne K.K (.ref (K.κ 7)) c = some false) : Catch K c ct_InvalidRule := by
  intro C b h
  unfold ct_InvalidRule at h
  split at h
  · rename_i e; cases h; subst e; exact e_InvalidRule
  ·
    split at h
    · rename_i e; cases h; subst e; exact e_InvalidProgram
    ·
      split at h
      · rename_i e; cases h; subst e; exact e_InvalidHouse
      ·
        split at h
        · rename_i e; cases h; subst e; exact e_InvalidTurns
        ·
          cases h
theorem only_InvalidRule : ∀ C, ct_InvalidRule C = some true → C = 6 := by
  intro C h
  unfold ct_InvalidRule at h
  split at h
  · assumption
  · repeat (first | (split at h; · cases h) | cases h)
def ct_InvalidTurns : Nat → Option Bool := fun C => if C = 7 then some true else if C = 4 then some false else if C = 5 then some false else if C = 6 then some false else none
theorem catch_InvalidTurns {K : Kt} {c : Value} (e_InvalidTurns : PySem.W.exmOne K.K (.ref (K.κ 7)) c = some true) (e_InvalidProgram : PySem.W.exmOne K.K (.ref (K.κ 4)) c = some false) (e_InvalidHouse : PySem.W.exmOne K.K (.ref (K.κ 5)) c = some false) (e_InvalidRule : PySem.W.exmOne K.K (.ref (K.κ 6)) c = some false) : Catch K c ct_InvalidTurns := by
  intro C b h
  unfold ct_InvalidTurns at h
  split at h
  · rename_i e; cases h; subst e; exact e_InvalidTurns
  ·
    split at h
    · rename_i e; cases h; subst e; exact e_InvalidProgram
    ·
      split at h
      · rename_i e; cases h; subst e; exact e_InvalidHouse
      ·
        split at h
        · rename_i e; cases h; subst e; exact e_InvalidRule
        ·
          cases h
theorem only_InvalidTurns : ∀ C, ct_InvalidTurns C = some true → C = 7 := by
  intro C h
  unfold ct_InvalidTurns at h
  split at h
  · assumption
  · repeat (first | (split at h; · cases h) | cases h)
structure Tx (K : Kt) (mg : Str → Option Value) : Prop where
  b_len : mg "len" = none
  b_int : mg "int" = none
  b_bool : mg "bool" = none
  b_abs : mg "abs" = none
  b_isinstance : mg "isinstance" = none
  b_str : mg "str" = none
  b_all : mg "all" = none
  b_list : mg "list" = none
  b_tuple : mg "tuple" = none
  b_set : mg "set" = none
  b_sorted : mg "sorted" = none
  b_range : mg "range" = none
  b_enumerate : mg "enumerate" = none
  b_super : mg "super" = none
  b_dict : mg "dict" = none
  f_Program_name : FldOk K 0 "name"
  f_Program_lines : FldOk K 0 "lines"
  f_Program_steps : FldOk K 0 "steps"
  f_Program_cells : FldOk K 0 "cells"
  f_Program_locks : FldOk K 0 "locks"
  f_Rule_sees : FldOk K 1 "sees"
  f_Rule_looks : FldOk K 1 "looks"
  f_Rule_takes : FldOk K 1 "takes"
  f_Turns_ranked : FldOk K 2 "ranked"
  f_Turns_lent : FldOk K 2 "lent"
  f_Turns_fair : FldOk K 2 "fair"
  f_House_cells : FldOk K 3 "cells"
  f_House_programs : FldOk K 3 "programs"
  f_House_rule : FldOk K 3 "rule"
  f_House_log : FldOk K 3 "log"
  f_House_tells : FldOk K 3 "tells"
  f_House_turns : FldOk K 3 "turns"
  f_House_places : FldOk K 3 "places"
  f_House_sizes : FldOk K 3 "sizes"
  f_House_named : FldOk K 3 "named"
  c_LETTERS : ∃ (v : V) (u : Value), mg "LETTERS" = some u ∧ RelV v u ∧ ∀ ρ F, RV K ρ F (.str "abcdefghijklmnopqrstuvwxyz") v
  c_DIGITS : ∃ (v : V) (u : Value), mg "DIGITS" = some u ∧ RelV v u ∧ ∀ ρ F, RV K ρ F (.str "0123456789") v
  c_GETS : ∃ (v : V) (u : Value), mg "GETS" = some u ∧ RelV v u ∧ ∀ ρ F, RV K ρ F (.str "gets") v
  c_PUTS : ∃ (v : V) (u : Value), mg "PUTS" = some u ∧ RelV v u ∧ ∀ ρ F, RV K ρ F (.str "puts") v
  c_FOUR : ∃ (v : V) (u : Value), mg "FOUR" = some u ∧ RelV v u ∧ ∀ ρ F, RV K ρ F (.int 4) v
  c_BARRED : ∃ (v : V) (u : Value), mg "BARRED" = some u ∧ RelV v u ∧ ∀ ρ F, RV K ρ F (.tup [.str "hold", .str "done", .str "get", .str "put", .str "let", .str "if", .str "else", .str "go", .str "lock", .str "free", .str "tell", .str "end", .str "x", .str "y"]) v
  c_REGISTERS : ∃ (v : V) (u : Value), mg "REGISTERS" = some u ∧ RelV v u ∧ ∀ ρ F, RV K ρ F (.tup [.str "x", .str "y"]) v
  c_SINGLE : ∃ (v : V) (u : Value), mg "SINGLE" = some u ∧ RelV v u ∧ ∀ ρ F, RV K ρ F (.tup [.str "hold", .str "done", .str "end"]) v
  c_SIGHTS : ∃ (v : V) (u : Value), mg "SIGHTS" = some u ∧ RelV v u ∧ ∀ ρ F, RV K ρ F (.tup [.str "begin", .str "now"]) v
  c_LOG : ∃ (v : V) (u : Value), mg "LOG" = some u ∧ RelV v u ∧ ∀ ρ F, RV K ρ F (.tup [.str "late", .str "marks", .str "places"]) v
  c_TELLS : ∃ (v : V) (u : Value), mg "TELLS" = some u ∧ RelV v u ∧ ∀ ρ F, RV K ρ F (.tup [.str "soon", .str "own", .str "firm"]) v
  t_is_integer : Txt1 K mg "is_integer" s_is_integer ["value"]
  t_is_number : Txt1 K mg "is_number" s_is_number ["value"]
  t_is_sequence : Txt1 K mg "is_sequence" s_is_sequence ["value"]
  t_is_tuple_of : Txt1 K mg "is_tuple_of" s_is_tuple_of ["value", "size"]
  t_is_name : Txt1 K mg "is_name" s_is_name ["value"]
  t_number_in : TxtX K mg "number_in" s_number_in ["word", "most"] (PhiN K)
  t_are_unlike : Txt1 K mg "are_unlike" s_are_unlike ["things"]
  t_is_lot_of : Txt1 K mg "is_lot_of" s_is_lot_of ["value", "words"]
  t_part_in : Txt1 K mg "part_in" s_part_in ["word"]
  t_term_in : Txt1 K mg "term_in" s_term_in ["words"]
  t_with_cell_in : Txt1 K mg "with_cell_in" s_with_cell_in ["words"]
  t_test_in : Txt1 K mg "test_in" s_test_in ["words"]
  t_term_line_in : Txt1 K mg "term_line_in" s_term_line_in ["words"]
  t_word_line_in : Txt1 K mg "word_line_in" s_word_line_in ["words"]
  t_step_in : Txt1 K mg "step_in" s_step_in ["line"]
  t_steps_in : Txt1 K mg "steps_in" s_steps_in ["value"]
  t_lot_of : Txt1 K mg "lot_of" s_lot_of ["things"]
  t_pinit : TxtC K mg "Program" 0 s_pinit ["self", "name", "lines"]
  t_is_lot : Txt1 K mg "is_lot" s_is_lot ["value"]
  t_rinit : TxtCX K mg "Rule" 1 s_rinit ["self", "sees", "looks", "takes"] (PhiR K)
  t_tinit : TxtCX K mg "Turns" 2 s_tinit ["self", "ranked", "lent", "fair"] (PhiT K)
  t_are_cells : Txt1 K mg "are_cells" s_are_cells ["value"]
  t_goes_with : Txt1 K mg "goes_with" s_goes_with ["program", "sizes"]
  t_are_programs : Txt1 K mg "are_programs" s_are_programs ["value", "cells"]
  t_hinit : TxtC K mg "House" 3 s_hinit ["self", "cells", "programs", "rule", "log", "tells", "turns"]
  t_wprog : TxtM K 3 "with_program" "House.with_program" s_wprog ["self", "program"]
  t_wrule : TxtM K 3 "with_rule" "House.with_rule" s_wrule ["self", "rule"]
  t_wlog : TxtM K 3 "with_log" "House.with_log" s_wlog ["self", "log"]
  t_wtells : TxtM K 3 "with_tells" "House.with_tells" s_wtells ["self", "tells"]
  t_wturns : TxtM K 3 "with_turns" "House.with_turns" s_wturns ["self", "turns"]
  t_deal : Txt1 K mg "_law_deal" s_deal ["_law_script", "_law_base"]
  t_draw : Txt1 K mg "_law_draw" s_draw ["_law_deal_here", "_law_bound"]
  t_pick : Txt1 K mg "_law_pick" s_pick ["_law_deal_here", "_law_some"]
  t_thing : Txt1 K mg "_law_thing" s_thing ["_law_deal_here", "_law_deep"]
  t_heard : Txt1 K mg "_law_heard" s_heard ["_law_work_here"]
  t_bad : Txt1 K mg "_law_bad" s_bad ["_law_deal_here", "_law_spot"]
  t_made : Txt1 K mg "_law_made" s_made ["_law_parts"]
  km_with_program : KeepM K 3 "with_program"
  km_with_rule : KeepM K 3 "with_rule"
  km_with_log : KeepM K 3 "with_log"
  km_with_tells : KeepM K 3 "with_tells"
  km_with_turns : KeepM K 3 "with_turns"
  seqc : AnsAny K [.type "list", .type "tuple"] (ansTC ["list", "tuple"] [0, 1, 2])
  ao_Program : AnsOk K (.ref (K.κ 0)) (ansOC 0 [1, 2])
  ao_Rule : AnsOk K (.ref (K.κ 1)) (ansOC 1 [0, 2])
  ao_Turns : AnsOk K (.ref (K.κ 2)) (ansOC 2 [0, 1])
  xm_Program : mg "Program" = some (.ref (K.κ 0))
  xm_Rule : mg "Rule" = some (.ref (K.κ 1))
  xm_Turns : mg "Turns" = some (.ref (K.κ 2))
  xm_InvalidProgram : mg "InvalidProgram" = some (.ref (K.κ 4))
  ct_InvalidProgram : Catch K (.ref (K.κ 4)) ct_InvalidProgram
  xf_InvalidProgram : XfC K.K (K.κ 4)
  xn_InvalidProgram : PySem.W.findIn K.K (.ref (K.κ 4)) "word" = some none
  xe_InvalidProgram : ExcC K.K (K.κ 4)
  xm_InvalidHouse : mg "InvalidHouse" = some (.ref (K.κ 5))
  ct_InvalidHouse : Catch K (.ref (K.κ 5)) ct_InvalidHouse
  xf_InvalidHouse : XfC K.K (K.κ 5)
  xn_InvalidHouse : PySem.W.findIn K.K (.ref (K.κ 5)) "word" = some none
  xe_InvalidHouse : ExcC K.K (K.κ 5)
  xm_InvalidRule : mg "InvalidRule" = some (.ref (K.κ 6))
  ct_InvalidRule : Catch K (.ref (K.κ 6)) ct_InvalidRule
  xf_InvalidRule : XfC K.K (K.κ 6)
  xn_InvalidRule : PySem.W.findIn K.K (.ref (K.κ 6)) "word" = some none
  xe_InvalidRule : ExcC K.K (K.κ 6)
  xm_InvalidTurns : mg "InvalidTurns" = some (.ref (K.κ 7))
  ct_InvalidTurns : Catch K (.ref (K.κ 7)) ct_InvalidTurns
  xf_InvalidTurns : XfC K.K (K.κ 7)
  xn_InvalidTurns : PySem.W.findIn K.K (.ref (K.κ 7)) "word" = some none
  xe_InvalidTurns : ExcC K.K (K.κ 7)
  xk_InvalidHouse_RoadError : PySem.W.kitOne K.K (.ref (K.κ 5)) (.ref (K.κ 8)) = some true
  xk2_InvalidHouse_InvalidProgram_InvalidRule : PySem.W.kitAny K.K (.ref (K.κ 5)) [.ref (K.κ 4), .ref (K.κ 6)] = some false
  xm_RoadError : mg "RoadError" = some (.ref (K.κ 8))
abbrev b_is_integer : Sx :=
  (sRet (eAnd (eUn (gIsi "int") (eVar 0)) (eNot (eUn (gIsi "bool") (eVar 0)))))
theorem ok_is_integer {P : Program} {w : World} {K : Kt} {mg : Str → Option Value} {base : Heap} (T : Tx K mg) : Def P w K mg base "is_integer" s_is_integer 1 ["value"] (runF 1 b_is_integer) := by
  refine mkDef (k := 0) (N := n_is_integer) (body := b_is_integer) T.t_is_integer sc_is_integer ?_
  rintro f G rfl cdv A outer s H E hr
  exact (ds_one (ds_ret (de_and rfl (de_isi rfl rfl T.b_isinstance rfl T.b_int (by decide +kernel) (de_var (pv 0))) (de_one (de_not rfl (de_isi rfl rfl T.b_isinstance rfl T.b_bool (by decide +kernel) (de_var (pv 0))))))))
def isIntF : Fn := trimF (runF 1 b_is_integer)
theorem ok1_is_integer {P : Program} {w : World} {K : Kt} {mg : Str → Option Value} {base : Heap} (T : Tx K mg) : Def P w K mg base "is_integer" s_is_integer 1 ["value"] isIntF := (ok_is_integer T ).trim
abbrev b_is_number : Sx :=
  (sRet (eAnd (eCall 0 isIntF (aCons (eVar 0) aNil)) (eOp gGe (eVar 0) (eC (.int 0)))))
theorem ok_is_number {P : Program} {w : World} {K : Kt} {mg : Str → Option Value} {base : Heap} (T : Tx K mg) (d_is_integer : Def P w K mg base "is_integer" s_is_integer 1 ["value"] isIntF) : Def P w K mg base "is_number" s_is_number 2 ["value"] (runF 1 b_is_number) := by
  refine mkDef (k := 1) (N := n_is_number) (body := b_is_number) T.t_is_number sc_is_number ?_
  rintro f G rfl cdv A outer s H E hr
  exact (ds_one (ds_ret (de_and rfl (de_callD 0 d_is_integer rfl (takes_of rfl rfl rfl rfl) (hr.mono (by decide)) (da_cons (de_var (pv 0)) da_nil) (alen_cons alen_nil)) (de_one (de_ge (de_var (pv 0)) de_int)))))
def isNumF : Fn := trimF (runF 1 b_is_number)
theorem ok1_is_number {P : Program} {w : World} {K : Kt} {mg : Str → Option Value} {base : Heap} (T : Tx K mg) (d_is_integer : Def P w K mg base "is_integer" s_is_integer 1 ["value"] isIntF) : Def P w K mg base "is_number" s_is_number 2 ["value"] isNumF := (ok_is_number T d_is_integer).trim
abbrev b_is_sequence : Sx :=
  (sRet (eUn (gIsiG (ansTC ["list", "tuple"] [0, 1, 2])) (eVar 0)))
theorem ok_is_sequence {P : Program} {w : World} {K : Kt} {mg : Str → Option Value} {base : Heap} (T : Tx K mg) : Def P w K mg base "is_sequence" s_is_sequence 1 ["value"] (runF 1 b_is_sequence) := by
  refine mkDef (k := 0) (N := n_is_sequence) (body := b_is_sequence) T.t_is_sequence sc_is_sequence ?_
  rintro f G rfl cdv A outer s H E hr
  exact (ds_one (ds_ret (de_isiT2G rfl rfl T.b_isinstance rfl T.b_list (by decide +kernel) rfl T.b_tuple (by decide +kernel) T.seqc (de_var (pv 0)))))
def isSeqF : Fn := trimF (runF 1 b_is_sequence)
theorem ok1_is_sequence {P : Program} {w : World} {K : Kt} {mg : Str → Option Value} {base : Heap} (T : Tx K mg) : Def P w K mg base "is_sequence" s_is_sequence 1 ["value"] isSeqF := (ok_is_sequence T ).trim
abbrev b_is_tuple_of : Sx :=
  (sRet (eAnd (eUn (gIsi "tuple") (eVar 0)) (eOp (gEqB false) (eB hLen (aCons (eVar 0) aNil)) (eVar 1))))
theorem ok_is_tuple_of {P : Program} {w : World} {K : Kt} {mg : Str → Option Value} {base : Heap} (T : Tx K mg) : Def P w K mg base "is_tuple_of" s_is_tuple_of 1 ["value", "size"] (runF 2 b_is_tuple_of) := by
  refine mkDef (k := 0) (N := n_is_tuple_of) (body := b_is_tuple_of) T.t_is_tuple_of sc_is_tuple_of ?_
  rintro f G rfl cdv A outer s H E hr
  exact (ds_one (ds_ret (de_and rfl (de_isi rfl rfl T.b_isinstance rfl T.b_tuple (by decide +kernel) (de_var (pv 0))) (de_one (de_eq rfl hr.units (de_len rfl rfl T.b_len (da_cons (de_var (pv 0)) da_nil)) (de_var (pv 1)))))))
def isTupF : Fn := trimF (runF 2 b_is_tuple_of)
theorem ok1_is_tuple_of {P : Program} {w : World} {K : Kt} {mg : Str → Option Value} {base : Heap} (T : Tx K mg) : Def P w K mg base "is_tuple_of" s_is_tuple_of 1 ["value", "size"] isTupF := (ok_is_tuple_of T ).trim
abbrev b_is_name : Sx :=
  (sSeq (sIf (tOr' (tNot' (tTru (eUn (gIsi "str") (eVar 0)))) (tOr' (tNot' (tChn gLe gLe (eC (.int 1)) (eB hLen (aCons (eVar 0) aNil)) (eC (.int 4)))) (tCmp' (gIn false) (eVar 0) (eC (.tup [.str "hold", .str "done", .str "get", .str "put", .str "let", .str "if", .str "else", .str "go", .str "lock", .str "free", .str "tell", .str "end", .str "x", .str "y"]))))) (sRet (eC (.bl false))) sNil)
    (sRet (eB hAll (aCons (eLc (iS (eVar 0)) (gNm 1) tTrue (eOp (gIn false) (eVar 1) (eC (.str "abcdefghijklmnopqrstuvwxyz"))) [1]) aNil))))
theorem ok_is_name {P : Program} {w : World} {K : Kt} {mg : Str → Option Value} {base : Heap} (T : Tx K mg) : Def P w K mg base "is_name" s_is_name 1 ["value"] (runF 2 b_is_name) := by
  refine mkDef (k := 0) (N := n_is_name) (body := b_is_name) T.t_is_name sc_is_name ?_
  rintro f G rfl cdv A outer s H E hr
  obtain ⟨v_BARRED, u_BARRED, hm_BARRED, hr_BARRED, hv_BARRED⟩ := T.c_BARRED
  obtain ⟨v_LETTERS, u_LETTERS, hm_LETTERS, hr_LETTERS, hv_LETTERS⟩ := T.c_LETTERS
  exact (ds_cons (ds_if (dt_w (dw_or (dt_not (dt_tru rfl (de_isi rfl rfl T.b_isinstance rfl T.b_str (by decide +kernel) (de_var (pv 0))))) (dw_or (dt_not (dt_chain (op_le.or op_le_str) (op_le.or op_le_str) v2_ord v2_ord de_int (de_len rfl rfl T.b_len (da_cons (de_var (pv 0)) da_nil)) de_int)) (dw_or1 (dt_in rfl (de_var (pv 0)) (de_c (pe_glob rfl hm_BARRED hr_BARRED) hv_BARRED)))))) (ds_one (ds_ret de_bl)) ds_nil)
    (ds_one (ds_ret (de_all rfl rfl rfl T.b_all (da_cons (de_lc (own := [("sign", 1)]) rfl sc_is_name.nd (di_str (de_var (pv 0))) (blkOk_by (N := n_is_name) (sc := defScope s_is_name) (by decide +kernel)) (by decide) (fun _ _ _ _ _ => (dg_name (i := 1) sc_is_name.nd)) (fun _ _ _ _ _ => dts_nil) (fun _ _ _ _ _ => (de_in rfl (de_var (pv 1)) (de_c (pe_glob rfl hm_LETTERS hr_LETTERS) hv_LETTERS)))) da_nil)))))
def isNameF : Fn := trimF (runF 2 b_is_name)
theorem ok1_is_name {P : Program} {w : World} {K : Kt} {mg : Str → Option Value} {base : Heap} (T : Tx K mg) : Def P w K mg base "is_name" s_is_name 1 ["value"] isNameF := (ok_is_name T ).trim
abbrev b_number_in : Sx :=
  (sSeq (sIf (tOr' (tNot' (tChn gLe gLe (eC (.int 1)) (eB hLen (aCons (eVar 0) aNil)) (eVar 1))) (tNot' (tTru (eB hAll (aCons (eLc (iS (eVar 0)) (gNm 2) tTrue (eOp (gIn false) (eVar 2) (eC (.str "0123456789"))) [2]) aNil))))) (sRet (eC .non)) sNil)
    (sRet (eIf (tAnd' (tCmp' gGt (eB hLen (aCons (eVar 0) aNil)) (eC (.int 1))) (tCmp' (gEqB false) (eOp gIx (eVar 0) (eC (.int 0))) (eC (.str "0")))) (eC .non) (eB hIntS (aCons (eVar 0) aNil)))))
theorem ok_number_in {P : Program} {w : World} {K : Kt} {mg : Str → Option Value} {base : Heap} (T : Tx K mg) : DefX P w K mg base "number_in" 1 ["word", "most"] (runF 3 b_number_in) (PhiN K) := by
  refine mkDefX (k := 0) (N := n_number_in) (body := b_number_in) T.t_number_in sc_number_in ?_
  rintro f G rfl cdv A outer s H E hr
  obtain ⟨v_DIGITS, u_DIGITS, hm_DIGITS, hr_DIGITS, hv_DIGITS⟩ := T.c_DIGITS
  exact (ds_cons (ds_if (dt_w (dw_or (dt_not (dt_chain (op_le.or op_le_str) (op_le.or op_le_str) v2_ord v2_ord de_int (de_len rfl rfl T.b_len (da_cons (de_var (pv 0)) da_nil)) (de_var (pv 1)))) (dw_or1 (dt_not (dt_tru rfl (de_all rfl rfl rfl T.b_all (da_cons (de_lc (own := [("sign", 2)]) rfl sc_number_in.nd (di_str (de_var (pv 0))) (blkOk_by (N := n_number_in) (sc := defScope s_number_in) (by decide +kernel)) (by decide) (fun _ _ _ _ _ => (dg_name (i := 2) sc_number_in.nd)) (fun _ _ _ _ _ => dts_nil) (fun _ _ _ _ _ => (de_in rfl (de_var (pv 2)) (de_c (pe_glob rfl hm_DIGITS hr_DIGITS) hv_DIGITS)))) da_nil))))))) (ds_one (ds_ret de_non)) ds_nil)
    (ds_one (ds_ret (de_if (dt_w (dw_and (dt_gt (de_len rfl rfl T.b_len (da_cons (de_var (pv 0)) da_nil)) de_int) (dw_and1 (dt_eq rfl hr.units (de_ix rfl (de_var (pv 0)) de_int) de_str)))) de_non (de_intS rfl T.b_int (da_cons (de_var (pv 0)) da_nil))))))
def numF : Fn := trimF (runF 3 b_number_in)
theorem ok1_number_in {P : Program} {w : World} {K : Kt} {mg : Str → Option Value} {base : Heap} (T : Tx K mg) : DefX P w K mg base "number_in" 1 ["word", "most"] numF (PhiN K) := (ok_number_in T ).trim
abbrev b_are_unlike : Sx :=
  (sRet (eB hAll (aCons (eLc (iEnQ (aCons (eVar 0) aNil)) (gTp 2 (gsCons (gNm 1) (gsCons (gNm 2) gsNil))) tTrue (eOp (gInQ true) (eVar 2) (eSl false (eVar 0) oNone (oSome (eVar 1)))) [1, 2]) aNil)))
theorem ok_are_unlike {P : Program} {w : World} {K : Kt} {mg : Str → Option Value} {base : Heap} (T : Tx K mg) : Def P w K mg base "are_unlike" s_are_unlike 1 ["things"] (runF 3 b_are_unlike) := by
  refine mkDef (k := 0) (N := n_are_unlike) (body := b_are_unlike) T.t_are_unlike sc_are_unlike ?_
  rintro f G rfl cdv A outer s H E hr
  exact (ds_one (ds_ret (de_all rfl rfl rfl T.b_all (da_cons (de_lc (own := [("at", 1), ("thing", 2)]) rfl sc_are_unlike.nd (di_enumQ rfl rfl T.b_enumerate (da_cons (de_var (pv 0)) da_nil)) (blkOk_by (N := n_are_unlike) (sc := defScope s_are_unlike) (by decide +kernel)) (by decide) (fun _ _ _ _ _ => (dg_tup rfl rfl (dgs_cons (dg_name (i := 1) sc_are_unlike.nd) (dgs_cons (dg_name (i := 2) sc_are_unlike.nd) dgs_nil)))) (fun _ _ _ _ _ => dts_nil) (fun _ _ _ _ _ => (de_notinQ rfl (units65 hr) (de_var (pv 2)) (de_slice (own := false) rfl (de_var (pv 0)) do_none (do_some (de_var (pv 1)))) rfl))) da_nil))))
def unlikeF : Fn := trimF (runF 3 b_are_unlike)
theorem ok1_are_unlike {P : Program} {w : World} {K : Kt} {mg : Str → Option Value} {base : Heap} (T : Tx K mg) : Def P w K mg base "are_unlike" s_are_unlike 1 ["things"] unlikeF := (ok_are_unlike T ).trim
abbrev b_is_lot_of : Sx :=
  (sSeq (sIf (tOr' (tNot' (tTru (eCall 0 isSeqF (aCons (eVar 0) aNil)))) (tNot' (tTru (eB hAll (aCons (eLc (iSq (eVar 0)) (gNm 2) tTrue (eAnd (eUn (gIsi "str") (eVar 2)) (eOp (gIn false) (eVar 2) (eVar 1))) [2]) aNil))))) (sRet (eC (.bl false))) sNil)
    (sRet (eCall 0 unlikeF (aCons (eVar 0) aNil))))
theorem ok_is_lot_of {P : Program} {w : World} {K : Kt} {mg : Str → Option Value} {base : Heap} (T : Tx K mg) (d_is_sequence : Def P w K mg base "is_sequence" s_is_sequence 1 ["value"] isSeqF) (d_are_unlike : Def P w K mg base "are_unlike" s_are_unlike 1 ["things"] unlikeF) : Def P w K mg base "is_lot_of" s_is_lot_of 2 ["value", "words"] (runF 3 b_is_lot_of) := by
  refine mkDef (k := 1) (N := n_is_lot_of) (body := b_is_lot_of) T.t_is_lot_of sc_is_lot_of ?_
  rintro f G rfl cdv A outer s H E hr
  exact (ds_cons (ds_if (dt_w (dw_or (dt_not (dt_tru rfl (de_callD 0 d_is_sequence rfl (takes_of rfl rfl rfl rfl) (hr.mono (by decide)) (da_cons (de_var (pv 0)) da_nil) (alen_cons alen_nil)))) (dw_or1 (dt_not (dt_tru rfl (de_all rfl rfl rfl T.b_all (da_cons (de_lc (own := [("one", 2)]) rfl sc_is_lot_of.nd (di_seq rfl (de_var (pv 0))) (blkOk_by (N := n_is_lot_of) (sc := defScope s_is_lot_of) (by decide +kernel)) (by decide) (fun _ _ _ _ _ => (dg_name (i := 2) sc_is_lot_of.nd)) (fun _ _ _ _ _ => dts_nil) (fun _ _ _ _ _ => (de_and rfl (de_isi rfl rfl T.b_isinstance rfl T.b_str (by decide +kernel) (de_var (pv 2))) (de_one (de_in rfl (de_var (pv 2)) (de_var (pv 1))))))) da_nil))))))) (ds_one (ds_ret de_bl)) ds_nil)
    (ds_one (ds_ret (de_callD 0 d_are_unlike rfl (takes_of rfl rfl rfl rfl) (hr.mono (by decide)) (da_cons (de_var (pv 0)) da_nil) (alen_cons alen_nil)))))
def lotOfWF : Fn := trimF (runF 3 b_is_lot_of)
theorem ok1_is_lot_of {P : Program} {w : World} {K : Kt} {mg : Str → Option Value} {base : Heap} (T : Tx K mg) (d_is_sequence : Def P w K mg base "is_sequence" s_is_sequence 1 ["value"] isSeqF) (d_are_unlike : Def P w K mg base "are_unlike" s_are_unlike 1 ["things"] unlikeF) : Def P w K mg base "is_lot_of" s_is_lot_of 2 ["value", "words"] lotOfWF := (ok_is_lot_of T d_is_sequence d_are_unlike).trim
abbrev b_part_in : Sx :=
  (sSeq (sIf (tCmp' (gIn false) (eVar 0) (eC (.tup [.str "x", .str "y"]))) (sRet (eVar 0)) sNil)
    (sSeq (sAsg (eCallN 0 numF [0] (aCons (eVar 0) aNil) (aCons (eC (.int 1)) aNil)) (gNm 1))
    (sRet (eIf (tAnd' (tCmp' (gIs true) (eVar 1) (eC .non)) (tCmp' gLt (eVar 1) (eC (.int 4)))) (eVar 1) (eC .non)))))
theorem ok_part_in {P : Program} {w : World} {K : Kt} {mg : Str → Option Value} {base : Heap} (T : Tx K mg) (d_number_in : DefX P w K mg base "number_in" 1 ["word", "most"] numF (PhiN K)) : Def P w K mg base "part_in" s_part_in 2 ["word"] (runF 2 b_part_in) := by
  refine mkDef (k := 1) (N := n_part_in) (body := b_part_in) T.t_part_in sc_part_in ?_
  rintro f G rfl cdv A outer s H E hr
  obtain ⟨v_REGISTERS, u_REGISTERS, hm_REGISTERS, hr_REGISTERS, hv_REGISTERS⟩ := T.c_REGISTERS
  obtain ⟨v_FOUR, u_FOUR, hm_FOUR, hr_FOUR, hv_FOUR⟩ := T.c_FOUR
  exact (ds_cons (ds_if (dt_in rfl (de_var (pv 0)) (de_c (pe_glob rfl hm_REGISTERS hr_REGISTERS) hv_REGISTERS)) (ds_one (ds_ret (de_var (pv 0)))) ds_nil)
    (ds_cons (ds_set (i := 1) sc_part_in.nd (de_callN (ks := ["most"]) 0 [0] d_number_in (fun _ h => h.1) rfl flatE (takes_of rfl rfl rfl rfl) (hr.mono (by decide)) (da_cons (de_var (pv 0)) da_nil) (alen_cons alen_nil) (dk_cons de_int dk_nil) (alen_cons alen_nil) (by decide) rfl))
    (ds_one (ds_ret (de_if (dt_w (dw_and (dt_isnot (de_var (pv 1)) de_non) (dw_and1 (dt_lt (de_var (pv 1)) (de_c (pe_glob rfl hm_FOUR hr_FOUR) hv_FOUR))))) (de_var (pv 1)) de_non)))))
def partF : Fn := trimF (runF 2 b_part_in)
theorem ok1_part_in {P : Program} {w : World} {K : Kt} {mg : Str → Option Value} {base : Heap} (T : Tx K mg) (d_number_in : DefX P w K mg base "number_in" 1 ["word", "most"] numF (PhiN K)) : Def P w K mg base "part_in" s_part_in 2 ["word"] partF := (ok_part_in T d_number_in).trim
abbrev b_term_in : Sx :=
  (sSeq (sAsg (eLc (iL (eUn (gStep 2) (eVar 0))) (gNm 2) tTrue (eCall 0 partF (aCons (eVar 2) aNil)) [2]) (gNm 1))
    (sSeq (sIf (tOr' (tCmp' (gIn true) (eB hLen (aCons (eVar 0) aNil)) (eTup (aCons (eC (.int 1)) (aCons (eC (.int 3)) aNil)))) (tOr' (tCmp' (gIn false) (eC .non) (eVar 1)) (tAnd' (tCmp' (gEqB false) (eB hLen (aCons (eVar 0) aNil)) (eC (.int 3))) (tCmp' (gEqB true) (eOp gIx (eVar 0) (eC (.int 1))) (eC (.str "+")))))) (sRet (eC .non)) sNil)
    (sRet (eB hTuple (aCons (eVar 1) aNil)))))
theorem ok_term_in {P : Program} {w : World} {K : Kt} {mg : Str → Option Value} {base : Heap} (T : Tx K mg) (d_part_in : Def P w K mg base "part_in" s_part_in 2 ["word"] partF) : Def P w K mg base "term_in" s_term_in 3 ["words"] (runF 3 b_term_in) := by
  refine mkDef (k := 2) (N := n_term_in) (body := b_term_in) T.t_term_in sc_term_in ?_
  rintro f G rfl cdv A outer s H E hr
  exact (ds_cons (ds_setLc (i := 1) (own := [("word", 2)]) rfl sc_term_in.nd (di_list rfl (de_step (k := 2) rfl (by decide) (de_var (pv 0)) pe_int)) (blkOk_by (N := n_term_in) (sc := defScope s_term_in) (by decide +kernel)) (by decide) (fun _ _ _ _ _ => (dg_name (i := 2) sc_term_in.nd)) (fun _ _ _ _ _ => dts_nil) (fun _ _ _ _ _ => (de_callD 0 d_part_in rfl takes0 (hr.mono (by decide)) (da_cons (de_var (pv 2)) da_nil) (alen_cons alen_nil))) (sw_true rfl rfl rfl (by decide +kernel)))
    (ds_cons (ds_if (dt_w (dw_or (dt_notin rfl (de_len rfl rfl T.b_len (da_cons (de_var (pv 0)) da_nil)) (de_tup (da_cons de_int (da_cons de_int da_nil)))) (dw_or (dt_in rfl de_non (de_var (pv 1))) (dw_or1 (dt_w (dw_and (dt_eq rfl hr.units (de_len rfl rfl T.b_len (da_cons (de_var (pv 0)) da_nil)) de_int) (dw_and1 (dt_ne rfl hr.units (de_ix rfl (de_var (pv 0)) de_int) de_str)))))))) (ds_one (ds_ret de_non)) ds_nil)
    (ds_one (ds_ret (de_tuple1 rfl rfl T.b_tuple (da_cons (de_var (pv 1)) da_nil))))))
def termInF : Fn := trimF (runF 3 b_term_in)
theorem ok1_term_in {P : Program} {w : World} {K : Kt} {mg : Str → Option Value} {base : Heap} (T : Tx K mg) (d_part_in : Def P w K mg base "part_in" s_part_in 2 ["word"] partF) : Def P w K mg base "term_in" s_term_in 3 ["words"] termInF := (ok_term_in T d_part_in).trim
abbrev b_with_cell_in : Sx :=
  (sSeq (sIf (tOr' (tCmp' gLt (eB hLen (aCons (eVar 0) aNil)) (eC (.int 3))) (tNot' (tTru (eCall 0 isNameF (aCons (eOp gIx (eVar 0) (eC (.int 1))) aNil))))) (sRet (eC .non)) sNil)
    (sSeq (sIf (tCmp' (gEqB false) (eOp gIx (eVar 0) (eC (.int 0))) (eC (.str "put"))) (sSeq (sAsg (eCall 0 termInF (aCons (eSl false (eVar 0) (oSome (eC (.int 2))) oNone) aNil)) (gNm 1))
    (sRet (eIf (tCmp' (gIs false) (eVar 1) (eC .non)) (eC .non) (eTup (aCons (eC (.str "put")) (aCons (eOp gIx (eVar 0) (eC (.int 1))) (aCons (eVar 1) aNil))))))) sNil)
    (sSeq (sIf (tCmp' (gEqB true) (eB hLen (aCons (eVar 0) aNil)) (eC (.int 3))) (sRet (eC .non)) sNil)
    (sSeq (sIf (tCmp' (gEqB false) (eOp gIx (eVar 0) (eC (.int 0))) (eC (.str "get"))) (sRet (eIf (tCmp' (gIn false) (eOp gIx (eVar 0) (eC (.int 2))) (eC (.tup [.str "x", .str "y"]))) (eTup (aCons (eC (.str "get")) (aCons (eOp gIx (eVar 0) (eC (.int 1))) (aCons (eOp gIx (eVar 0) (eC (.int 2))) aNil)))) (eC .non))) sNil)
    (sSeq (sAsg (eCallN 0 numF [0] (aCons (eOp gIx (eVar 0) (eC (.int 2))) aNil) (aCons (eC (.int 1)) aNil)) (gNm 2))
    (sRet (eIf (tAnd' (tCmp' (gIs true) (eVar 2) (eC .non)) (tCmp' gLt (eVar 2) (eC (.int 4)))) (eTup (aCons (eC (.str "await")) (aCons (eOp gIx (eVar 0) (eC (.int 1))) (aCons (eVar 2) aNil)))) (eC .non))))))))
theorem ok_with_cell_in {P : Program} {w : World} {K : Kt} {mg : Str → Option Value} {base : Heap} (T : Tx K mg) (d_is_name : Def P w K mg base "is_name" s_is_name 1 ["value"] isNameF) (d_term_in : Def P w K mg base "term_in" s_term_in 3 ["words"] termInF) (d_number_in : DefX P w K mg base "number_in" 1 ["word", "most"] numF (PhiN K)) : Def P w K mg base "with_cell_in" s_with_cell_in 4 ["words"] (runF 3 b_with_cell_in) := by
  refine mkDef (k := 3) (N := n_with_cell_in) (body := b_with_cell_in) T.t_with_cell_in sc_with_cell_in ?_
  rintro f G rfl cdv A outer s H E hr
  obtain ⟨v_REGISTERS, u_REGISTERS, hm_REGISTERS, hr_REGISTERS, hv_REGISTERS⟩ := T.c_REGISTERS
  obtain ⟨v_FOUR, u_FOUR, hm_FOUR, hr_FOUR, hv_FOUR⟩ := T.c_FOUR
  exact (ds_cons (ds_if (dt_w (dw_or (dt_lt (de_len rfl rfl T.b_len (da_cons (de_var (pv 0)) da_nil)) de_int) (dw_or1 (dt_not (dt_tru rfl (de_callD 0 d_is_name rfl (takes_of rfl rfl rfl rfl) (hr.mono (by decide)) (da_cons (de_ix rfl (de_var (pv 0)) de_int) da_nil) (alen_cons alen_nil))))))) (ds_one (ds_ret de_non)) ds_nil)
    (ds_cons (ds_if (dt_eq rfl hr.units (de_ix rfl (de_var (pv 0)) de_int) de_str) (ds_cons (ds_set (i := 1) sc_with_cell_in.nd (de_callD 0 d_term_in rfl (takes_of rfl rfl rfl rfl) (hr.mono (by decide)) (da_cons (de_slice (own := false) rfl (de_var (pv 0)) (do_some de_int) do_none) da_nil) (alen_cons alen_nil)))
    (ds_one (ds_ret (de_if (dt_is (de_var (pv 1)) de_non) de_non (de_tup (da_cons de_str (da_cons (de_ix rfl (de_var (pv 0)) de_int) (da_cons (de_var (pv 1)) da_nil)))))))) ds_nil)
    (ds_cons (ds_if (dt_ne rfl hr.units (de_len rfl rfl T.b_len (da_cons (de_var (pv 0)) da_nil)) de_int) (ds_one (ds_ret de_non)) ds_nil)
    (ds_cons (ds_if (dt_eq rfl hr.units (de_ix rfl (de_var (pv 0)) de_int) de_str) (ds_one (ds_ret (de_if (dt_in rfl (de_ix rfl (de_var (pv 0)) de_int) (de_c (pe_glob rfl hm_REGISTERS hr_REGISTERS) hv_REGISTERS)) (de_tup (da_cons de_str (da_cons (de_ix rfl (de_var (pv 0)) de_int) (da_cons (de_ix rfl (de_var (pv 0)) de_int) da_nil)))) de_non))) ds_nil)
    (ds_cons (ds_set (i := 2) sc_with_cell_in.nd (de_callN (ks := ["most"]) 0 [0] d_number_in (fun _ h => h.1) rfl flatE (takes_of rfl rfl rfl rfl) (hr.mono (by decide)) (da_cons (de_ix rfl (de_var (pv 0)) de_int) da_nil) (alen_cons alen_nil) (dk_cons de_int dk_nil) (alen_cons alen_nil) (by decide) rfl))
    (ds_one (ds_ret (de_if (dt_w (dw_and (dt_isnot (de_var (pv 2)) de_non) (dw_and1 (dt_lt (de_var (pv 2)) (de_c (pe_glob rfl hm_FOUR hr_FOUR) hv_FOUR))))) (de_tup (da_cons de_str (da_cons (de_ix rfl (de_var (pv 0)) de_int) (da_cons (de_var (pv 2)) da_nil)))) de_non))))))))
def cellInF : Fn := trimF (runF 3 b_with_cell_in)
theorem ok1_with_cell_in {P : Program} {w : World} {K : Kt} {mg : Str → Option Value} {base : Heap} (T : Tx K mg) (d_is_name : Def P w K mg base "is_name" s_is_name 1 ["value"] isNameF) (d_term_in : Def P w K mg base "term_in" s_term_in 3 ["words"] termInF) (d_number_in : DefX P w K mg base "number_in" 1 ["word", "most"] numF (PhiN K)) : Def P w K mg base "with_cell_in" s_with_cell_in 4 ["words"] cellInF := (ok_with_cell_in T d_is_name d_term_in d_number_in).trim
abbrev b_test_in : Sx :=
  (sSeq (sIf (tOr' (tCmp' (gEqB true) (eB hLen (aCons (eVar 0) aNil)) (eC (.int 5))) (tOr' (tCmp' (gIn true) (eOp gIx (eVar 0) (eC (.int 1))) (eC (.tup [.str "x", .str "y"]))) (tCmp' (gEqB true) (eOp gIx (eVar 0) (eC (.int 3))) (eC (.str "else"))))) (sRet (eC .non)) sNil)
    (sSeq (sPar [1, 2] (aCons (eCallN 0 numF [0] (aCons (eOp gIx (eVar 0) (eC (.int 2))) aNil) (aCons (eC (.int 1)) aNil)) (aCons (eCallDf 0 numF [.int 4] (aCons (eOp gIx (eVar 0) (eC (.int 4))) aNil)) aNil)))
    (sRet (eIf (tAnd' (tCmp' (gIs true) (eVar 1) (eC .non)) (tAnd' (tCmp' gLt (eVar 1) (eC (.int 4))) (tCmp' (gIs true) (eVar 2) (eC .non)))) (eTup (aCons (eC (.str "if")) (aCons (eOp gIx (eVar 0) (eC (.int 1))) (aCons (eVar 1) (aCons (eVar 2) aNil))))) (eC .non)))))
theorem ok_test_in {P : Program} {w : World} {K : Kt} {mg : Str → Option Value} {base : Heap} (T : Tx K mg) (d_number_in : DefX P w K mg base "number_in" 1 ["word", "most"] numF (PhiN K)) : Def P w K mg base "test_in" s_test_in 2 ["words"] (runF 3 b_test_in) := by
  refine mkDef (k := 1) (N := n_test_in) (body := b_test_in) T.t_test_in sc_test_in ?_
  rintro f G rfl cdv A outer s H E hr
  obtain ⟨v_REGISTERS, u_REGISTERS, hm_REGISTERS, hr_REGISTERS, hv_REGISTERS⟩ := T.c_REGISTERS
  obtain ⟨v_FOUR, u_FOUR, hm_FOUR, hr_FOUR, hv_FOUR⟩ := T.c_FOUR
  exact (ds_cons (ds_if (dt_w (dw_or (dt_ne rfl hr.units (de_len rfl rfl T.b_len (da_cons (de_var (pv 0)) da_nil)) de_int) (dw_or (dt_notin rfl (de_ix rfl (de_var (pv 0)) de_int) (de_c (pe_glob rfl hm_REGISTERS hr_REGISTERS) hv_REGISTERS)) (dw_or1 (dt_ne rfl hr.units (de_ix rfl (de_var (pv 0)) de_int) de_str))))) (ds_one (ds_ret de_non)) ds_nil)
    (ds_cons (ds_par (i := 1) (j := 2) rfl sc_test_in.nd (da_cons (de_callN (ks := ["most"]) 0 [0] d_number_in (fun _ h => h.1) rfl flatE (takes_of rfl rfl rfl rfl) (hr.mono (by decide)) (da_cons (de_ix rfl (de_var (pv 0)) de_int) da_nil) (alen_cons alen_nil) (dk_cons de_int dk_nil) (alen_cons alen_nil) (by decide) rfl) (da_cons (de_callDf 0 d_number_in (fun _ h => h.2) rfl flatE (takes_of rfl rfl rfl rfl) (hr.mono (by decide)) (da_cons (de_ix rfl (de_var (pv 0)) de_int) da_nil) (alen_cons alen_nil) rfl) da_nil)) (by decide))
    (ds_one (ds_ret (de_if (dt_w (dw_and (dt_isnot (de_var (pv 1)) de_non) (dw_and (dt_lt (de_var (pv 1)) (de_c (pe_glob rfl hm_FOUR hr_FOUR) hv_FOUR)) (dw_and1 (dt_isnot (de_var (pv 2)) de_non))))) (de_tup (da_cons de_str (da_cons (de_ix rfl (de_var (pv 0)) de_int) (da_cons (de_var (pv 1)) (da_cons (de_var (pv 2)) da_nil))))) de_non)))))
def testInF : Fn := trimF (runF 3 b_test_in)
theorem ok1_test_in {P : Program} {w : World} {K : Kt} {mg : Str → Option Value} {base : Heap} (T : Tx K mg) (d_number_in : DefX P w K mg base "number_in" 1 ["word", "most"] numF (PhiN K)) : Def P w K mg base "test_in" s_test_in 2 ["words"] testInF := (ok_test_in T d_number_in).trim
abbrev b_term_line_in : Sx :=
  (sSeq (sIf (tCmp' (gEqB false) (eOp gIx (eVar 0) (eC (.int 0))) (eC (.str "tell"))) (sSeq (sAsg (eCall 0 termInF (aCons (eSl false (eVar 0) (oSome (eC (.int 1))) oNone) aNil)) (gNm 1))
    (sRet (eIf (tCmp' (gIs false) (eVar 1) (eC .non)) (eC .non) (eTup (aCons (eC (.str "tell")) (aCons (eVar 1) aNil)))))) sNil)
    (sSeq (sAsg (eCall 0 termInF (aCons (eSl false (eVar 0) (oSome (eC (.int 2))) oNone) aNil)) (gNm 1))
    (sRet (eIf (tAnd' (tCmp' gGt (eB hLen (aCons (eVar 0) aNil)) (eC (.int 2))) (tAnd' (tCmp' (gIn false) (eOp gIx (eVar 0) (eC (.int 1))) (eC (.tup [.str "x", .str "y"]))) (tCmp' (gIs true) (eVar 1) (eC .non)))) (eTup (aCons (eC (.str "let")) (aCons (eOp gIx (eVar 0) (eC (.int 1))) (aCons (eVar 1) aNil)))) (eC .non)))))
theorem ok_term_line_in {P : Program} {w : World} {K : Kt} {mg : Str → Option Value} {base : Heap} (T : Tx K mg) (d_term_in : Def P w K mg base "term_in" s_term_in 3 ["words"] termInF) : Def P w K mg base "term_line_in" s_term_line_in 4 ["words"] (runF 2 b_term_line_in) := by
  refine mkDef (k := 3) (N := n_term_line_in) (body := b_term_line_in) T.t_term_line_in sc_term_line_in ?_
  rintro f G rfl cdv A outer s H E hr
  obtain ⟨v_REGISTERS, u_REGISTERS, hm_REGISTERS, hr_REGISTERS, hv_REGISTERS⟩ := T.c_REGISTERS
  exact (ds_cons (ds_if (dt_eq rfl hr.units (de_ix rfl (de_var (pv 0)) de_int) de_str) (ds_cons (ds_set (i := 1) sc_term_line_in.nd (de_callD 0 d_term_in rfl (takes_of rfl rfl rfl rfl) (hr.mono (by decide)) (da_cons (de_slice (own := false) rfl (de_var (pv 0)) (do_some de_int) do_none) da_nil) (alen_cons alen_nil)))
    (ds_one (ds_ret (de_if (dt_is (de_var (pv 1)) de_non) de_non (de_tup (da_cons de_str (da_cons (de_var (pv 1)) da_nil))))))) ds_nil)
    (ds_cons (ds_set (i := 1) sc_term_line_in.nd (de_callD 0 d_term_in rfl (takes_of rfl rfl rfl rfl) (hr.mono (by decide)) (da_cons (de_slice (own := false) rfl (de_var (pv 0)) (do_some de_int) do_none) da_nil) (alen_cons alen_nil)))
    (ds_one (ds_ret (de_if (dt_w (dw_and (dt_gt (de_len rfl rfl T.b_len (da_cons (de_var (pv 0)) da_nil)) de_int) (dw_and (dt_in rfl (de_ix rfl (de_var (pv 0)) de_int) (de_c (pe_glob rfl hm_REGISTERS hr_REGISTERS) hv_REGISTERS)) (dw_and1 (dt_isnot (de_var (pv 1)) de_non))))) (de_tup (da_cons de_str (da_cons (de_ix rfl (de_var (pv 0)) de_int) (da_cons (de_var (pv 1)) da_nil)))) de_non)))))
def termLineF : Fn := trimF (runF 2 b_term_line_in)
theorem ok1_term_line_in {P : Program} {w : World} {K : Kt} {mg : Str → Option Value} {base : Heap} (T : Tx K mg) (d_term_in : Def P w K mg base "term_in" s_term_in 3 ["words"] termInF) : Def P w K mg base "term_line_in" s_term_line_in 4 ["words"] termLineF := (ok_term_line_in T d_term_in).trim
abbrev b_word_line_in : Sx :=
  (sSeq (sIf (tCmp' (gEqB true) (eB hLen (aCons (eVar 0) aNil)) (eC (.int 2))) (sRet (eC .non)) sNil)
    (sSeq (sIf (tCmp' (gEqB false) (eOp gIx (eVar 0) (eC (.int 0))) (eC (.str "go"))) (sRet (eIf (tCmp' (gIs false) (eCallDf 0 numF [.int 4] (aCons (eOp gIx (eVar 0) (eC (.int 1))) aNil)) (eC .non)) (eC .non) (eTup (aCons (eC (.str "go")) (aCons (eCallDf 0 numF [.int 4] (aCons (eOp gIx (eVar 0) (eC (.int 1))) aNil)) aNil))))) sNil)
    (sRet (eIf (tAnd' (tCmp' (gIn false) (eOp gIx (eVar 0) (eC (.int 0))) (eTup (aCons (eC (.str "lock")) (aCons (eC (.str "free")) aNil)))) (tTru (eCall 0 isNameF (aCons (eOp gIx (eVar 0) (eC (.int 1))) aNil)))) (eTup (aCons (eOp gIx (eVar 0) (eC (.int 0))) (aCons (eOp gIx (eVar 0) (eC (.int 1))) aNil))) (eC .non)))))
theorem ok_word_line_in {P : Program} {w : World} {K : Kt} {mg : Str → Option Value} {base : Heap} (T : Tx K mg) (d_number_in : DefX P w K mg base "number_in" 1 ["word", "most"] numF (PhiN K)) (d_is_name : Def P w K mg base "is_name" s_is_name 1 ["value"] isNameF) : Def P w K mg base "word_line_in" s_word_line_in 2 ["words"] (runF 1 b_word_line_in) := by
  refine mkDef (k := 1) (N := n_word_line_in) (body := b_word_line_in) T.t_word_line_in sc_word_line_in ?_
  rintro f G rfl cdv A outer s H E hr
  exact (ds_cons (ds_if (dt_ne rfl hr.units (de_len rfl rfl T.b_len (da_cons (de_var (pv 0)) da_nil)) de_int) (ds_one (ds_ret de_non)) ds_nil)
    (ds_cons (ds_if (dt_eq rfl hr.units (de_ix rfl (de_var (pv 0)) de_int) de_str) (ds_one (ds_ret (de_if (dt_is (de_callDf 0 d_number_in (fun _ h => h.2) rfl flatE (takes_of rfl rfl rfl rfl) (hr.mono (by decide)) (da_cons (de_ix rfl (de_var (pv 0)) de_int) da_nil) (alen_cons alen_nil) rfl) de_non) de_non (de_tup (da_cons de_str (da_cons (de_callDf 0 d_number_in (fun _ h => h.2) rfl flatE (takes_of rfl rfl rfl rfl) (hr.mono (by decide)) (da_cons (de_ix rfl (de_var (pv 0)) de_int) da_nil) (alen_cons alen_nil) rfl) da_nil)))))) ds_nil)
    (ds_one (ds_ret (de_if (dt_w (dw_and (dt_in rfl (de_ix rfl (de_var (pv 0)) de_int) (de_tup (da_cons de_str (da_cons de_str da_nil)))) (dw_and1 (dt_tru rfl (de_callD 0 d_is_name rfl (takes_of rfl rfl rfl rfl) (hr.mono (by decide)) (da_cons (de_ix rfl (de_var (pv 0)) de_int) da_nil) (alen_cons alen_nil)))))) (de_tup (da_cons (de_ix rfl (de_var (pv 0)) de_int) (da_cons (de_ix rfl (de_var (pv 0)) de_int) da_nil))) de_non)))))
def wordLineF : Fn := trimF (runF 1 b_word_line_in)
theorem ok1_word_line_in {P : Program} {w : World} {K : Kt} {mg : Str → Option Value} {base : Heap} (T : Tx K mg) (d_number_in : DefX P w K mg base "number_in" 1 ["word", "most"] numF (PhiN K)) (d_is_name : Def P w K mg base "is_name" s_is_name 1 ["value"] isNameF) : Def P w K mg base "word_line_in" s_word_line_in 2 ["words"] wordLineF := (ok_word_line_in T d_number_in d_is_name).trim
abbrev b_step_in : Sx :=
  (sSeq (sIf (tNot' (tTru (eUn (gIsi "str") (eVar 0)))) (sRet (eC .non)) sNil)
    (sSeq (sAsg (eMS gSplit (eVar 0) (eC (.str " "))) (gNm 1))
    (sSeq (sIf (tCmp' (gIn false) (eVar 0) (eC (.tup [.str "hold", .str "done", .str "end"]))) (sRet (eTup (aCons (eVar 0) aNil))) sNil)
    (sSeq (sIf (tCmp' (gIn false) (eOp gIx (eVar 1) (eC (.int 0))) (eTup (aCons (eC (.str "get")) (aCons (eC (.str "put")) (aCons (eC (.str "await")) aNil))))) (sRet (eCall 0 cellInF (aCons (eVar 1) aNil))) sNil)
    (sSeq (sIf (tCmp' (gEqB false) (eOp gIx (eVar 1) (eC (.int 0))) (eC (.str "if"))) (sRet (eCall 0 testInF (aCons (eVar 1) aNil))) sNil)
    (sRet (eIf (tCmp' (gIn false) (eOp gIx (eVar 1) (eC (.int 0))) (eTup (aCons (eC (.str "let")) (aCons (eC (.str "tell")) aNil)))) (eCall 0 termLineF (aCons (eVar 1) aNil)) (eCall 0 wordLineF (aCons (eVar 1) aNil)))))))))
theorem ok_step_in {P : Program} {w : World} {K : Kt} {mg : Str → Option Value} {base : Heap} (T : Tx K mg) (d_with_cell_in : Def P w K mg base "with_cell_in" s_with_cell_in 4 ["words"] cellInF) (d_test_in : Def P w K mg base "test_in" s_test_in 2 ["words"] testInF) (d_term_line_in : Def P w K mg base "term_line_in" s_term_line_in 4 ["words"] termLineF) (d_word_line_in : Def P w K mg base "word_line_in" s_word_line_in 2 ["words"] wordLineF) : Def P w K mg base "step_in" s_step_in 5 ["line"] (runF 2 b_step_in) := by
  refine mkDef (k := 4) (N := n_step_in) (body := b_step_in) T.t_step_in sc_step_in ?_
  rintro f G rfl cdv A outer s H E hr
  obtain ⟨v_SINGLE, u_SINGLE, hm_SINGLE, hr_SINGLE, hv_SINGLE⟩ := T.c_SINGLE
  exact (ds_cons (ds_if (dt_not (dt_tru rfl (de_isi rfl rfl T.b_isinstance rfl T.b_str (by decide +kernel) (de_var (pv 0))))) (ds_one (ds_ret de_non)) ds_nil)
    (ds_cons (ds_set (i := 1) sc_step_in.nd (de_split (de_var (pv 0)) de_str))
    (ds_cons (ds_if (dt_in rfl (de_var (pv 0)) (de_c (pe_glob rfl hm_SINGLE hr_SINGLE) hv_SINGLE)) (ds_one (ds_ret (de_tup (da_cons (de_var (pv 0)) da_nil)))) ds_nil)
    (ds_cons (ds_if (dt_in rfl (de_ix rfl (de_var (pv 1)) de_int) (de_tup (da_cons de_str (da_cons de_str (da_cons de_str da_nil))))) (ds_one (ds_ret (de_callD 0 d_with_cell_in rfl (takes_of rfl rfl rfl rfl) (hr.mono (by decide)) (da_cons (de_var (pv 1)) da_nil) (alen_cons alen_nil)))) ds_nil)
    (ds_cons (ds_if (dt_eq rfl hr.units (de_ix rfl (de_var (pv 1)) de_int) de_str) (ds_one (ds_ret (de_callD 0 d_test_in rfl (takes_of rfl rfl rfl rfl) (hr.mono (by decide)) (da_cons (de_var (pv 1)) da_nil) (alen_cons alen_nil)))) ds_nil)
    (ds_one (ds_ret (de_if (dt_in rfl (de_ix rfl (de_var (pv 1)) de_int) (de_tup (da_cons de_str (da_cons de_str da_nil)))) (de_callD 0 d_term_line_in rfl (takes_of rfl rfl rfl rfl) (hr.mono (by decide)) (da_cons (de_var (pv 1)) da_nil) (alen_cons alen_nil)) (de_callD 0 d_word_line_in rfl (takes_of rfl rfl rfl rfl) (hr.mono (by decide)) (da_cons (de_var (pv 1)) da_nil) (alen_cons alen_nil))))))))))
def stepInF : Fn := trimF (runF 2 b_step_in)
theorem ok1_step_in {P : Program} {w : World} {K : Kt} {mg : Str → Option Value} {base : Heap} (T : Tx K mg) (d_with_cell_in : Def P w K mg base "with_cell_in" s_with_cell_in 4 ["words"] cellInF) (d_test_in : Def P w K mg base "test_in" s_test_in 2 ["words"] testInF) (d_term_line_in : Def P w K mg base "term_line_in" s_term_line_in 4 ["words"] termLineF) (d_word_line_in : Def P w K mg base "word_line_in" s_word_line_in 2 ["words"] wordLineF) : Def P w K mg base "step_in" s_step_in 5 ["line"] stepInF := (ok_step_in T d_with_cell_in d_test_in d_term_line_in d_word_line_in).trim
abbrev b_steps_in : Sx :=
  (sSeq (sIf (tOr' (tNot' (tTru (eCall 0 isSeqF (aCons (eVar 0) aNil)))) (tCmp' (gEqB false) (eB hLen (aCons (eVar 0) aNil)) (eC (.int 0)))) (sRet (eC .non)) sNil)
    (sSeq (sAsg (eLc (iSq (eVar 0)) (gNm 2) tTrue (eCall 0 stepInF (aCons (eVar 2) aNil)) [2]) (gNm 1))
    (sSeq (sIf (tOr' (tCmp' (gInL false) (eC .non) (eVar 1)) (tNot' (tTru (eB hAll (aCons (eLc (iL (eVar 1)) (gNm 3) (tCmp' (gIn false) (eOp gIx (eVar 3) (eC (.int 0))) (eTup (aCons (eC (.str "if")) (aCons (eC (.str "go")) aNil)))) (eOp gLe (eOp gIx (eVar 3) (eUn gNeg (eC (.int 1)))) (eB hLen (aCons (eVar 1) aNil))) [3]) aNil))))) (sRet (eC .non)) sNil)
    (sRet (eB hTuple (aCons (eVar 1) aNil))))))
theorem ok_steps_in {P : Program} {w : World} {K : Kt} {mg : Str → Option Value} {base : Heap} (T : Tx K mg) (d_is_sequence : Def P w K mg base "is_sequence" s_is_sequence 1 ["value"] isSeqF) (d_step_in : Def P w K mg base "step_in" s_step_in 5 ["line"] stepInF) : Def P w K mg base "steps_in" s_steps_in 6 ["value"] (runF 4 b_steps_in) := by
  refine mkDef (k := 5) (N := n_steps_in) (body := b_steps_in) T.t_steps_in sc_steps_in ?_
  rintro f G rfl cdv A outer s H E hr
  exact (ds_cons (ds_if (dt_w (dw_or (dt_not (dt_tru rfl (de_callD 0 d_is_sequence rfl (takes_of rfl rfl rfl rfl) (hr.mono (by decide)) (da_cons (de_var (pv 0)) da_nil) (alen_cons alen_nil)))) (dw_or1 (dt_eq rfl hr.units (de_len rfl rfl T.b_len (da_cons (de_var (pv 0)) da_nil)) de_int)))) (ds_one (ds_ret de_non)) ds_nil)
    (ds_cons (ds_set (i := 1) sc_steps_in.nd (de_lc (own := [("line", 2)]) rfl sc_steps_in.nd (di_seq rfl (de_var (pv 0))) (blkOk_by (N := n_steps_in) (sc := defScope s_steps_in) (by decide +kernel)) (by decide) (fun _ _ _ _ _ => (dg_name (i := 2) sc_steps_in.nd)) (fun _ _ _ _ _ => dts_nil) (fun _ _ _ _ _ => (de_callD 0 d_step_in rfl takes0 (hr.mono (by decide)) (da_cons (de_var (pv 2)) da_nil) (alen_cons alen_nil)))))
    (ds_cons (ds_if (dt_w (dw_or (dt_inL rfl (units65 hr) de_non (de_var (pv 1)) rfl) (dw_or1 (dt_not (dt_tru rfl (de_all rfl rfl rfl T.b_all (da_cons (de_lc (own := [("step", 3)]) rfl sc_steps_in.nd (di_list rfl (de_var (pv 1))) (blkOk_by (N := n_steps_in) (sc := defScope s_steps_in) (by decide +kernel)) (by decide) (fun _ _ _ _ _ => (dg_name (i := 3) sc_steps_in.nd)) (fun _ _ _ _ _ => (dts_one (dt_in rfl (de_ix rfl (de_var (pv 3)) de_int) (de_tup (da_cons de_str (da_cons de_str da_nil)))))) (fun _ _ _ _ _ => (de_le (de_ix rfl (de_var (pv 3)) (de_neg de_int)) (de_len rfl rfl T.b_len (da_cons (de_var (pv 1)) da_nil))))) da_nil))))))) (ds_one (ds_ret de_non)) ds_nil)
    (ds_one (ds_ret (de_tuple1 rfl rfl T.b_tuple (da_cons (de_var (pv 1)) da_nil)))))))
def stepsInF : Fn := trimF (runF 4 b_steps_in)
theorem ok1_steps_in {P : Program} {w : World} {K : Kt} {mg : Str → Option Value} {base : Heap} (T : Tx K mg) (d_is_sequence : Def P w K mg base "is_sequence" s_is_sequence 1 ["value"] isSeqF) (d_step_in : Def P w K mg base "step_in" s_step_in 5 ["line"] stepInF) : Def P w K mg base "steps_in" s_steps_in 6 ["value"] stepsInF := (ok_steps_in T d_is_sequence d_step_in).trim
abbrev b_lot_of : Sx :=
  (sRet (eB hTuple (aCons (eSortSc 1 (eVar 0)) aNil)))
theorem ok_lot_of {P : Program} {w : World} {K : Kt} {mg : Str → Option Value} {base : Heap} (T : Tx K mg) : Def P w K mg base "lot_of" s_lot_of 1 ["things"] (runF 2 b_lot_of) := by
  refine mkDef (k := 0) (N := n_lot_of) (body := b_lot_of) T.t_lot_of sc_lot_of ?_
  rintro f G rfl cdv A outer s H E hr
  exact (ds_one (ds_ret (de_tuple1 rfl rfl T.b_tuple (da_cons (de_sortSc (i := 1) (x := "thing") rfl rfl sc_lot_of.nd rfl T.b_sorted (de_var (pv 0)) (blkOk_by (N := n_lot_of) (sc := defScope s_lot_of) (by decide +kernel)) (fun _ _ _ _ _ => pg_name (i := 1) sc_lot_of.nd rfl (Or.inl rfl)) (fun _ _ _ _ _ => pe_callTy SkE.call_str_str rfl T.b_str boot_str (pa_cons (pv 1) pa_nil))) da_nil))))
def lotOfF : Fn := trimF (runF 2 b_lot_of)
theorem ok1_lot_of {P : Program} {w : World} {K : Kt} {mg : Str → Option Value} {base : Heap} (T : Tx K mg) : Def P w K mg base "lot_of" s_lot_of 1 ["things"] lotOfF := (ok_lot_of T ).trim
abbrev b_pinit : Sx :=
  (sSeq (sIf (tNot' (tTru (eCall 0 isNameF (aCons (eVar 1) aNil)))) (sRaise 4 "word" (eC (.str "name"))) sNil)
    (sSeq (sAsg (eCall 0 stepsInF (aCons (eVar 2) aNil)) (gNm 3))
    (sSeq (sIf (tCmp' (gIs false) (eVar 3) (eC .non)) (sRaise 4 "word" (eC (.str "lines"))) sNil)
    (sSeq (sSetFld 0 "name" (eVar 1) (eVar 0))
    (sSeq (sSetFld 0 "lines" (eB hTuple (aCons (eVar 2) aNil)) (eVar 0))
    (sSeq (sSetFld 0 "steps" (eVar 3) (eVar 0))
    (sSeq (sSetFld 0 "cells" (eCall 0 lotOfF (aCons (eLc (iT (eVar 3)) (gNm 4) (tCmp' (gIn false) (eOp gIx (eVar 4) (eC (.int 0))) (eTup (aCons (eC (.str "get")) (aCons (eC (.str "put")) (aCons (eC (.str "await")) aNil))))) (eOp gIx (eVar 4) (eC (.int 1))) [4]) aNil)) (eVar 0))
    (sSetFld 0 "locks" (eCall 0 lotOfF (aCons (eLc (iT (eVar 3)) (gNm 4) (tCmp' (gIn false) (eOp gIx (eVar 4) (eC (.int 0))) (eTup (aCons (eC (.str "lock")) (aCons (eC (.str "free")) aNil)))) (eOp gIx (eVar 4) (eC (.int 1))) [4]) aNil)) (eVar 0)))))))))
theorem ok_pinit {P : Program} {w : World} {K : Kt} {mg : Str → Option Value} {base : Heap} (T : Tx K mg) (d_is_name : Def P w K mg base "is_name" s_is_name 1 ["value"] isNameF) (x_InvalidProgram : Xc P w K mg base "InvalidProgram" 4 "word") (d_steps_in : Def P w K mg base "steps_in" s_steps_in 6 ["value"] stepsInF) (d_lot_of : Def P w K mg base "lot_of" s_lot_of 1 ["things"] lotOfF) : DefC P w K mg base "Program" 0 7 ["self", "name", "lines"] (runF 5 b_pinit) := by
  refine mkDefC (k := 6) (N := n_pinit) (body := b_pinit) T.t_pinit sc_pinit ?_
  rintro f G rfl cdv A outer s H E hr
  exact (ds_cons (ds_if (dt_not (dt_tru rfl (de_callD 0 d_is_name rfl (takes_of rfl rfl rfl rfl) (hr.mono (by decide)) (da_cons (de_var (pv 1)) da_nil) (alen_cons alen_nil)))) (ds_one (ds_raise x_InvalidProgram rfl rfl (takes_of rfl rfl rfl rfl) (hr.mono (by decide)) de_str)) ds_nil)
    (ds_cons (ds_set (i := 3) sc_pinit.nd (de_callD 0 d_steps_in rfl (takes_of rfl rfl rfl rfl) (hr.mono (by decide)) (da_cons (de_var (pv 2)) da_nil) (alen_cons alen_nil)))
    (ds_cons (ds_if (dt_is (de_var (pv 3)) de_non) (ds_one (ds_raise x_InvalidProgram rfl rfl (takes_of rfl rfl rfl rfl) (hr.mono (by decide)) de_str)) ds_nil)
    (ds_cons (ds_fld rfl T.f_Program_name (de_var (pv 0)) (de_var (pv 1)))
    (ds_cons (ds_fld rfl T.f_Program_lines (de_var (pv 0)) (de_tuple1 rfl rfl T.b_tuple (da_cons (de_var (pv 2)) da_nil)))
    (ds_cons (ds_fld rfl T.f_Program_steps (de_var (pv 0)) (de_var (pv 3)))
    (ds_cons (ds_fld rfl T.f_Program_cells (de_var (pv 0)) (de_callD 0 d_lot_of rfl (takes_of rfl rfl rfl rfl) (hr.mono (by decide)) (da_cons (de_lc (own := [("step", 4)]) rfl sc_pinit.nd (di_tup rfl (de_var (pv 3))) (blkOk_by (N := n_pinit) (sc := defScope s_pinit) (by decide +kernel)) (by decide) (fun _ _ _ _ _ => (dg_name (i := 4) sc_pinit.nd)) (fun _ _ _ _ _ => (dts_one (dt_in rfl (de_ix rfl (de_var (pv 4)) de_int) (de_tup (da_cons de_str (da_cons de_str (da_cons de_str da_nil))))))) (fun _ _ _ _ _ => (de_ix rfl (de_var (pv 4)) de_int))) da_nil) (alen_cons alen_nil)))
    (ds_one (ds_fld rfl T.f_Program_locks (de_var (pv 0)) (de_callD 0 d_lot_of rfl (takes_of rfl rfl rfl rfl) (hr.mono (by decide)) (da_cons (de_lc (own := [("step", 4)]) rfl sc_pinit.nd (di_tup rfl (de_var (pv 3))) (blkOk_by (N := n_pinit) (sc := defScope s_pinit) (by decide +kernel)) (by decide) (fun _ _ _ _ _ => (dg_name (i := 4) sc_pinit.nd)) (fun _ _ _ _ _ => (dts_one (dt_in rfl (de_ix rfl (de_var (pv 4)) de_int) (de_tup (da_cons de_str (da_cons de_str da_nil)))))) (fun _ _ _ _ _ => (de_ix rfl (de_var (pv 4)) de_int))) da_nil) (alen_cons alen_nil)))))))))))
def pinitF : Fn := runF 5 b_pinit
theorem ok1_pinit {P : Program} {w : World} {K : Kt} {mg : Str → Option Value} {base : Heap} (T : Tx K mg) (d_is_name : Def P w K mg base "is_name" s_is_name 1 ["value"] isNameF) (x_InvalidProgram : Xc P w K mg base "InvalidProgram" 4 "word") (d_steps_in : Def P w K mg base "steps_in" s_steps_in 6 ["value"] stepsInF) (d_lot_of : Def P w K mg base "lot_of" s_lot_of 1 ["things"] lotOfF) : DefC P w K mg base "Program" 0 7 ["self", "name", "lines"] pinitF := (ok_pinit T d_is_name x_InvalidProgram d_steps_in d_lot_of)
abbrev b_is_lot : Sx :=
  (sSeq (sIf (tNot' (tTru (eUn (gIsiG (ansTC ["list", "tuple"] [0, 1, 2])) (eVar 0)))) (sRet (eC (.bl false))) sNil)
    (sSeq (sIf (tNot' (tTru (eB hAll (aCons (eLc (iSq (eVar 0)) (gNm 1) tTrue (eAnd (eUn (gIsi "str") (eVar 1)) (eOp (gIn false) (eVar 1) (eTup (aCons (eC (.str "gets")) (aCons (eC (.str "puts")) aNil))))) [1]) aNil)))) (sRet (eC (.bl false))) sNil)
    (sRet (eOp (gEqB false) (eLenSet (eVar 0)) (eB hLen (aCons (eVar 0) aNil))))))
theorem ok_is_lot {P : Program} {w : World} {K : Kt} {mg : Str → Option Value} {base : Heap} (T : Tx K mg) : Def P w K mg base "is_lot" s_is_lot 1 ["value"] (runF 2 b_is_lot) := by
  refine mkDef (k := 0) (N := n_is_lot) (body := b_is_lot) T.t_is_lot sc_is_lot ?_
  rintro f G rfl cdv A outer s H E hr
  obtain ⟨v_PUTS, u_PUTS, hm_PUTS, hr_PUTS, hv_PUTS⟩ := T.c_PUTS
  obtain ⟨v_GETS, u_GETS, hm_GETS, hr_GETS, hv_GETS⟩ := T.c_GETS
  exact (ds_cons (ds_if (dt_not (dt_tru rfl (de_isiT2G rfl rfl T.b_isinstance rfl T.b_list (by decide +kernel) rfl T.b_tuple (by decide +kernel) T.seqc (de_var (pv 0))))) (ds_one (ds_ret de_bl)) ds_nil)
    (ds_cons (ds_if (dt_not (dt_tru rfl (de_all rfl rfl rfl T.b_all (da_cons (de_lc (own := [("word", 1)]) rfl sc_is_lot.nd (di_seq rfl (de_var (pv 0))) (blkOk_by (N := n_is_lot) (sc := defScope s_is_lot) (by decide +kernel)) (by decide) (fun _ _ _ _ _ => (dg_name (i := 1) sc_is_lot.nd)) (fun _ _ _ _ _ => dts_nil) (fun _ _ _ _ _ => (de_and rfl (de_isi rfl rfl T.b_isinstance rfl T.b_str (by decide +kernel) (de_var (pv 1))) (de_one (de_in rfl (de_var (pv 1)) (de_tup (da_cons (de_c (pe_glob rfl hm_GETS hr_GETS) hv_GETS) (da_cons (de_c (pe_glob rfl hm_PUTS hr_PUTS) hv_PUTS) da_nil)))))))) da_nil)))) (ds_one (ds_ret de_bl)) ds_nil)
    (ds_one (ds_ret (de_eq rfl hr.units (de_lenSet rfl rfl rfl T.b_len rfl T.b_set (de_var (pv 0))) (de_len rfl rfl T.b_len (da_cons (de_var (pv 0)) da_nil)))))))
def isLotF : Fn := trimF (runF 2 b_is_lot)
theorem ok1_is_lot {P : Program} {w : World} {K : Kt} {mg : Str → Option Value} {base : Heap} (T : Tx K mg) : Def P w K mg base "is_lot" s_is_lot 1 ["value"] isLotF := (ok_is_lot T ).trim
abbrev b_rinit : Sx :=
  (sSeq (sIf (tOr' (tNot' (tTru (eUn (gIsi "str") (eVar 1)))) (tCmp' (gIn true) (eVar 1) (eC (.tup [.str "begin", .str "now"])))) (sRaise 6 "word" (eC (.str "sees"))) sNil)
    (sSeq (sIf (tNot' (tTru (eCall 0 isLotF (aCons (eVar 2) aNil)))) (sRaise 6 "word" (eC (.str "looks"))) sNil)
    (sSeq (sIf (tNot' (tTru (eCall 0 isLotF (aCons (eVar 3) aNil)))) (sRaise 6 "word" (eC (.str "takes"))) sNil)
    (sSeq (sSetFld 1 "sees" (eVar 1) (eVar 0))
    (sSeq (sSetFld 1 "looks" (eB hTuple (aCons (eB hSortS (aCons (eLc (iSq (eVar 2)) (gNm 4) tTrue (eB hStrS (aCons (eVar 4) aNil)) [4]) aNil)) aNil)) (eVar 0))
    (sSetFld 1 "takes" (eB hTuple (aCons (eB hSortS (aCons (eLc (iSq (eVar 3)) (gNm 4) tTrue (eB hStrS (aCons (eVar 4) aNil)) [4]) aNil)) aNil)) (eVar 0)))))))
theorem ok_rinit {P : Program} {w : World} {K : Kt} {mg : Str → Option Value} {base : Heap} (T : Tx K mg) (x_InvalidRule : Xc P w K mg base "InvalidRule" 6 "word") (d_is_lot : Def P w K mg base "is_lot" s_is_lot 1 ["value"] isLotF) : DefCX P w K mg base "Rule" 1 3 ["self", "sees", "looks", "takes"] (runF 5 b_rinit) (PhiR K) := by
  refine mkDefCX (k := 2) (N := n_rinit) (body := b_rinit) T.t_rinit sc_rinit ?_
  rintro f G rfl cdv A outer s H E hr
  obtain ⟨v_SIGHTS, u_SIGHTS, hm_SIGHTS, hr_SIGHTS, hv_SIGHTS⟩ := T.c_SIGHTS
  exact (ds_cons (ds_if (dt_w (dw_or (dt_not (dt_tru rfl (de_isi rfl rfl T.b_isinstance rfl T.b_str (by decide +kernel) (de_var (pv 1))))) (dw_or1 (dt_notin rfl (de_var (pv 1)) (de_c (pe_glob rfl hm_SIGHTS hr_SIGHTS) hv_SIGHTS))))) (ds_one (ds_raise x_InvalidRule rfl rfl (takes_of rfl rfl rfl rfl) (hr.mono (by decide)) de_str)) ds_nil)
    (ds_cons (ds_if (dt_not (dt_tru rfl (de_callD 0 d_is_lot rfl (takes_of rfl rfl rfl rfl) (hr.mono (by decide)) (da_cons (de_var (pv 2)) da_nil) (alen_cons alen_nil)))) (ds_one (ds_raise x_InvalidRule rfl rfl (takes_of rfl rfl rfl rfl) (hr.mono (by decide)) de_str)) ds_nil)
    (ds_cons (ds_if (dt_not (dt_tru rfl (de_callD 0 d_is_lot rfl (takes_of rfl rfl rfl rfl) (hr.mono (by decide)) (da_cons (de_var (pv 3)) da_nil) (alen_cons alen_nil)))) (ds_one (ds_raise x_InvalidRule rfl rfl (takes_of rfl rfl rfl rfl) (hr.mono (by decide)) de_str)) ds_nil)
    (ds_cons (ds_fld rfl T.f_Rule_sees (de_var (pv 0)) (de_var (pv 1)))
    (ds_cons (ds_fld rfl T.f_Rule_looks (de_var (pv 0)) (de_tuple1 rfl rfl T.b_tuple (da_cons (de_sortS rfl rfl T.b_sorted (da_cons (de_lc (own := [("word", 4)]) rfl sc_rinit.nd (di_seq rfl (de_var (pv 2))) (blkOk_by (N := n_rinit) (sc := defScope s_rinit) (by decide +kernel)) (by decide) (fun _ _ _ _ _ => (dg_name (i := 4) sc_rinit.nd)) (fun _ _ _ _ _ => dts_nil) (fun _ _ _ _ _ => (de_strS rfl T.b_str (da_cons (de_var (pv 4)) da_nil)))) da_nil)) da_nil)))
    (ds_one (ds_fld rfl T.f_Rule_takes (de_var (pv 0)) (de_tuple1 rfl rfl T.b_tuple (da_cons (de_sortS rfl rfl T.b_sorted (da_cons (de_lc (own := [("word", 4)]) rfl sc_rinit.nd (di_seq rfl (de_var (pv 3))) (blkOk_by (N := n_rinit) (sc := defScope s_rinit) (by decide +kernel)) (by decide) (fun _ _ _ _ _ => (dg_name (i := 4) sc_rinit.nd)) (fun _ _ _ _ _ => dts_nil) (fun _ _ _ _ _ => (de_strS rfl T.b_str (da_cons (de_var (pv 4)) da_nil)))) da_nil)) da_nil)))))))))
def rinitF : Fn := runF 5 b_rinit
theorem ok1_rinit {P : Program} {w : World} {K : Kt} {mg : Str → Option Value} {base : Heap} (T : Tx K mg) (x_InvalidRule : Xc P w K mg base "InvalidRule" 6 "word") (d_is_lot : Def P w K mg base "is_lot" s_is_lot 1 ["value"] isLotF) : DefCX P w K mg base "Rule" 1 3 ["self", "sees", "looks", "takes"] rinitF (PhiR K) := (ok_rinit T x_InvalidRule d_is_lot)
abbrev b_tinit : Sx :=
  (sSeq (sIf (tNot' (tTru (eUn (gIsi "bool") (eVar 1)))) (sRaise 7 "word" (eC (.str "ranked"))) sNil)
    (sSeq (sIf (tOr' (tNot' (tTru (eUn (gIsi "bool") (eVar 2)))) (tAnd' (tTru (eVar 2)) (tNot' (tTru (eVar 1))))) (sRaise 7 "word" (eC (.str "lent"))) sNil)
    (sSeq (sIf (tAnd' (tCmp' (gIs true) (eVar 3) (eC .non)) (tOr' (tNot' (tTru (eCall 0 isNumF (aCons (eVar 3) aNil)))) (tCmp' (gEqB false) (eVar 3) (eC (.int 0))))) (sRaise 7 "word" (eC (.str "fair"))) sNil)
    (sSeq (sSetFld 2 "ranked" (eVar 1) (eVar 0))
    (sSeq (sSetFld 2 "lent" (eVar 2) (eVar 0))
    (sSetFld 2 "fair" (eVar 3) (eVar 0)))))))
theorem ok_tinit {P : Program} {w : World} {K : Kt} {mg : Str → Option Value} {base : Heap} (T : Tx K mg) (x_InvalidTurns : Xc P w K mg base "InvalidTurns" 7 "word") (d_is_number : Def P w K mg base "is_number" s_is_number 2 ["value"] isNumF) : DefCX P w K mg base "Turns" 2 3 ["self", "ranked", "lent", "fair"] (runF 4 b_tinit) (PhiT K) := by
  refine mkDefCX (k := 2) (N := n_tinit) (body := b_tinit) T.t_tinit sc_tinit ?_
  rintro f G rfl cdv A outer s H E hr
  exact (ds_cons (ds_if (dt_not (dt_tru rfl (de_isi rfl rfl T.b_isinstance rfl T.b_bool (by decide +kernel) (de_var (pv 1))))) (ds_one (ds_raise x_InvalidTurns rfl rfl (takes_of rfl rfl rfl rfl) (hr.mono (by decide)) de_str)) ds_nil)
    (ds_cons (ds_if (dt_w (dw_or (dt_not (dt_tru rfl (de_isi rfl rfl T.b_isinstance rfl T.b_bool (by decide +kernel) (de_var (pv 2))))) (dw_or1 (dt_w (dw_and (dt_tru rfl (de_var (pv 2))) (dw_and1 (dt_not (dt_tru rfl (de_var (pv 1)))))))))) (ds_one (ds_raise x_InvalidTurns rfl rfl (takes_of rfl rfl rfl rfl) (hr.mono (by decide)) de_str)) ds_nil)
    (ds_cons (ds_if (dt_w (dw_and (dt_isnot (de_var (pv 3)) de_non) (dw_and1 (dt_w (dw_or (dt_not (dt_tru rfl (de_callD 0 d_is_number rfl (takes_of rfl rfl rfl rfl) (hr.mono (by decide)) (da_cons (de_var (pv 3)) da_nil) (alen_cons alen_nil)))) (dw_or1 (dt_eq rfl hr.units (de_var (pv 3)) de_int))))))) (ds_one (ds_raise x_InvalidTurns rfl rfl (takes_of rfl rfl rfl rfl) (hr.mono (by decide)) de_str)) ds_nil)
    (ds_cons (ds_fld rfl T.f_Turns_ranked (de_var (pv 0)) (de_var (pv 1)))
    (ds_cons (ds_fld rfl T.f_Turns_lent (de_var (pv 0)) (de_var (pv 2)))
    (ds_one (ds_fld rfl T.f_Turns_fair (de_var (pv 0)) (de_var (pv 3)))))))))
def tinitF : Fn := runF 4 b_tinit
theorem ok1_tinit {P : Program} {w : World} {K : Kt} {mg : Str → Option Value} {base : Heap} (T : Tx K mg) (x_InvalidTurns : Xc P w K mg base "InvalidTurns" 7 "word") (d_is_number : Def P w K mg base "is_number" s_is_number 2 ["value"] isNumF) : DefCX P w K mg base "Turns" 2 3 ["self", "ranked", "lent", "fair"] tinitF (PhiT K) := (ok_tinit T x_InvalidTurns d_is_number)
abbrev b_are_cells : Sx :=
  (sSeq (sIf (tOr' (tNot' (tTru (eCall 0 isSeqF (aCons (eVar 0) aNil)))) (tCmp' (gEqB false) (eB hLen (aCons (eVar 0) aNil)) (eC (.int 0)))) (sRet (eC (.bl false))) sNil)
    (sSeq (sFor (iSq (eVar 0)) (gNm 1) (sIf (tOr' (tNot' (tTru (eCall 0 isTupF (aCons (eVar 1) (aCons (eC (.int 2)) aNil))))) (tOr' (tNot' (tTru (eCall 0 isNameF (aCons (eOp gIx (eVar 1) (eC (.int 0))) aNil)))) (tOr' (tNot' (tTru (eCall 0 isIntF (aCons (eOp gIx (eVar 1) (eC (.int 1))) aNil)))) (tNot' (tChn gLe gLe (eC (.int 2)) (eOp gIx (eVar 1) (eC (.int 1))) (eC (.int 4))))))) (sRet (eC (.bl false))) sNil))
    (sRet (eCall 0 unlikeF (aCons (eLc (iSq (eVar 0)) (gTp 2 (gsCons (gNm 2) (gsCons (gNm 3) gsNil))) tTrue (eVar 2) [2, 3]) aNil)))))
theorem ok_are_cells {P : Program} {w : World} {K : Kt} {mg : Str → Option Value} {base : Heap} (T : Tx K mg) (d_is_sequence : Def P w K mg base "is_sequence" s_is_sequence 1 ["value"] isSeqF) (d_is_tuple_of : Def P w K mg base "is_tuple_of" s_is_tuple_of 1 ["value", "size"] isTupF) (d_is_name : Def P w K mg base "is_name" s_is_name 1 ["value"] isNameF) (d_is_integer : Def P w K mg base "is_integer" s_is_integer 1 ["value"] isIntF) (d_are_unlike : Def P w K mg base "are_unlike" s_are_unlike 1 ["things"] unlikeF) : Def P w K mg base "are_cells" s_are_cells 2 ["value"] (runF 4 b_are_cells) := by
  refine mkDef (k := 1) (N := n_are_cells) (body := b_are_cells) T.t_are_cells sc_are_cells ?_
  rintro f G rfl cdv A outer s H E hr
  exact (ds_cons (ds_if (dt_w (dw_or (dt_not (dt_tru rfl (de_callD 0 d_is_sequence rfl (takes_of rfl rfl rfl rfl) (hr.mono (by decide)) (da_cons (de_var (pv 0)) da_nil) (alen_cons alen_nil)))) (dw_or1 (dt_eq rfl hr.units (de_len rfl rfl T.b_len (da_cons (de_var (pv 0)) da_nil)) de_int)))) (ds_one (ds_ret de_bl)) ds_nil)
    (ds_cons (ds_for (passes_of rfl) rfl (di_seq rfl (de_var (pv 0))) (dg_name (i := 1) sc_are_cells.nd) (ds_one (ds_if (dt_w (dw_or (dt_not (dt_tru rfl (de_callD 0 d_is_tuple_of rfl (takes_of rfl rfl rfl rfl) (hr.mono (by decide)) (da_cons (de_var (pv 1)) (da_cons de_int da_nil)) (alen_cons (alen_cons alen_nil))))) (dw_or (dt_not (dt_tru rfl (de_callD 0 d_is_name rfl (takes_of rfl rfl rfl rfl) (hr.mono (by decide)) (da_cons (de_ix rfl (de_var (pv 1)) de_int) da_nil) (alen_cons alen_nil)))) (dw_or (dt_not (dt_tru rfl (de_callD 0 d_is_integer rfl (takes_of rfl rfl rfl rfl) (hr.mono (by decide)) (da_cons (de_ix rfl (de_var (pv 1)) de_int) da_nil) (alen_cons alen_nil)))) (dw_or1 (dt_not (dt_chain (op_le.or op_le_str) (op_le.or op_le_str) v2_ord v2_ord de_int (de_ix rfl (de_var (pv 1)) de_int) de_int))))))) (ds_one (ds_ret de_bl)) ds_nil)))
    (ds_one (ds_ret (de_callD 0 d_are_unlike rfl (takes_of rfl rfl rfl rfl) (hr.mono (by decide)) (da_cons (de_lc (own := [("name", 2), ("size", 3)]) rfl sc_are_cells.nd (di_seq rfl (de_var (pv 0))) (blkOk_by (N := n_are_cells) (sc := defScope s_are_cells) (by decide +kernel)) (by decide) (fun _ _ _ _ _ => (dg_tup rfl rfl (dgs_cons (dg_name (i := 2) sc_are_cells.nd) (dgs_cons (dg_name (i := 3) sc_are_cells.nd) dgs_nil)))) (fun _ _ _ _ _ => dts_nil) (fun _ _ _ _ _ => (de_var (pv 2)))) da_nil) (alen_cons alen_nil))))))
def areCellsF : Fn := trimF (runF 4 b_are_cells)
theorem ok1_are_cells {P : Program} {w : World} {K : Kt} {mg : Str → Option Value} {base : Heap} (T : Tx K mg) (d_is_sequence : Def P w K mg base "is_sequence" s_is_sequence 1 ["value"] isSeqF) (d_is_tuple_of : Def P w K mg base "is_tuple_of" s_is_tuple_of 1 ["value", "size"] isTupF) (d_is_name : Def P w K mg base "is_name" s_is_name 1 ["value"] isNameF) (d_is_integer : Def P w K mg base "is_integer" s_is_integer 1 ["value"] isIntF) (d_are_unlike : Def P w K mg base "are_unlike" s_are_unlike 1 ["things"] unlikeF) : Def P w K mg base "are_cells" s_are_cells 2 ["value"] areCellsF := (ok_are_cells T d_is_sequence d_is_tuple_of d_is_name d_is_integer d_are_unlike).trim
abbrev b_goes_with : Sx :=
  (sSeq (sIf (tNot' (tTru (eB hAll (aCons (eLc (iT (eUn (gFldC 0 "cells") (eVar 0))) (gNm 2) tTrue (eOp (gInD false) (eVar 2) (eVar 1)) [2]) aNil)))) (sRet (eC (.bl false))) sNil)
    (sRet (eB hAll (aCons (eLc (iT (eUn (gFldC 0 "steps") (eVar 0))) (gNm 3) (tCmp' (gEqB false) (eOp gIx (eVar 3) (eC (.int 0))) (eC (.str "await"))) (eOp gLt (eOp gIx (eVar 3) (eC (.int 2))) (eOp gIxD (eVar 1) (eOp gIx (eVar 3) (eC (.int 1))))) [3]) aNil))))
theorem ok_goes_with {P : Program} {w : World} {K : Kt} {mg : Str → Option Value} {base : Heap} (T : Tx K mg) : Def P w K mg base "goes_with" s_goes_with 1 ["program", "sizes"] (runF 4 b_goes_with) := by
  refine mkDef (k := 0) (N := n_goes_with) (body := b_goes_with) T.t_goes_with sc_goes_with ?_
  rintro f G rfl cdv A outer s H E hr
  exact (ds_cons (ds_if (dt_not (dt_tru rfl (de_all rfl rfl rfl T.b_all (da_cons (de_lc (own := [("cell", 2)]) rfl sc_goes_with.nd (di_tup rfl (de_fld rfl T.f_Program_cells (de_var (pv 0)))) (blkOk_by (N := n_goes_with) (sc := defScope s_goes_with) (by decide +kernel)) (by decide) (fun _ _ _ _ _ => (dg_name (i := 2) sc_goes_with.nd)) (fun _ _ _ _ _ => dts_nil) (fun _ _ _ _ _ => (de_inD (units1 hr) (de_var (pv 2)) (de_var (pv 1))))) da_nil)))) (ds_one (ds_ret de_bl)) ds_nil)
    (ds_one (ds_ret (de_all rfl rfl rfl T.b_all (da_cons (de_lc (own := [("step", 3)]) rfl sc_goes_with.nd (di_tup rfl (de_fld rfl T.f_Program_steps (de_var (pv 0)))) (blkOk_by (N := n_goes_with) (sc := defScope s_goes_with) (by decide +kernel)) (by decide) (fun _ _ _ _ _ => (dg_name (i := 3) sc_goes_with.nd)) (fun _ _ _ _ _ => (dts_one (dt_eq rfl hr.units (de_ix rfl (de_var (pv 3)) de_int) de_str))) (fun _ _ _ _ _ => (de_lt (de_ix rfl (de_var (pv 3)) de_int) (de_ixD (units1 hr) (de_var (pv 1)) (de_ix rfl (de_var (pv 3)) de_int))))) da_nil)))))
def goesF : Fn := trimF (runF 4 b_goes_with)
theorem ok1_goes_with {P : Program} {w : World} {K : Kt} {mg : Str → Option Value} {base : Heap} (T : Tx K mg) : Def P w K mg base "goes_with" s_goes_with 1 ["program", "sizes"] goesF := (ok_goes_with T ).trim
abbrev b_are_programs : Sx :=
  (sSeq (sIf (tOr' (tNot' (tTru (eCall 0 isSeqF (aCons (eVar 0) aNil)))) (tCmp' (gEqB false) (eB hLen (aCons (eVar 0) aNil)) (eC (.int 0)))) (sRet (eC (.bl false))) sNil)
    (sSeq (sIf (tNot' (tTru (eB hAll (aCons (eLc (iSq (eVar 0)) (gNm 2) tTrue (eAnd (eUn (gIsiG (ansOC 0 [1, 2])) (eVar 2)) (eCall 0 goesF (aCons (eVar 2) (aCons (eB hDict (aCons (eVar 1) aNil)) aNil)))) [2]) aNil)))) (sRet (eC (.bl false))) sNil)
    (sRet (eCall 0 unlikeF (aCons (eLc (iSq (eVar 0)) (gNm 2) tTrue (eUn (gFldC 0 "name") (eVar 2)) [2]) aNil)))))
theorem ok_are_programs {P : Program} {w : World} {K : Kt} {mg : Str → Option Value} {base : Heap} (T : Tx K mg) (d_is_sequence : Def P w K mg base "is_sequence" s_is_sequence 1 ["value"] isSeqF) (d_goes_with : Def P w K mg base "goes_with" s_goes_with 1 ["program", "sizes"] goesF) (d_are_unlike : Def P w K mg base "are_unlike" s_are_unlike 1 ["things"] unlikeF) : Def P w K mg base "are_programs" s_are_programs 2 ["value", "cells"] (runF 3 b_are_programs) := by
  refine mkDef (k := 1) (N := n_are_programs) (body := b_are_programs) T.t_are_programs sc_are_programs ?_
  rintro f G rfl cdv A outer s H E hr
  exact (ds_cons (ds_if (dt_w (dw_or (dt_not (dt_tru rfl (de_callD 0 d_is_sequence rfl (takes_of rfl rfl rfl rfl) (hr.mono (by decide)) (da_cons (de_var (pv 0)) da_nil) (alen_cons alen_nil)))) (dw_or1 (dt_eq rfl hr.units (de_len rfl rfl T.b_len (da_cons (de_var (pv 0)) da_nil)) de_int)))) (ds_one (ds_ret de_bl)) ds_nil)
    (ds_cons (ds_if (dt_not (dt_tru rfl (de_all rfl rfl rfl T.b_all (da_cons (de_lc (own := [("one", 2)]) rfl sc_are_programs.nd (di_seq rfl (de_var (pv 0))) (blkOk_by (N := n_are_programs) (sc := defScope s_are_programs) (by decide +kernel)) (by decide) (fun _ _ _ _ _ => (dg_name (i := 2) sc_are_programs.nd)) (fun _ _ _ _ _ => dts_nil) (fun _ _ _ _ _ => (de_and rfl (de_isiO rfl T.ao_Program rfl T.b_isinstance rfl T.xm_Program (de_var (pv 2))) (de_one (de_callD 0 d_goes_with rfl takes0 (hr.mono (by decide)) (da_cons (de_var (pv 2)) (da_cons (de_dict1 rfl rfl rfl T.b_dict (da_cons (de_var (pv 1)) da_nil)) da_nil)) (alen_cons (alen_cons alen_nil))))))) da_nil)))) (ds_one (ds_ret de_bl)) ds_nil)
    (ds_one (ds_ret (de_callD 0 d_are_unlike rfl (takes_of rfl rfl rfl rfl) (hr.mono (by decide)) (da_cons (de_lc (own := [("one", 2)]) rfl sc_are_programs.nd (di_seq rfl (de_var (pv 0))) (blkOk_by (N := n_are_programs) (sc := defScope s_are_programs) (by decide +kernel)) (by decide) (fun _ _ _ _ _ => (dg_name (i := 2) sc_are_programs.nd)) (fun _ _ _ _ _ => dts_nil) (fun _ _ _ _ _ => (de_fld rfl T.f_Program_name (de_var (pv 2))))) da_nil) (alen_cons alen_nil))))))
def areProgsF : Fn := trimF (runF 3 b_are_programs)
theorem ok1_are_programs {P : Program} {w : World} {K : Kt} {mg : Str → Option Value} {base : Heap} (T : Tx K mg) (d_is_sequence : Def P w K mg base "is_sequence" s_is_sequence 1 ["value"] isSeqF) (d_goes_with : Def P w K mg base "goes_with" s_goes_with 1 ["program", "sizes"] goesF) (d_are_unlike : Def P w K mg base "are_unlike" s_are_unlike 1 ["things"] unlikeF) : Def P w K mg base "are_programs" s_are_programs 2 ["value", "cells"] areProgsF := (ok_are_programs T d_is_sequence d_goes_with d_are_unlike).trim
abbrev b_hinit : Sx :=
  (sSeq (sIf (tNot' (tTru (eCall 0 areCellsF (aCons (eVar 1) aNil)))) (sRaise 5 "word" (eC (.str "cells"))) sNil)
    (sSeq (sIf (tNot' (tTru (eCall 0 areProgsF (aCons (eVar 2) (aCons (eVar 1) aNil))))) (sRaise 5 "word" (eC (.str "programs"))) sNil)
    (sSeq (sIf (tNot' (tTru (eUn (gIsiG (ansOC 1 [0, 2])) (eVar 3)))) (sRaise 5 "word" (eC (.str "rule"))) sNil)
    (sSeq (sIf (tNot' (tTru (eCall 0 lotOfWF (aCons (eVar 4) (aCons (eC (.tup [.str "late", .str "marks", .str "places"])) aNil))))) (sRaise 5 "word" (eC (.str "log"))) sNil)
    (sSeq (sIf (tOr' (tNot' (tTru (eUn (gIsi "str") (eVar 5)))) (tCmp' (gIn true) (eVar 5) (eC (.tup [.str "soon", .str "own", .str "firm"])))) (sRaise 5 "word" (eC (.str "tells"))) sNil)
    (sSeq (sIf (tAnd' (tCmp' (gIs true) (eVar 6) (eC .non)) (tNot' (tTru (eUn (gIsiG (ansOC 2 [0, 1])) (eVar 6))))) (sRaise 5 "word" (eC (.str "turns"))) sNil)
    (sSeq (sSetFld 3 "cells" (eB hTupleB (aCons (eVar 1) aNil)) (eVar 0))
    (sSeq (sSetFld 3 "programs" (eB hTuple (aCons (eVar 2) aNil)) (eVar 0))
    (sSeq (sSetFld 3 "rule" (eVar 3) (eVar 0))
    (sSeq (sSetFld 3 "log" (eB hTuple (aCons (eB hSortQ (aCons (eVar 4) aNil)) aNil)) (eVar 0))
    (sSeq (sSetFld 3 "tells" (eVar 5) (eVar 0))
    (sSeq (sSetFld 3 "turns" (eIf (tCmp' (gIs false) (eVar 6) (eC .non)) (eMake0 2 tinitF [.bl false, .bl false, .non]) (eVar 6)) (eVar 0))
    (sSeq (sSetFld 3 "places" (eDc (iEnQ (aCons (eVar 1) aNil)) (gTp 2 (gsCons (gNm 7) (gsCons (gTp 2 (gsCons (gNm 8) (gsCons (gNm 9) gsNil))) gsNil))) tTrue (eVar 8) (eVar 7) [7, 8, 9]) (eVar 0))
    (sSeq (sSetFld 3 "sizes" (eDc (iSq (eVar 1)) (gTp 2 (gsCons (gNm 8) (gsCons (gNm 9) gsNil))) tTrue (eVar 8) (eVar 9) [8, 9]) (eVar 0))
    (sSetFld 3 "named" (eDc (iSq (eVar 2)) (gNm 10) tTrue (eUn (gFldC 0 "name") (eVar 10)) (eVar 10) [10]) (eVar 0))))))))))))))))
theorem ok_hinit {P : Program} {w : World} {K : Kt} {mg : Str → Option Value} {base : Heap} (T : Tx K mg) (d_are_cells : Def P w K mg base "are_cells" s_are_cells 2 ["value"] areCellsF) (x_InvalidHouse : Xc P w K mg base "InvalidHouse" 5 "word") (d_are_programs : Def P w K mg base "are_programs" s_are_programs 2 ["value", "cells"] areProgsF) (d_is_lot_of : Def P w K mg base "is_lot_of" s_is_lot_of 2 ["value", "words"] lotOfWF) (m_Turns : DefCX P w K mg base "Turns" 2 3 ["self", "ranked", "lent", "fair"] tinitF (PhiT K)) : DefC P w K mg base "House" 3 5 ["self", "cells", "programs", "rule", "log", "tells", "turns"] (runF 11 b_hinit) := by
  refine mkDefC (k := 4) (N := n_hinit) (body := b_hinit) T.t_hinit sc_hinit ?_
  rintro f G rfl cdv A outer s H E hr
  obtain ⟨v_LOG, u_LOG, hm_LOG, hr_LOG, hv_LOG⟩ := T.c_LOG
  obtain ⟨v_TELLS, u_TELLS, hm_TELLS, hr_TELLS, hv_TELLS⟩ := T.c_TELLS
  exact (ds_cons (ds_if (dt_not (dt_tru rfl (de_callD 0 d_are_cells rfl (takes_of rfl rfl rfl rfl) (hr.mono (by decide)) (da_cons (de_var (pv 1)) da_nil) (alen_cons alen_nil)))) (ds_one (ds_raise x_InvalidHouse rfl rfl (takes_of rfl rfl rfl rfl) (hr.mono (by decide)) de_str)) ds_nil)
    (ds_cons (ds_if (dt_not (dt_tru rfl (de_callD 0 d_are_programs rfl (takes_of rfl rfl rfl rfl) (hr.mono (by decide)) (da_cons (de_var (pv 2)) (da_cons (de_var (pv 1)) da_nil)) (alen_cons (alen_cons alen_nil))))) (ds_one (ds_raise x_InvalidHouse rfl rfl (takes_of rfl rfl rfl rfl) (hr.mono (by decide)) de_str)) ds_nil)
    (ds_cons (ds_if (dt_not (dt_tru rfl (de_isiO rfl T.ao_Rule rfl T.b_isinstance rfl T.xm_Rule (de_var (pv 3))))) (ds_one (ds_raise x_InvalidHouse rfl rfl (takes_of rfl rfl rfl rfl) (hr.mono (by decide)) de_str)) ds_nil)
    (ds_cons (ds_if (dt_not (dt_tru rfl (de_callD 0 d_is_lot_of rfl (takes_of rfl rfl rfl rfl) (hr.mono (by decide)) (da_cons (de_var (pv 4)) (da_cons (de_c (pe_glob rfl hm_LOG hr_LOG) hv_LOG) da_nil)) (alen_cons (alen_cons alen_nil))))) (ds_one (ds_raise x_InvalidHouse rfl rfl (takes_of rfl rfl rfl rfl) (hr.mono (by decide)) de_str)) ds_nil)
    (ds_cons (ds_if (dt_w (dw_or (dt_not (dt_tru rfl (de_isi rfl rfl T.b_isinstance rfl T.b_str (by decide +kernel) (de_var (pv 5))))) (dw_or1 (dt_notin rfl (de_var (pv 5)) (de_c (pe_glob rfl hm_TELLS hr_TELLS) hv_TELLS))))) (ds_one (ds_raise x_InvalidHouse rfl rfl (takes_of rfl rfl rfl rfl) (hr.mono (by decide)) de_str)) ds_nil)
    (ds_cons (ds_if (dt_w (dw_and (dt_isnot (de_var (pv 6)) de_non) (dw_and1 (dt_not (dt_tru rfl (de_isiO rfl T.ao_Turns rfl T.b_isinstance rfl T.xm_Turns (de_var (pv 6)))))))) (ds_one (ds_raise x_InvalidHouse rfl rfl (takes_of rfl rfl rfl rfl) (hr.mono (by decide)) de_str)) ds_nil)
    (ds_cons (ds_fld rfl T.f_House_cells (de_var (pv 0)) (de_tupleB rfl rfl T.b_tuple (da_cons (de_var (pv 1)) da_nil)))
    (ds_cons (ds_fld rfl T.f_House_programs (de_var (pv 0)) (de_tuple1 rfl rfl T.b_tuple (da_cons (de_var (pv 2)) da_nil)))
    (ds_cons (ds_fld rfl T.f_House_rule (de_var (pv 0)) (de_var (pv 3)))
    (ds_cons (ds_fld rfl T.f_House_log (de_var (pv 0)) (de_tuple1 rfl rfl T.b_tuple (da_cons (de_sortQ rfl rfl T.b_sorted (da_cons (de_var (pv 4)) da_nil)) da_nil)))
    (ds_cons (ds_fld rfl T.f_House_tells (de_var (pv 0)) (de_var (pv 5)))
    (ds_cons (ds_fld rfl T.f_House_turns (de_var (pv 0)) (de_if (dt_is (de_var (pv 6)) de_non) (de_make0D m_Turns (fun _ h => h) rfl flatE (takes_of rfl rfl rfl rfl) (hr.mono (by decide)) rfl) (de_var (pv 6))))
    (ds_cons (ds_fld rfl T.f_House_places (de_var (pv 0)) (de_dc (own := [("at", 7), ("cell", 8), ("size", 9)]) rfl sc_hinit.nd (di_enumQ rfl rfl T.b_enumerate (da_cons (de_var (pv 1)) da_nil)) (blkOk_by (N := n_hinit) (sc := defScope s_hinit) (by decide +kernel)) (by decide) (fun _ _ _ _ _ => (dg_tup rfl rfl (dgs_cons (dg_name (i := 7) sc_hinit.nd) (dgs_cons (dg_tup rfl rfl (dgs_cons (dg_name (i := 8) sc_hinit.nd) (dgs_cons (dg_name (i := 9) sc_hinit.nd) dgs_nil))) dgs_nil)))) (fun _ _ _ _ _ => dts_nil) (fun _ _ _ _ _ => (de_var (pv 8))) (fun _ _ _ _ _ => (de_var (pv 7)))))
    (ds_cons (ds_fld rfl T.f_House_sizes (de_var (pv 0)) (de_dc (own := [("cell", 8), ("size", 9)]) rfl sc_hinit.nd (di_seq rfl (de_var (pv 1))) (blkOk_by (N := n_hinit) (sc := defScope s_hinit) (by decide +kernel)) (by decide) (fun _ _ _ _ _ => (dg_tup rfl rfl (dgs_cons (dg_name (i := 8) sc_hinit.nd) (dgs_cons (dg_name (i := 9) sc_hinit.nd) dgs_nil)))) (fun _ _ _ _ _ => dts_nil) (fun _ _ _ _ _ => (de_var (pv 8))) (fun _ _ _ _ _ => (de_var (pv 9)))))
    (ds_one (ds_fld rfl T.f_House_named (de_var (pv 0)) (de_dc (own := [("one", 10)]) rfl sc_hinit.nd (di_seq rfl (de_var (pv 2))) (blkOk_by (N := n_hinit) (sc := defScope s_hinit) (by decide +kernel)) (by decide) (fun _ _ _ _ _ => (dg_name (i := 10) sc_hinit.nd)) (fun _ _ _ _ _ => dts_nil) (fun _ _ _ _ _ => (de_fld rfl T.f_Program_name (de_var (pv 10)))) (fun _ _ _ _ _ => (de_var (pv 10))))))))))))))))))))
def hinitF : Fn := runF 11 b_hinit
theorem ok1_hinit {P : Program} {w : World} {K : Kt} {mg : Str → Option Value} {base : Heap} (T : Tx K mg) (d_are_cells : Def P w K mg base "are_cells" s_are_cells 2 ["value"] areCellsF) (x_InvalidHouse : Xc P w K mg base "InvalidHouse" 5 "word") (d_are_programs : Def P w K mg base "are_programs" s_are_programs 2 ["value", "cells"] areProgsF) (d_is_lot_of : Def P w K mg base "is_lot_of" s_is_lot_of 2 ["value", "words"] lotOfWF) (m_Turns : DefCX P w K mg base "Turns" 2 3 ["self", "ranked", "lent", "fair"] tinitF (PhiT K)) : DefC P w K mg base "House" 3 5 ["self", "cells", "programs", "rule", "log", "tells", "turns"] hinitF := (ok_hinit T d_are_cells x_InvalidHouse d_are_programs d_is_lot_of m_Turns)
abbrev b_wprog : Sx :=
  (sSeq (sAsg (eLcLoc (iT (eUn (gFldC 3 "programs") (eVar 0))) (gNm 3) tTrue (eIf (tCmp' (gEqB false) (eUn (gFldC 0 "name") (eVar 3)) (eUn (gFldC 0 "name") (eVar 1))) (eVar 1) (eVar 3)) [3]) (gNm 2))
    (sSeq (sExpr (eExtend (eVar 2) (eIf (tCmp' (gInD false) (eUn (gFldC 0 "name") (eVar 1)) (eUn (gFldC 3 "named") (eVar 0))) (eLst aNil) (eLst (aCons (eVar 1) aNil)))))
    (sRet (eMake 3 hinitF (aCons (eUn (gFldC 3 "cells") (eVar 0)) (aCons (eVar 2) (aCons (eUn (gFldC 3 "rule") (eVar 0)) (aCons (eUn (gFldC 3 "log") (eVar 0)) (aCons (eUn (gFldC 3 "tells") (eVar 0)) (aCons (eUn (gFldC 3 "turns") (eVar 0)) aNil))))))))))
theorem ok_wprog {P : Program} {w : World} {K : Kt} {mg : Str → Option Value} {base : Heap} (T : Tx K mg) (m_House : DefC P w K mg base "House" 3 5 ["self", "cells", "programs", "rule", "log", "tells", "turns"] hinitF) : DefM P w K mg base 3 "with_program" 7 ["self", "program"] (runF 4 b_wprog) := by
  refine mkDefM (k := 6) (N := n_wprog) (body := b_wprog) T.t_wprog sc_wprog ?_
  rintro f G rfl cdv A outer s H E hr
  exact (ds_cons (ds_setLcLoc (i := 2) (own := [("one", 3)]) rfl sc_wprog.nd (di_tup rfl (de_fld rfl T.f_House_programs (de_var (pv 0)))) (blkOk_by (N := n_wprog) (sc := defScope s_wprog) (by decide +kernel)) (by decide) (fun _ _ _ _ _ => (dg_name (i := 3) sc_wprog.nd)) (fun _ _ _ _ _ => dts_nil) (fun _ _ _ _ _ => (de_if (dt_eq rfl hr.units (de_fld rfl T.f_Program_name (de_var (pv 3))) (de_fld rfl T.f_Program_name (de_var (pv 1)))) (de_var (pv 1)) (de_var (pv 3)))) (sw_true rfl rfl rfl (by decide +kernel)))
    (ds_cons (ds_expr (de_extend rfl (pe_bm PySem.F.plainAttrs_list PySem.F.slot_list_extend PySem.F.type_list_extend mt_extend (de_var (pv 2)) (pa_cons (de_if (dt_inD (units1 hr) (de_fld rfl T.f_Program_name (de_var (pv 1))) (de_fld rfl T.f_House_named (de_var (pv 0)))) (de_lst da_nil) (de_lst (da_cons (de_var (pv 1)) da_nil))) pa_nil))))
    (ds_one (ds_ret (de_makeD m_House rfl flatE (takes_of rfl rfl rfl rfl) (hr.mono (by decide)) (da_cons (de_fld rfl T.f_House_cells (de_var (pv 0))) (da_cons (de_var (pv 2)) (da_cons (de_fld rfl T.f_House_rule (de_var (pv 0))) (da_cons (de_fld rfl T.f_House_log (de_var (pv 0))) (da_cons (de_fld rfl T.f_House_tells (de_var (pv 0))) (da_cons (de_fld rfl T.f_House_turns (de_var (pv 0))) da_nil)))))) (alen_cons (alen_cons (alen_cons (alen_cons (alen_cons (alen_cons alen_nil)))))) rfl)))))
def wprogF : Fn := trimF (runF 4 b_wprog)
theorem ok1_wprog {P : Program} {w : World} {K : Kt} {mg : Str → Option Value} {base : Heap} (T : Tx K mg) (m_House : DefC P w K mg base "House" 3 5 ["self", "cells", "programs", "rule", "log", "tells", "turns"] hinitF) : DefM P w K mg base 3 "with_program" 7 ["self", "program"] wprogF := (ok_wprog T m_House).trim
abbrev b_wrule : Sx :=
  (sRet (eMake 3 hinitF (aCons (eUn (gFldC 3 "cells") (eVar 0)) (aCons (eUn (gFldC 3 "programs") (eVar 0)) (aCons (eVar 1) (aCons (eUn (gFldC 3 "log") (eVar 0)) (aCons (eUn (gFldC 3 "tells") (eVar 0)) (aCons (eUn (gFldC 3 "turns") (eVar 0)) aNil))))))))
theorem ok_wrule {P : Program} {w : World} {K : Kt} {mg : Str → Option Value} {base : Heap} (T : Tx K mg) (m_House : DefC P w K mg base "House" 3 5 ["self", "cells", "programs", "rule", "log", "tells", "turns"] hinitF) : DefM P w K mg base 3 "with_rule" 7 ["self", "rule"] (runF 2 b_wrule) := by
  refine mkDefM (k := 6) (N := n_wrule) (body := b_wrule) T.t_wrule sc_wrule ?_
  rintro f G rfl cdv A outer s H E hr
  exact (ds_one (ds_ret (de_makeD m_House rfl flatE (takes_of rfl rfl rfl rfl) (hr.mono (by decide)) (da_cons (de_fld rfl T.f_House_cells (de_var (pv 0))) (da_cons (de_fld rfl T.f_House_programs (de_var (pv 0))) (da_cons (de_var (pv 1)) (da_cons (de_fld rfl T.f_House_log (de_var (pv 0))) (da_cons (de_fld rfl T.f_House_tells (de_var (pv 0))) (da_cons (de_fld rfl T.f_House_turns (de_var (pv 0))) da_nil)))))) (alen_cons (alen_cons (alen_cons (alen_cons (alen_cons (alen_cons alen_nil)))))) rfl)))
def wruleF : Fn := trimF (runF 2 b_wrule)
theorem ok1_wrule {P : Program} {w : World} {K : Kt} {mg : Str → Option Value} {base : Heap} (T : Tx K mg) (m_House : DefC P w K mg base "House" 3 5 ["self", "cells", "programs", "rule", "log", "tells", "turns"] hinitF) : DefM P w K mg base 3 "with_rule" 7 ["self", "rule"] wruleF := (ok_wrule T m_House).trim
abbrev b_wlog : Sx :=
  (sRet (eMake 3 hinitF (aCons (eUn (gFldC 3 "cells") (eVar 0)) (aCons (eUn (gFldC 3 "programs") (eVar 0)) (aCons (eUn (gFldC 3 "rule") (eVar 0)) (aCons (eVar 1) (aCons (eUn (gFldC 3 "tells") (eVar 0)) (aCons (eUn (gFldC 3 "turns") (eVar 0)) aNil))))))))
theorem ok_wlog {P : Program} {w : World} {K : Kt} {mg : Str → Option Value} {base : Heap} (T : Tx K mg) (m_House : DefC P w K mg base "House" 3 5 ["self", "cells", "programs", "rule", "log", "tells", "turns"] hinitF) : DefM P w K mg base 3 "with_log" 7 ["self", "log"] (runF 2 b_wlog) := by
  refine mkDefM (k := 6) (N := n_wlog) (body := b_wlog) T.t_wlog sc_wlog ?_
  rintro f G rfl cdv A outer s H E hr
  exact (ds_one (ds_ret (de_makeD m_House rfl flatE (takes_of rfl rfl rfl rfl) (hr.mono (by decide)) (da_cons (de_fld rfl T.f_House_cells (de_var (pv 0))) (da_cons (de_fld rfl T.f_House_programs (de_var (pv 0))) (da_cons (de_fld rfl T.f_House_rule (de_var (pv 0))) (da_cons (de_var (pv 1)) (da_cons (de_fld rfl T.f_House_tells (de_var (pv 0))) (da_cons (de_fld rfl T.f_House_turns (de_var (pv 0))) da_nil)))))) (alen_cons (alen_cons (alen_cons (alen_cons (alen_cons (alen_cons alen_nil)))))) rfl)))
def wlogF : Fn := trimF (runF 2 b_wlog)
theorem ok1_wlog {P : Program} {w : World} {K : Kt} {mg : Str → Option Value} {base : Heap} (T : Tx K mg) (m_House : DefC P w K mg base "House" 3 5 ["self", "cells", "programs", "rule", "log", "tells", "turns"] hinitF) : DefM P w K mg base 3 "with_log" 7 ["self", "log"] wlogF := (ok_wlog T m_House).trim
abbrev b_wtells : Sx :=
  (sRet (eMake 3 hinitF (aCons (eUn (gFldC 3 "cells") (eVar 0)) (aCons (eUn (gFldC 3 "programs") (eVar 0)) (aCons (eUn (gFldC 3 "rule") (eVar 0)) (aCons (eUn (gFldC 3 "log") (eVar 0)) (aCons (eVar 1) (aCons (eUn (gFldC 3 "turns") (eVar 0)) aNil))))))))
theorem ok_wtells {P : Program} {w : World} {K : Kt} {mg : Str → Option Value} {base : Heap} (T : Tx K mg) (m_House : DefC P w K mg base "House" 3 5 ["self", "cells", "programs", "rule", "log", "tells", "turns"] hinitF) : DefM P w K mg base 3 "with_tells" 7 ["self", "tells"] (runF 2 b_wtells) := by
  refine mkDefM (k := 6) (N := n_wtells) (body := b_wtells) T.t_wtells sc_wtells ?_
  rintro f G rfl cdv A outer s H E hr
  exact (ds_one (ds_ret (de_makeD m_House rfl flatE (takes_of rfl rfl rfl rfl) (hr.mono (by decide)) (da_cons (de_fld rfl T.f_House_cells (de_var (pv 0))) (da_cons (de_fld rfl T.f_House_programs (de_var (pv 0))) (da_cons (de_fld rfl T.f_House_rule (de_var (pv 0))) (da_cons (de_fld rfl T.f_House_log (de_var (pv 0))) (da_cons (de_var (pv 1)) (da_cons (de_fld rfl T.f_House_turns (de_var (pv 0))) da_nil)))))) (alen_cons (alen_cons (alen_cons (alen_cons (alen_cons (alen_cons alen_nil)))))) rfl)))
def wtellsF : Fn := trimF (runF 2 b_wtells)
theorem ok1_wtells {P : Program} {w : World} {K : Kt} {mg : Str → Option Value} {base : Heap} (T : Tx K mg) (m_House : DefC P w K mg base "House" 3 5 ["self", "cells", "programs", "rule", "log", "tells", "turns"] hinitF) : DefM P w K mg base 3 "with_tells" 7 ["self", "tells"] wtellsF := (ok_wtells T m_House).trim
abbrev b_wturns : Sx :=
  (sRet (eMake 3 hinitF (aCons (eUn (gFldC 3 "cells") (eVar 0)) (aCons (eUn (gFldC 3 "programs") (eVar 0)) (aCons (eUn (gFldC 3 "rule") (eVar 0)) (aCons (eUn (gFldC 3 "log") (eVar 0)) (aCons (eUn (gFldC 3 "tells") (eVar 0)) (aCons (eVar 1) aNil))))))))
theorem ok_wturns {P : Program} {w : World} {K : Kt} {mg : Str → Option Value} {base : Heap} (T : Tx K mg) (m_House : DefC P w K mg base "House" 3 5 ["self", "cells", "programs", "rule", "log", "tells", "turns"] hinitF) : DefM P w K mg base 3 "with_turns" 7 ["self", "turns"] (runF 2 b_wturns) := by
  refine mkDefM (k := 6) (N := n_wturns) (body := b_wturns) T.t_wturns sc_wturns ?_
  rintro f G rfl cdv A outer s H E hr
  exact (ds_one (ds_ret (de_makeD m_House rfl flatE (takes_of rfl rfl rfl rfl) (hr.mono (by decide)) (da_cons (de_fld rfl T.f_House_cells (de_var (pv 0))) (da_cons (de_fld rfl T.f_House_programs (de_var (pv 0))) (da_cons (de_fld rfl T.f_House_rule (de_var (pv 0))) (da_cons (de_fld rfl T.f_House_log (de_var (pv 0))) (da_cons (de_fld rfl T.f_House_tells (de_var (pv 0))) (da_cons (de_var (pv 1)) da_nil)))))) (alen_cons (alen_cons (alen_cons (alen_cons (alen_cons (alen_cons alen_nil)))))) rfl)))
def wturnsF : Fn := trimF (runF 2 b_wturns)
theorem ok1_wturns {P : Program} {w : World} {K : Kt} {mg : Str → Option Value} {base : Heap} (T : Tx K mg) (m_House : DefC P w K mg base "House" 3 5 ["self", "cells", "programs", "rule", "log", "tells", "turns"] hinitF) : DefM P w K mg base 3 "with_turns" 7 ["self", "turns"] wturnsF := (ok_wturns T m_House).trim
abbrev b_deal : Sx :=
  (sSeq (sAsg (eOp gAdd (eC (.int 32452867)) (eOp gMul (eC (.int 53)) (eVar 1))) (gNm 2))
    (sSeq (sAsg (eLc (iL (eSl false (eVar 0) (oSome (eVar 1)) (oSome (eC (.int 58))))) (gNm 4) tTrue (eB hAbs (aCons (eB hInt (aCons (eVar 4) aNil)) aNil)) [4]) (gNm 3))
    (sSeq (sFor (iL (eVar 3)) (gNm 4) (sAsg (eOp gMod (eB hInt (aCons (eOp gAdd (eOp gAdd (eOp gMul (eVar 2) (eC (.int 69069))) (eOp gMod (eB hInt (aCons (eVar 4) aNil)) (eC (.int 2147483477)))) (eC (.int 13))) aNil)) (eC (.int 2147483647))) (gNm 2)))
    (sRet (eLoc (aCons (eUn gRevLoc (eLc (iL (eVar 3)) (gNm 4) (tCmp' gGe (eVar 4) (eOp gPow (eC (.int 10)) (eC (.int 18)))) (eVar 4) [4])) (aCons (eVar 2) aNil)))))))
theorem ok_deal {P : Program} {w : World} {K : Kt} {mg : Str → Option Value} {base : Heap} (T : Tx K mg) : Def P w K mg base "_law_deal" s_deal 1 ["_law_script", "_law_base"] (runF 5 b_deal) := by
  refine mkDef (k := 0) (N := n_deal) (body := b_deal) T.t_deal sc_deal ?_
  rintro f G rfl cdv A outer s H E hr
  exact (ds_cons (ds_set (i := 2) sc_deal.nd (de_add rfl de_int (de_mul de_int (de_var (pv 1)))))
    (ds_cons (ds_setLc (i := 3) (own := [("_law_cell", 4)]) rfl sc_deal.nd (di_list rfl (de_slice (own := false) rfl (de_var (pv 0)) (do_some (de_var (pv 1))) (do_some de_int))) (blkOk_by (N := n_deal) (sc := defScope s_deal) (by decide +kernel)) (by decide) (fun _ _ _ _ _ => (dg_name (i := 4) sc_deal.nd)) (fun _ _ _ _ _ => dts_nil) (fun _ _ _ _ _ => (de_abs rfl T.b_abs (da_cons (de_int1 rfl T.b_int (da_cons (de_var (pv 4)) da_nil)) da_nil))) (sw_true rfl rfl rfl (by decide +kernel)))
    (ds_cons (ds_for (passes_of rfl) rfl (di_list rfl (de_var (pv 3))) (dg_name (i := 4) sc_deal.nd) (ds_one (ds_set (i := 2) sc_deal.nd (de_mod (de_int1 rfl T.b_int (da_cons (de_add rfl (de_add rfl (de_mul (de_var (pv 2)) de_int) (de_mod (de_int1 rfl T.b_int (da_cons (de_var (pv 4)) da_nil)) de_int)) de_int) da_nil)) de_int))))
    (ds_one (ds_ret (de_loc (da_cons (de_revLocS rfl (de_lc (own := [("_law_cell", 4)]) rfl sc_deal.nd (di_list rfl (de_var (pv 3))) (blkOk_by (N := n_deal) (sc := defScope s_deal) (by decide +kernel)) (by decide) (fun _ _ _ _ _ => (dg_name (i := 4) sc_deal.nd)) (fun _ _ _ _ _ => (dts_one (dt_ge (de_var (pv 4)) (de_pow de_int de_int)))) (fun _ _ _ _ _ => (de_var (pv 4)))) pe_neg1) (da_cons (de_var (pv 2)) da_nil))))))))
def dealF : Fn := runF 5 b_deal
theorem ok1_deal {P : Program} {w : World} {K : Kt} {mg : Str → Option Value} {base : Heap} (T : Tx K mg) : Def P w K mg base "_law_deal" s_deal 1 ["_law_script", "_law_base"] dealF := (ok_deal T )
abbrev b_draw : Sx :=
  (sSeq (sWhile (fun _ => 64) (tAnd' (tCmp' (gEqB true) (eOp gIx (eVar 0) (eC (.int 0))) (eLst aNil)) (tCmp' (gEqB false) (eOp gIx (eOp gIx (eVar 0) (eC (.int 0))) (eUn gNeg (eC (.int 1)))) (eC (.int 0)))) (sExpr (ePop (eOp gIx (eVar 0) (eC (.int 0))))))
    (sSeq (sIf (tCmp' (gEqB true) (eOp gIx (eVar 0) (eC (.int 0))) (eLst aNil)) (sSeq (sAsg (ePop (eOp gIx (eVar 0) (eC (.int 0)))) (gNm 2))
    (sSeq (sExpr (eAppend (eOp gIx (eVar 0) (eC (.int 0))) (eOp gFdiv (eVar 2) (eVar 1))))
    (sRet (eOp gMod (eB hInt (aCons (eVar 2) aNil)) (eVar 1))))) sNil)
    (sSeq (sSetIx (eOp gMod (eB hInt (aCons (eOp gAdd (eOp gMul (eOp gIx (eVar 0) (eC (.int 1))) (eC (.int 69069))) (eC (.int 71))) aNil)) (eC (.int 2147483647))) (eVar 0) (eC (.int 1)))
    (sRet (eOp gMod (eB hInt (aCons (eOp gFdiv (eOp gIx (eVar 0) (eC (.int 1))) (eC (.int 32))) aNil)) (eVar 1))))))
theorem ok_draw {P : Program} {w : World} {K : Kt} {mg : Str → Option Value} {base : Heap} (T : Tx K mg) : Def P w K mg base "_law_draw" s_draw 1 ["_law_deal_here", "_law_bound"] (runF 3 b_draw) := by
  refine mkDef (k := 0) (N := n_draw) (body := b_draw) T.t_draw sc_draw ?_
  rintro f G rfl cdv A outer s H E hr
  exact (ds_cons (ds_while (fuel := (fun _ => 64)) (passes_of rfl) (dt_w (dw_and (dt_ne rfl hr.units (de_ix rfl (de_var (pv 0)) de_int) (de_lst da_nil)) (dw_and1 (dt_eq rfl hr.units (de_ix rfl (de_ix rfl (de_var (pv 0)) de_int) (de_neg de_int)) de_int)))) (ds_one (ds_expr (de_pop rfl (pe_bm0 PySem.F.plainAttrs_list PySem.F.slot_list_pop PySem.F.type_list_pop mt_pop (de_ix rfl (de_var (pv 0)) de_int))))))
    (ds_cons (ds_if (dt_ne rfl hr.units (de_ix rfl (de_var (pv 0)) de_int) (de_lst da_nil)) (ds_cons (ds_set (i := 2) sc_draw.nd (de_pop rfl (pe_bm0 PySem.F.plainAttrs_list PySem.F.slot_list_pop PySem.F.type_list_pop mt_pop (de_ix rfl (de_var (pv 0)) de_int))))
    (ds_cons (ds_expr (de_append rfl (pe_bm PySem.F.plainAttrs_list PySem.F.slot_list_append PySem.F.type_list_append mt_append (de_ix rfl (de_var (pv 0)) de_int) (pa_cons (de_fdiv (de_var (pv 2)) (de_var (pv 1))) pa_nil))))
    (ds_one (ds_ret (de_mod (de_int1 rfl T.b_int (da_cons (de_var (pv 2)) da_nil)) (de_var (pv 1))))))) ds_nil)
    (ds_cons (ds_setIx (de_mod (de_int1 rfl T.b_int (da_cons (de_add rfl (de_mul (de_ix rfl (de_var (pv 0)) de_int) de_int) de_int) da_nil)) de_int) (de_var (pv 0)) de_int)
    (ds_one (ds_ret (de_mod (de_int1 rfl T.b_int (da_cons (de_fdiv (de_ix rfl (de_var (pv 0)) de_int) de_int) da_nil)) (de_var (pv 1))))))))
def drawF : Fn := trimF (runF 3 b_draw)
theorem ok1_draw {P : Program} {w : World} {K : Kt} {mg : Str → Option Value} {base : Heap} (T : Tx K mg) : Def P w K mg base "_law_draw" s_draw 1 ["_law_deal_here", "_law_bound"] drawF := (ok_draw T ).trim
abbrev b_pick : Sx :=
  (sRet (eOp gIx (eVar 1) (eCall 3 drawF (aCons (eVar 0) (aCons (eB hLen (aCons (eVar 1) aNil)) aNil)))))
theorem ok_pick {P : Program} {w : World} {K : Kt} {mg : Str → Option Value} {base : Heap} (T : Tx K mg) (d_draw : Def P w K mg base "_law_draw" s_draw 1 ["_law_deal_here", "_law_bound"] drawF) : Def P w K mg base "_law_pick" s_pick 2 ["_law_deal_here", "_law_some"] (runF 2 b_pick) := by
  refine mkDef (k := 1) (N := n_pick) (body := b_pick) T.t_pick sc_pick ?_
  rintro f G rfl cdv A outer s H E hr
  exact (ds_one (ds_ret (de_ix rfl (de_var (pv 1)) (de_callD 3 d_draw rfl (takes_of rfl rfl rfl rfl) (hr.mono (by decide)) (da_cons (de_var (pv 0)) (da_cons (de_len rfl rfl T.b_len (da_cons (de_var (pv 1)) da_nil)) da_nil)) (alen_cons (alen_cons alen_nil))))))
def pickF : Fn := trimF (runF 2 b_pick)
theorem ok1_pick {P : Program} {w : World} {K : Kt} {mg : Str → Option Value} {base : Heap} (T : Tx K mg) (d_draw : Def P w K mg base "_law_draw" s_draw 1 ["_law_deal_here", "_law_bound"] drawF) : Def P w K mg base "_law_pick" s_pick 2 ["_law_deal_here", "_law_some"] pickF := (ok_pick T d_draw).trim
abbrev b_thing (self : Fn) : Sx :=
  (sSeq (sAsg (eLst (aCons (eC .non) (aCons (eC (.bl true)) (aCons (eC (.bl false)) (aCons (eC (.int 0)) (aCons (eC (.int 7)) (aCons (eOp gSub (eC (.int 0)) (eC (.int 1))) (aCons (eOp gPow (eC (.int 10)) (eC (.int 20))) (aCons (eC (.str "")) (aCons (eC (.str "x")) (aCons (eC (.str "hold")) (aCons (eC (.str "end")) (aCons (eC (.str "ok")) (aCons (eTup aNil) (aCons (eLst aNil) (aCons (eTup (aCons (eC (.str "a")) aNil)) (aCons (eC (.str "a 1")) aNil))))))))))))))))) (gNm 2))
    (sSeq (sIf (tAnd' (tCmp' gGt (eVar 1) (eC (.int 0))) (tCmp' (gEqB false) (eCall 3 drawF (aCons (eVar 0) (aCons (eC (.int 3)) aNil))) (eC (.int 0)))) (sSeq (sAsg (eLc (iR1 (aCons (eCall 3 drawF (aCons (eVar 0) (aCons (eC (.int 4)) aNil))) aNil)) (gNm 4) tTrue (eCall 3 self (aCons (eVar 0) (aCons (eOp gSub (eVar 1) (eC (.int 1))) aNil))) [4]) (gNm 3))
    (sRet (eIf (tCmp' (gEqB false) (eCall 3 drawF (aCons (eVar 0) (aCons (eC (.int 2)) aNil))) (eC (.int 0))) (eVar 3) (eB hTuple (aCons (eVar 3) aNil))))) sNil)
    (sRet (eCall 3 pickF (aCons (eVar 0) (aCons (eVar 2) aNil))))))
theorem ok_thing {P : Program} {w : World} {K : Kt} {mg : Str → Option Value} {base : Heap} (T : Tx K mg) (d_draw : Def P w K mg base "_law_draw" s_draw 1 ["_law_deal_here", "_law_bound"] drawF) (d_pick : Def P w K mg base "_law_pick" s_pick 2 ["_law_deal_here", "_law_some"] pickF) {self : Fn} {kk : Nat} (hkk : 2 ≤ kk) (d_thing : Def P w K mg base "_law_thing" s_thing kk ["_law_deal_here", "_law_deep"] self) : Def P w K mg base "_law_thing" s_thing (kk + 1) ["_law_deal_here", "_law_deep"] (runF 5 (b_thing self)) := by
  refine mkDef (k := kk) (N := n_thing) (body := b_thing self) T.t_thing sc_thing ?_
  rintro f G rfl cdv A outer s H E hr
  exact (ds_cons (ds_set (i := 2) sc_thing.nd (de_lst (da_cons de_non (da_cons de_bl (da_cons de_bl (da_cons de_int (da_cons de_int (da_cons (de_sub de_int de_int) (da_cons (de_pow de_int de_int) (da_cons de_str (da_cons de_str (da_cons de_str (da_cons de_str (da_cons de_str (da_cons (de_tup da_nil) (da_cons (de_lst da_nil) (da_cons (de_tup (da_cons de_str da_nil)) (da_cons de_str da_nil))))))))))))))))))
    (ds_cons (ds_if (dt_w (dw_and (dt_gt (de_var (pv 1)) de_int) (dw_and1 (dt_eq rfl hr.units (de_callD 3 d_draw rfl (takes_of rfl rfl rfl rfl) (hr.mono (by omega)) (da_cons (de_var (pv 0)) (da_cons de_int da_nil)) (alen_cons (alen_cons alen_nil))) de_int)))) (ds_cons (ds_setLc (i := 3) (own := [("_law_turn", 4)]) rfl sc_thing.nd (di_range1 rfl T.b_range (da_cons (de_callD 3 d_draw rfl (takes_of rfl rfl rfl rfl) (hr.mono (by omega)) (da_cons (de_var (pv 0)) (da_cons de_int da_nil)) (alen_cons (alen_cons alen_nil))) da_nil)) (blkOk_by (N := n_thing) (sc := defScope s_thing) (by decide +kernel)) (by decide) (fun _ _ _ _ _ => (dg_name (i := 4) sc_thing.nd)) (fun _ _ _ _ _ => dts_nil) (fun _ _ _ _ _ => (de_callD 3 d_thing rfl takes0 (hr.mono (by omega)) (da_cons (de_var (pv 0)) (da_cons (de_sub (de_var (pv 1)) de_int) da_nil)) (alen_cons (alen_cons alen_nil)))) (sw_true rfl rfl rfl (by decide +kernel)))
    (ds_one (ds_ret (de_if (dt_eq rfl hr.units (de_callD 3 d_draw rfl (takes_of rfl rfl rfl rfl) (hr.mono (by omega)) (da_cons (de_var (pv 0)) (da_cons de_int da_nil)) (alen_cons (alen_cons alen_nil))) de_int) (de_var (pv 3)) (de_tuple1 rfl rfl T.b_tuple (da_cons (de_var (pv 3)) da_nil)))))) ds_nil)
    (ds_one (ds_ret (de_callD 3 d_pick rfl (takes_of rfl rfl rfl rfl) (hr.mono (by omega)) (da_cons (de_var (pv 0)) (da_cons (de_var (pv 2)) da_nil)) (alen_cons (alen_cons alen_nil)))))))
def thingF : Nat → Fn
  | 0 => trimF (runF 5 sNever)
  | m + 1 => trimF (runF 5 (b_thing (thingF m)))
theorem ok1_thing {P : Program} {w : World} {K : Kt} {mg : Str → Option Value} {base : Heap} (T : Tx K mg) (d_draw : Def P w K mg base "_law_draw" s_draw 1 ["_law_deal_here", "_law_bound"] drawF) (d_pick : Def P w K mg base "_law_pick" s_pick 2 ["_law_deal_here", "_law_some"] pickF) : ∀ m : Nat, Def P w K mg base "_law_thing" s_thing (m + 2) ["_law_deal_here", "_law_deep"] (thingF m)
  | 0 => (mkDef (k := 1) (N := n_thing) (body := sNever) T.t_thing sc_thing fun _ _ _ _ _ _ _ _ _ _ => dss_never).trim
  | m + 1 => by
    have d := (ok_thing T d_draw d_pick (kk := m + 2) (by omega) (ok1_thing T d_draw d_pick m)).trim
    rw [show m + 1 + 2 = m + 2 + 1 by omega]
    exact d
abbrev hc_heard : List HC := [(ct_InvalidHouse, (if (true && (!false)) then (fun ex st => match lookD "word" ex.ks ex.ds with | some d => .ok d st.cs | none => .no) else (fun _ st => .ok (.str "other") st.cs)))]
theorem hd_heard {X : Cx} {K : Kt} (hK : X.K = K.K) (T : Tx K X.mg) : HearD X K "_law_heard" "_law_work_here" n_heard (lamQ X) .non hc_heard := by
  obtain ⟨f, fd, h1, h2, h3, h4⟩ := T.t_heard.ex
  obtain ⟨oc, od, kV, doc, pm, an, cdv, ct, osl, rfl, lk, hcd⟩ := h3.ex
  rw [← hK] at h2 lk hcd h4
  refine ⟨f, _, _, _, _, _, _, _, _, _, _, _, _, _, h1, h2, lk, hcd, h4, sc_heard, Or.inl rfl, fun fe => ?_⟩
  exact hear_gives (i := 2) (j := 1) hK sc_heard.nd rfl rfl (by decide) (by decide) rfl rfl (by decide) (fun s H => pe_non) (fun _ _ => .non) (fun _ _ => rfl) (by decide) (by decide) (fun _ _ => rfl) (fun s H G e => by obtain ⟨_, _, _, _⟩ := G; cases e; exact (.cons ⟨rfl, by decide, .inl T.xm_InvalidHouse⟩ T.ct_InvalidHouse (se_if2 (sb2_and (sb_isi hK T.xe_InvalidHouse rfl T.b_isinstance rfl T.xm_RoadError T.xk_InvalidHouse_RoadError (fun _ _ => pv 2)) (sb2_not (sb2_isi hK T.xe_InvalidHouse rfl T.b_isinstance rfl T.xm_InvalidProgram rfl T.xm_InvalidRule T.xk2_InvalidHouse_InvalidProgram_InvalidRule (fun _ _ => pv 2)))) only_InvalidHouse (se_fld hK T.xf_InvalidHouse T.xn_InvalidHouse only_InvalidHouse (fun _ _ => pv 2)) se_str) rfl .nil))
abbrev b_bad : Sx :=
  (sSeq (sAsg (eLst (aCons (eC (.int 3)) (aCons (eC (.str "x")) (aCons (eC (.bl true)) (aCons (eCall 3 (thingF 1) (aCons (eVar 0) (aCons (eC (.int 0)) aNil))) aNil))))) (gNm 2))
    (sSeq (sIf (tCmp' (gEqB false) (eVar 1) (eC (.int 0))) (sSeq (sAsg (eLst (aCons (eC .non) (aCons (eLst aNil) (aCons (eLst (aCons (eTup (aCons (eC (.str "c")) (aCons (eC (.int 1)) aNil))) aNil)) (aCons (eLst (aCons (eTup (aCons (eC (.str "c")) (aCons (eC (.int 5)) aNil))) aNil)) (aCons (eLst (aCons (eTup (aCons (eC (.str "c")) (aCons (eC (.bl true)) aNil))) aNil)) (aCons (eLst (aCons (eTup (aCons (eC (.str "c")) (aCons (eC (.int 2)) aNil))) (aCons (eTup (aCons (eC (.str "c")) (aCons (eC (.int 3)) aNil))) aNil))) (aCons (eLst (aCons (eLst (aCons (eC (.str "c")) (aCons (eC (.int 2)) aNil))) aNil)) (aCons (eLst (aCons (eTup (aCons (eC (.str "x")) (aCons (eC (.int 2)) aNil))) aNil)) (aCons (eLst (aCons (eTup (aCons (eC (.str "c")) (aCons (eC (.str "2")) aNil))) aNil)) aNil)))))))))) (gNm 3))
    (sRet (eCall 3 pickF (aCons (eVar 0) (aCons (eOp gAdd (eOp gAdd (eVar 2) (eVar 3)) (eLst (aCons (eLst (aCons (eTup (aCons (eC (.str "abcde")) (aCons (eC (.int 2)) aNil))) aNil)) (aCons (eTup (aCons (eC (.str "c")) (aCons (eC (.int 2)) aNil))) (aCons (eLst (aCons (eTup (aCons (eC (.str "c")) (aCons (eC (.int 2)) (aCons (eC (.int 2)) aNil)))) aNil)) aNil))))) aNil))))) sNil)
    (sSeq (sIf (tCmp' (gEqB false) (eVar 1) (eC (.int 1))) (sSeq (sAsg (eMake 0 pinitF (aCons (eC (.str "p")) (aCons (eLst (aCons (eC (.str "end")) aNil)) aNil))) (gNm 4))
    (sSeq (sAsg (eLst (aCons (eC .non) (aCons (eLst aNil) (aCons (eLst (aCons (eVar 4) (aCons (eVar 4) aNil))) (aCons (eLst (aCons (eC .non) aNil)) (aCons (eLst (aCons (eC (.str "program p")) aNil)) (aCons (eVar 4) (aCons (eLst (aCons (eMake 0 pinitF (aCons (eC (.str "p")) (aCons (eLst (aCons (eC (.str "get zz x")) aNil)) aNil))) aNil)) (aCons (eLst (aCons (eMake 0 pinitF (aCons (eC (.str "p")) (aCons (eLst (aCons (eC (.str "await c 3")) aNil)) aNil))) aNil)) aNil))))))))) (gNm 3))
    (sRet (eCall 3 pickF (aCons (eVar 0) (aCons (eOp gAdd (eVar 2) (eVar 3)) aNil)))))) sNil)
    (sSeq (sIf (tCmp' (gEqB false) (eVar 1) (eC (.int 2))) (sRet (eCall 3 pickF (aCons (eVar 0) (aCons (eOp gAdd (eVar 2) (eLst (aCons (eC .non) (aCons (eC (.str "now - -")) (aCons (eTup (aCons (eC (.str "now")) (aCons (eTup aNil) (aCons (eTup aNil) aNil)))) (aCons (eMake0 2 tinitF [.bl false, .bl false, .non]) aNil)))))) aNil)))) sNil)
    (sSeq (sIf (tCmp' (gEqB false) (eVar 1) (eC (.int 3))) (sRet (eCall 3 pickF (aCons (eVar 0) (aCons (eLst (aCons (eC .non) (aCons (eC (.int 3)) (aCons (eC (.str "late")) (aCons (eLst (aCons (eC (.str "late")) (aCons (eC (.str "late")) aNil))) (aCons (eLst (aCons (eC (.str "firm")) aNil)) (aCons (eLst (aCons (eC .non) aNil)) (aCons (eLst (aCons (eTup (aCons (eC (.str "late")) aNil)) aNil)) (aCons (eC (.bl true)) aNil))))))))) aNil)))) sNil)
    (sSeq (sIf (tCmp' (gEqB false) (eVar 1) (eC (.int 4))) (sRet (eCall 3 pickF (aCons (eVar 0) (aCons (eOp gAdd (eVar 2) (eLst (aCons (eC .non) (aCons (eC (.str "late")) (aCons (eTup (aCons (eC (.str "soon")) aNil)) (aCons (eC (.str "Soon")) (aCons (eLst (aCons (eC (.str "own")) aNil)) aNil))))))) aNil)))) sNil)
    (sRet (eCall 3 pickF (aCons (eVar 0) (aCons (eLst (aCons (eC (.int 3)) (aCons (eC (.bl true)) (aCons (eC (.str "")) (aCons (eC (.str "any")) (aCons (eTup (aCons (eC (.str "any")) (aCons (eC (.int 0)) aNil))) (aCons (eMakeDf 1 rinitF [.tup [], .tup []] (aCons (eC (.str "now")) aNil)) (aCons (eLst (aCons (eC (.str "any")) aNil)) (aCons (eTup aNil) aNil))))))))) aNil))))))))))
theorem ok_bad {P : Program} {w : World} {K : Kt} {mg : Str → Option Value} {base : Heap} (T : Tx K mg) (d_thing : Def P w K mg base "_law_thing" s_thing 3 ["_law_deal_here", "_law_deep"] (thingF 1)) (d_pick : Def P w K mg base "_law_pick" s_pick 2 ["_law_deal_here", "_law_some"] pickF) (m_Program : DefC P w K mg base "Program" 0 7 ["self", "name", "lines"] pinitF) (m_Turns : DefCX P w K mg base "Turns" 2 3 ["self", "ranked", "lent", "fair"] tinitF (PhiT K)) (m_Rule : DefCX P w K mg base "Rule" 1 3 ["self", "sees", "looks", "takes"] rinitF (PhiR K)) : Def P w K mg base "_law_bad" s_bad 9 ["_law_deal_here", "_law_spot"] (runF 5 b_bad) := by
  refine mkDef (k := 8) (N := n_bad) (body := b_bad) T.t_bad sc_bad ?_
  rintro f G rfl cdv A outer s H E hr
  exact (ds_cons (ds_set (i := 2) sc_bad.nd (de_lst (da_cons de_int (da_cons de_str (da_cons de_bl (da_cons (de_callD 3 d_thing rfl (takes_of rfl rfl rfl rfl) (hr.mono (by decide)) (da_cons (de_var (pv 0)) (da_cons de_int da_nil)) (alen_cons (alen_cons alen_nil))) da_nil))))))
    (ds_cons (ds_if (dt_eq rfl hr.units (de_var (pv 1)) de_int) (ds_cons (ds_set (i := 3) sc_bad.nd (de_lst (da_cons de_non (da_cons (de_lst da_nil) (da_cons (de_lst (da_cons (de_tup (da_cons de_str (da_cons de_int da_nil))) da_nil)) (da_cons (de_lst (da_cons (de_tup (da_cons de_str (da_cons de_int da_nil))) da_nil)) (da_cons (de_lst (da_cons (de_tup (da_cons de_str (da_cons de_bl da_nil))) da_nil)) (da_cons (de_lst (da_cons (de_tup (da_cons de_str (da_cons de_int da_nil))) (da_cons (de_tup (da_cons de_str (da_cons de_int da_nil))) da_nil))) (da_cons (de_lst (da_cons (de_lst (da_cons de_str (da_cons de_int da_nil))) da_nil)) (da_cons (de_lst (da_cons (de_tup (da_cons de_str (da_cons de_int da_nil))) da_nil)) (da_cons (de_lst (da_cons (de_tup (da_cons de_str (da_cons de_str da_nil))) da_nil)) da_nil)))))))))))
    (ds_one (ds_ret (de_callD 3 d_pick rfl (takes_of rfl rfl rfl rfl) (hr.mono (by decide)) (da_cons (de_var (pv 0)) (da_cons (de_add rfl (de_add rfl (de_var (pv 2)) (de_var (pv 3))) (de_lst (da_cons (de_lst (da_cons (de_tup (da_cons de_str (da_cons de_int da_nil))) da_nil)) (da_cons (de_tup (da_cons de_str (da_cons de_int da_nil))) (da_cons (de_lst (da_cons (de_tup (da_cons de_str (da_cons de_int (da_cons de_int da_nil)))) da_nil)) da_nil))))) da_nil)) (alen_cons (alen_cons alen_nil)))))) ds_nil)
    (ds_cons (ds_if (dt_eq rfl hr.units (de_var (pv 1)) de_int) (ds_cons (ds_set (i := 4) sc_bad.nd (de_makeD m_Program rfl flatE (takes_of rfl rfl rfl rfl) (hr.mono (by decide)) (da_cons de_str (da_cons (de_lst (da_cons de_str da_nil)) da_nil)) (alen_cons (alen_cons alen_nil)) rfl))
    (ds_cons (ds_set (i := 3) sc_bad.nd (de_lst (da_cons de_non (da_cons (de_lst da_nil) (da_cons (de_lst (da_cons (de_var (pv 4)) (da_cons (de_var (pv 4)) da_nil))) (da_cons (de_lst (da_cons de_non da_nil)) (da_cons (de_lst (da_cons de_str da_nil)) (da_cons (de_var (pv 4)) (da_cons (de_lst (da_cons (de_makeD m_Program rfl flatE (takes_of rfl rfl rfl rfl) (hr.mono (by decide)) (da_cons de_str (da_cons (de_lst (da_cons de_str da_nil)) da_nil)) (alen_cons (alen_cons alen_nil)) rfl) da_nil)) (da_cons (de_lst (da_cons (de_makeD m_Program rfl flatE (takes_of rfl rfl rfl rfl) (hr.mono (by decide)) (da_cons de_str (da_cons (de_lst (da_cons de_str da_nil)) da_nil)) (alen_cons (alen_cons alen_nil)) rfl) da_nil)) da_nil))))))))))
    (ds_one (ds_ret (de_callD 3 d_pick rfl (takes_of rfl rfl rfl rfl) (hr.mono (by decide)) (da_cons (de_var (pv 0)) (da_cons (de_add rfl (de_var (pv 2)) (de_var (pv 3))) da_nil)) (alen_cons (alen_cons alen_nil))))))) ds_nil)
    (ds_cons (ds_if (dt_eq rfl hr.units (de_var (pv 1)) de_int) (ds_one (ds_ret (de_callD 3 d_pick rfl (takes_of rfl rfl rfl rfl) (hr.mono (by decide)) (da_cons (de_var (pv 0)) (da_cons (de_add rfl (de_var (pv 2)) (de_lst (da_cons de_non (da_cons de_str (da_cons (de_tup (da_cons de_str (da_cons (de_tup da_nil) (da_cons (de_tup da_nil) da_nil)))) (da_cons (de_make0D m_Turns (fun _ h => h) rfl flatE (takes_of rfl rfl rfl rfl) (hr.mono (by decide)) rfl) da_nil)))))) da_nil)) (alen_cons (alen_cons alen_nil))))) ds_nil)
    (ds_cons (ds_if (dt_eq rfl hr.units (de_var (pv 1)) de_int) (ds_one (ds_ret (de_callD 3 d_pick rfl (takes_of rfl rfl rfl rfl) (hr.mono (by decide)) (da_cons (de_var (pv 0)) (da_cons (de_lst (da_cons de_non (da_cons de_int (da_cons de_str (da_cons (de_lst (da_cons de_str (da_cons de_str da_nil))) (da_cons (de_lst (da_cons de_str da_nil)) (da_cons (de_lst (da_cons de_non da_nil)) (da_cons (de_lst (da_cons (de_tup (da_cons de_str da_nil)) da_nil)) (da_cons de_bl da_nil))))))))) da_nil)) (alen_cons (alen_cons alen_nil))))) ds_nil)
    (ds_cons (ds_if (dt_eq rfl hr.units (de_var (pv 1)) de_int) (ds_one (ds_ret (de_callD 3 d_pick rfl (takes_of rfl rfl rfl rfl) (hr.mono (by decide)) (da_cons (de_var (pv 0)) (da_cons (de_add rfl (de_var (pv 2)) (de_lst (da_cons de_non (da_cons de_str (da_cons (de_tup (da_cons de_str da_nil)) (da_cons de_str (da_cons (de_lst (da_cons de_str da_nil)) da_nil))))))) da_nil)) (alen_cons (alen_cons alen_nil))))) ds_nil)
    (ds_one (ds_ret (de_callD 3 d_pick rfl (takes_of rfl rfl rfl rfl) (hr.mono (by decide)) (da_cons (de_var (pv 0)) (da_cons (de_lst (da_cons de_int (da_cons de_bl (da_cons de_str (da_cons de_str (da_cons (de_tup (da_cons de_str (da_cons de_int da_nil))) (da_cons (de_makeDf 1 m_Rule (fun _ h => h) rfl flatE (takes_of rfl rfl rfl rfl) (hr.mono (by decide)) (da_cons de_str da_nil) (alen_cons alen_nil) rfl) (da_cons (de_lst (da_cons de_str da_nil)) (da_cons (de_tup da_nil) da_nil))))))))) da_nil)) (alen_cons (alen_cons alen_nil)))))))))))
def badF : Fn := trimF (runF 5 b_bad)
theorem ok1_bad {P : Program} {w : World} {K : Kt} {mg : Str → Option Value} {base : Heap} (T : Tx K mg) (d_thing : Def P w K mg base "_law_thing" s_thing 3 ["_law_deal_here", "_law_deep"] (thingF 1)) (d_pick : Def P w K mg base "_law_pick" s_pick 2 ["_law_deal_here", "_law_some"] pickF) (m_Program : DefC P w K mg base "Program" 0 7 ["self", "name", "lines"] pinitF) (m_Turns : DefCX P w K mg base "Turns" 2 3 ["self", "ranked", "lent", "fair"] tinitF (PhiT K)) (m_Rule : DefCX P w K mg base "Rule" 1 3 ["self", "sees", "looks", "takes"] rinitF (PhiR K)) : Def P w K mg base "_law_bad" s_bad 9 ["_law_deal_here", "_law_spot"] badF := (ok_bad T d_thing d_pick m_Program m_Turns m_Rule).trim
abbrev b_made : Sx :=
  (sRet (eMake 3 hinitF (aCons (eOp gIx (eVar 0) (eC (.int 0))) (aCons (eOp gIx (eVar 0) (eC (.int 1))) (aCons (eOp gIx (eVar 0) (eC (.int 2))) (aCons (eOp gIx (eVar 0) (eC (.int 3))) (aCons (eOp gIx (eVar 0) (eC (.int 4))) (aCons (eOp gIx (eVar 0) (eC (.int 5))) aNil))))))))
theorem ok_made {P : Program} {w : World} {K : Kt} {mg : Str → Option Value} {base : Heap} (T : Tx K mg) (m_House : DefC P w K mg base "House" 3 5 ["self", "cells", "programs", "rule", "log", "tells", "turns"] hinitF) : Def P w K mg base "_law_made" s_made 7 ["_law_parts"] (runF 1 b_made) := by
  refine mkDef (k := 6) (N := n_made) (body := b_made) T.t_made sc_made ?_
  rintro f G rfl cdv A outer s H E hr
  exact (ds_one (ds_ret (de_makeD m_House rfl flatE (takes_of rfl rfl rfl rfl) (hr.mono (by decide)) (da_cons (de_ix rfl (de_var (pv 0)) de_int) (da_cons (de_ix rfl (de_var (pv 0)) de_int) (da_cons (de_ix rfl (de_var (pv 0)) de_int) (da_cons (de_ix rfl (de_var (pv 0)) de_int) (da_cons (de_ix rfl (de_var (pv 0)) de_int) (da_cons (de_ix rfl (de_var (pv 0)) de_int) da_nil)))))) (alen_cons (alen_cons (alen_cons (alen_cons (alen_cons (alen_cons alen_nil)))))) rfl)))
def madeF : Fn := trimF (runF 1 b_made)
theorem ok1_made {P : Program} {w : World} {K : Kt} {mg : Str → Option Value} {base : Heap} (T : Tx K mg) (m_House : DefC P w K mg base "House" 3 5 ["self", "cells", "programs", "rule", "log", "tells", "turns"] hinitF) : Def P w K mg base "_law_made" s_made 7 ["_law_parts"] madeF := (ok_made T m_House).trim
abbrev l_law_0 : Sx :=
  (sSetIx (eCall 3 badF (aCons (eVar 1) (aCons (eVar 7) aNil))) (eVar 4) (eVar 7))
abbrev p_law_0_0 : Sx :=
  (sAsg (eLoc (aCons (eLst (aCons (eTup (aCons (eC (.str "c")) (aCons (eC (.int 3)) aNil))) (aCons (eTup (aCons (eC (.str "d")) (aCons (eC (.int 2)) aNil))) aNil))) (aCons (eLst (aCons (eMake 0 pinitF (aCons (eC (.str "p")) (aCons (eLst (aCons (eC (.str "await c 2")) aNil)) aNil))) aNil)) (aCons (eMakeDf 1 rinitF [.tup [], .tup []] (aCons (eC (.str "now")) aNil)) (aCons (eLst (aCons (eC (.str "late")) aNil)) (aCons (eC (.str "own")) (aCons (eMake0 2 tinitF [.bl false, .bl false, .non]) aNil))))))) (gNm 4))
abbrev p_law_0_1 : Sx :=
  (sAsg (eCall 0 madeF (aCons (eVar 4) aNil)) (gNm 5))
abbrev p_law_0_2 : Sx :=
  (sAsg (eLc (iR1 (aCons (eC (.int 6)) aNil)) (gNm 7) (tCmp' (gEqB false) (eCall 3 drawF (aCons (eVar 1) (aCons (eC (.int 4)) aNil))) (eC (.int 0))) (eVar 7) [7]) (gNm 6))
abbrev p_law_0_3 : Sx :=
  (sFor (iL (eVar 6)) (gNm 7) l_law_0)
abbrev p_law_0_4 : Sx :=
  (sIf (tCmp' (gEqB true) (eHear 9 ((("law" : Str) ++ (".<locals>." : Str)) ++ ("<lambda>" : Str)) 3 .non hc_heard (eCall 0 madeF (aCons (eVar 4) aNil))) (eIf (tCmp' (gEqB true) (eVar 6) (eLst aNil)) (eOp gIx (eVar 2) (eOp gIx (eVar 6) (eC (.int 0)))) (eC .non))) (sRet (eC (.bl false))) sNil)
abbrev p_law_0_5 : Sx :=
  (sAsg (eLc (iR1 (aCons (eC (.int 6)) aNil)) (gNm 7) tTrue (eCall 3 badF (aCons (eVar 1) (aCons (eVar 7) aNil))) [7]) (gNm 8))
abbrev p_law_0_6 : Sx :=
  (sIf (tCmp' (gEqB true) (eHear 9 ((("law" : Str) ++ (".<locals>." : Str)) ++ ("<lambda>" : Str)) 3 .non hc_heard (eMeth 3 "with_rule" wruleF (eVar 5) (aCons (eOp gIx (eVar 8) (eC (.int 2))) aNil))) (eC (.str "rule"))) (sRet (eC (.bl false))) sNil)
abbrev p_law_0_7 : Sx :=
  (sIf (tCmp' (gEqB true) (eHear 9 ((("law" : Str) ++ (".<locals>." : Str)) ++ ("<lambda>" : Str)) 3 .non hc_heard (eMeth 3 "with_log" wlogF (eVar 5) (aCons (eOp gIx (eVar 8) (eC (.int 3))) aNil))) (eC (.str "log"))) (sRet (eC (.bl false))) sNil)
abbrev p_law_0_8 : Sx :=
  (sIf (tCmp' (gEqB true) (eHear 9 ((("law" : Str) ++ (".<locals>." : Str)) ++ ("<lambda>" : Str)) 3 .non hc_heard (eMeth 3 "with_tells" wtellsF (eVar 5) (aCons (eOp gIx (eVar 8) (eC (.int 4))) aNil))) (eC (.str "tells"))) (sRet (eC (.bl false))) sNil)
abbrev p_law_0_9 : Sx :=
  (sIf (tCmp' (gEqB true) (eHear 9 ((("law" : Str) ++ (".<locals>." : Str)) ++ ("<lambda>" : Str)) 3 .non hc_heard (eMeth 3 "with_turns" wturnsF (eVar 5) (aCons (eOp gIx (eVar 8) (eC (.int 5))) aNil))) (eC (.str "turns"))) (sRet (eC (.bl false))) sNil)
abbrev p_law_0_10 : Sx :=
  (sIf (tCmp' (gEqB true) (eHear 9 ((("law" : Str) ++ (".<locals>." : Str)) ++ ("<lambda>" : Str)) 3 .non hc_heard (eMeth 3 "with_program" wprogF (eVar 5) (aCons (eMake 0 pinitF (aCons (eC (.str "q")) (aCons (eLst (aCons (eC (.str "put zz 1")) aNil)) aNil))) aNil))) (eC (.str "programs"))) (sRet (eC (.bl false))) sNil)
abbrev l_law_1 : Sx :=
  (sSeq p_law_0_0
    (sSeq p_law_0_1
    (sSeq p_law_0_2
    (sSeq p_law_0_3
    (sSeq p_law_0_4
    (sSeq p_law_0_5
    (sSeq p_law_0_6
    (sSeq p_law_0_7
    (sSeq p_law_0_8
    (sSeq p_law_0_9
    p_law_0_10))))))))))
abbrev q_law_0 : Sx :=
  (sAsg (eCallAll dealF (aCons (eVar 0) (aCons (eC (.int 0)) aNil))) (gNm 1))
abbrev q_law_1 : Sx :=
  (sAsg (eLst (aCons (eC (.str "cells")) (aCons (eC (.str "programs")) (aCons (eC (.str "rule")) (aCons (eC (.str "log")) (aCons (eC (.str "tells")) (aCons (eC (.str "turns")) aNil))))))) (gNm 2))
abbrev q_law_2 : Sx :=
  (sFor (iR1 (aCons (eC (.int 6)) aNil)) (gNm 3) l_law_1)
abbrev q_law_3 : Sx :=
  (sRet (eC (.bl true)))
abbrev b_law : Sx :=
  (sSeq q_law_0
    (sSeq q_law_1
    (sSeq q_law_2
    q_law_3)))
set_option maxHeartbeats 4000000 in
theorem ok_law {P : Program} {w : World} {K : Kt} {mg : Str → Option Value} {base : Heap} (T : Tx K mg) (d_deal : Def P w K mg base "_law_deal" s_deal 1 ["_law_script", "_law_base"] dealF) (m_Turns : DefCX P w K mg base "Turns" 2 3 ["self", "ranked", "lent", "fair"] tinitF (PhiT K)) (m_Rule : DefCX P w K mg base "Rule" 1 3 ["self", "sees", "looks", "takes"] rinitF (PhiR K)) (m_Program : DefC P w K mg base "Program" 0 7 ["self", "name", "lines"] pinitF) (d_made : Def P w K mg base "_law_made" s_made 7 ["_law_parts"] madeF) (d_draw : Def P w K mg base "_law_draw" s_draw 1 ["_law_deal_here", "_law_bound"] drawF) (d_bad : Def P w K mg base "_law_bad" s_bad 9 ["_law_deal_here", "_law_spot"] badF) (o_wrule : DefM P w K mg base 3 "with_rule" 7 ["self", "rule"] wruleF) (o_wlog : DefM P w K mg base 3 "with_log" 7 ["self", "log"] wlogF) (o_wtells : DefM P w K mg base 3 "with_tells" 7 ["self", "tells"] wtellsF) (o_wturns : DefM P w K mg base 3 "with_turns" 7 ["self", "turns"] wturnsF) (o_wprog : DefM P w K mg base 3 "with_program" 7 ["self", "program"] wprogF) {f c : Addr} {oc dV kV doc pm ct : Value} {od an : Option Addr} {osl : Array (Option Value)} (lk : K.K.lookup f = some ⟨oc, od, .func (PySem.W.fnOf "law" "law" (defArgs s_law) (defBody s_law) (defScope s_law) dV kV doc pm an (.ref c) ct), osl⟩) (hcd : PySem.W.codeIn K.K (.ref c) "law" = true) (TB : LamX.TabB base mg c (K.κ 9)) : FnOk P w K.K mg base (L2.CX P w) 13 f (PySem.W.fnOf "law" "law" (defArgs s_law) (defBody s_law) (defScope s_law) dV kV doc pm an (.ref c) ct) ["_law_script"] (spF K 1 (runF 9 b_law)) := by
  refine okL (k := 12) (N := n_law) (body := b_law) lk hcd sc_law ?_
  rintro G rfl A outer s H E hr
  exact (ds_cons (ds_set (i := 1) sc_law.nd (de_callDA d_deal rfl (takes_of rfl rfl rfl rfl) (hr.mono (by decide)) (da_cons (de_var (pv 0)) (da_cons de_int da_nil)) (alen_cons (alen_cons alen_nil))))
    (ds_cons (ds_set (i := 2) sc_law.nd (de_lst (da_cons de_str (da_cons de_str (da_cons de_str (da_cons de_str (da_cons de_str (da_cons de_str da_nil))))))))
    (ds_cons (ds_for (passes_of rfl) rfl (di_range1 rfl T.b_range (da_cons de_int da_nil)) (dg_name (i := 3) sc_law.nd) (ds_cons (ds_set (i := 4) sc_law.nd (de_loc (da_cons (de_lst (da_cons (de_tup (da_cons de_str (da_cons de_int da_nil))) (da_cons (de_tup (da_cons de_str (da_cons de_int da_nil))) da_nil))) (da_cons (de_lst (da_cons (de_makeD m_Program rfl flatE (takes_of rfl rfl rfl rfl) (hr.mono (by decide)) (da_cons de_str (da_cons (de_lst (da_cons de_str da_nil)) da_nil)) (alen_cons (alen_cons alen_nil)) rfl) da_nil)) (da_cons (de_makeDf 1 m_Rule (fun _ h => h) rfl flatE (takes_of rfl rfl rfl rfl) (hr.mono (by decide)) (da_cons de_str da_nil) (alen_cons alen_nil) rfl) (da_cons (de_lst (da_cons de_str da_nil)) (da_cons de_str (da_cons (de_make0D m_Turns (fun _ h => h) rfl flatE (takes_of rfl rfl rfl rfl) (hr.mono (by decide)) rfl) da_nil))))))))
    (ds_cons (ds_set (i := 5) sc_law.nd (de_callD 0 d_made rfl (takes_of rfl rfl rfl rfl) (hr.mono (by decide)) (da_cons (de_var (pv 4)) da_nil) (alen_cons alen_nil)))
    (ds_cons (ds_setLc (i := 6) (own := [("_law_spot", 7)]) rfl sc_law.nd (di_range1 rfl T.b_range (da_cons de_int da_nil)) (blkOk_by (N := n_law) (sc := defScope s_law) (by decide +kernel)) (by decide) (fun _ _ _ _ _ => (dg_name (i := 7) sc_law.nd)) (fun _ _ _ _ _ => (dts_one (dt_eq rfl hr.units (de_callD 3 d_draw rfl takes0 (hr.mono (by decide)) (da_cons (de_var (pv 1)) (da_cons de_int da_nil)) (alen_cons (alen_cons alen_nil))) de_int))) (fun _ _ _ _ _ => (de_var (pv 7))) (sw_true rfl rfl rfl (by decide +kernel)))
    (ds_cons (ds_for (passes_of rfl) rfl (di_list rfl (de_var (pv 6))) (dg_name (i := 7) sc_law.nd) (ds_one (ds_setIx (de_callD 3 d_bad rfl (takes_of rfl rfl rfl rfl) (hr.mono (by decide)) (da_cons (de_var (pv 1)) (da_cons (de_var (pv 7)) da_nil)) (alen_cons (alen_cons alen_nil))) (de_var (pv 4)) (de_var (pv 7)))))
    (ds_cons (ds_if (dt_ne rfl hr.units (de_hear (n := 9) (k := 9) (hd_heard rfl T) rfl TB rfl (hr.mono (by decide)) (LamX.lamS_by (by kernel_rfl)) rfl (fun _ _ _ _ _ => rfl) (fun G' e' A outer s H E f c' hr => by obtain ⟨_, _, _, _⟩ := G'; cases e'; exact (de_callD 0 d_made rfl (takes_of rfl rfl rfl rfl) (hr.mono (by decide)) (da_cons (de_var (pv 4)) da_nil) (alen_cons alen_nil))) rfl lamQ_cx) (de_if (dt_ne rfl hr.units (de_var (pv 6)) (de_lst da_nil)) (de_ix rfl (de_var (pv 2)) (de_ix rfl (de_var (pv 6)) de_int)) de_non)) (ds_one (ds_ret de_bl)) ds_nil)
    (ds_cons (ds_set (i := 8) sc_law.nd (de_lc (own := [("_law_spot", 7)]) rfl sc_law.nd (di_range1 rfl T.b_range (da_cons de_int da_nil)) (blkOk_by (N := n_law) (sc := defScope s_law) (by decide +kernel)) (by decide) (fun _ _ _ _ _ => (dg_name (i := 7) sc_law.nd)) (fun _ _ _ _ _ => dts_nil) (fun _ _ _ _ _ => (de_callD 3 d_bad rfl takes0 (hr.mono (by decide)) (da_cons (de_var (pv 1)) (da_cons (de_var (pv 7)) da_nil)) (alen_cons (alen_cons alen_nil))))))
    (ds_cons (ds_if (dt_ne rfl hr.units (de_hear (n := 9) (k := 9) (hd_heard rfl T) rfl TB rfl (hr.mono (by decide)) (LamX.lamS_by (by kernel_rfl)) rfl (fun _ _ _ _ _ => rfl) (fun G' e' A outer s H E f c' hr => by obtain ⟨_, _, _, _⟩ := G'; cases e'; exact (de_meth o_wrule T.f_House_cells.cl T.km_with_rule rfl flatE (takes_of rfl rfl rfl rfl) (hr.mono (by decide)) (de_var (pv 5)) (da_cons (de_ix rfl (de_var (pv 8)) de_int) da_nil) (alen_cons alen_nil) rfl)) rfl lamQ_cx) de_str) (ds_one (ds_ret de_bl)) ds_nil)
    (ds_cons (ds_if (dt_ne rfl hr.units (de_hear (n := 9) (k := 9) (hd_heard rfl T) rfl TB rfl (hr.mono (by decide)) (LamX.lamS_by (by kernel_rfl)) rfl (fun _ _ _ _ _ => rfl) (fun G' e' A outer s H E f c' hr => by obtain ⟨_, _, _, _⟩ := G'; cases e'; exact (de_meth o_wlog T.f_House_cells.cl T.km_with_log rfl flatE (takes_of rfl rfl rfl rfl) (hr.mono (by decide)) (de_var (pv 5)) (da_cons (de_ix rfl (de_var (pv 8)) de_int) da_nil) (alen_cons alen_nil) rfl)) rfl lamQ_cx) de_str) (ds_one (ds_ret de_bl)) ds_nil)
    (ds_cons (ds_if (dt_ne rfl hr.units (de_hear (n := 9) (k := 9) (hd_heard rfl T) rfl TB rfl (hr.mono (by decide)) (LamX.lamS_by (by kernel_rfl)) rfl (fun _ _ _ _ _ => rfl) (fun G' e' A outer s H E f c' hr => by obtain ⟨_, _, _, _⟩ := G'; cases e'; exact (de_meth o_wtells T.f_House_cells.cl T.km_with_tells rfl flatE (takes_of rfl rfl rfl rfl) (hr.mono (by decide)) (de_var (pv 5)) (da_cons (de_ix rfl (de_var (pv 8)) de_int) da_nil) (alen_cons alen_nil) rfl)) rfl lamQ_cx) de_str) (ds_one (ds_ret de_bl)) ds_nil)
    (ds_cons (ds_if (dt_ne rfl hr.units (de_hear (n := 9) (k := 9) (hd_heard rfl T) rfl TB rfl (hr.mono (by decide)) (LamX.lamS_by (by kernel_rfl)) rfl (fun _ _ _ _ _ => rfl) (fun G' e' A outer s H E f c' hr => by obtain ⟨_, _, _, _⟩ := G'; cases e'; exact (de_meth o_wturns T.f_House_cells.cl T.km_with_turns rfl flatE (takes_of rfl rfl rfl rfl) (hr.mono (by decide)) (de_var (pv 5)) (da_cons (de_ix rfl (de_var (pv 8)) de_int) da_nil) (alen_cons alen_nil) rfl)) rfl lamQ_cx) de_str) (ds_one (ds_ret de_bl)) ds_nil)
    (ds_one (ds_if (dt_ne rfl hr.units (de_hear (n := 9) (k := 9) (hd_heard rfl T) rfl TB rfl (hr.mono (by decide)) (LamX.lamS_by (by kernel_rfl)) rfl (fun _ _ _ _ _ => rfl) (fun G' e' A outer s H E f c' hr => by obtain ⟨_, _, _, _⟩ := G'; cases e'; exact (de_meth o_wprog T.f_House_cells.cl T.km_with_program rfl flatE (takes_of rfl rfl rfl rfl) (hr.mono (by decide)) (de_var (pv 5)) (da_cons (de_makeD m_Program rfl flatE (takes_of rfl rfl rfl rfl) (hr.mono (by decide)) (da_cons de_str (da_cons (de_lst (da_cons de_str da_nil)) da_nil)) (alen_cons (alen_cons alen_nil)) rfl) da_nil) (alen_cons alen_nil) rfl)) rfl lamQ_cx) de_str) (ds_one (ds_ret de_bl)) ds_nil)))))))))))))
    (ds_one (ds_ret de_bl)))))
abbrev s_x_InvalidProgram : Stmt := inClass (topS 3) 0
theorem mkx_InvalidProgram {P : Program} {w : World} {K : Kt} {mg : Str → Option Value} {base : Heap} {f cc cda : Addr} {kV doc pm ct oc cl ccl : Value} {an od cld cdd : Option Addr} {osl csl ccs : Array (Option Value)} {vs0 : Array Value} {file : Str} {tf : Tok}
    (lk : K.K.lookup f = some ⟨oc, od, .func (PySem.W.ksFn "__init__" "InvalidProgram.__init__" (defArgs s_x_InvalidProgram) (defBody s_x_InvalidProgram) (defScope s_x_InvalidProgram) .none kV doc pm an (.ref cda) ct cc), osl⟩) (hcd : PySem.W.codeIn K.K (.ref cda) "InvalidProgram.__init__" = true) (hcode : K.K.lookup cda = some ⟨ccl, cdd, .fields vs0, ccs⟩) (hvs : vs0[2]? = some (.str file tf)) (hfile : ((P.main.file : Str) == file) = true) (hcell : K.K.lookup cc = some ⟨cl, cld, .cell (some (.ref (K.κ 4))), csl⟩)
    (T : OexB "ValueError" "ValueError.__new__" vlTail K.K (K.κ 4)) (no : PySem.W.findIn K.K (.ref (K.κ 4)) "word" = some none) (sup : PySem.W.ks_superIn K.K (K.κ 4) (K.κ 4) "__init__" = some (some (.builtin "ValueError.__init__"))) (mro : PySem.W.mroIn K.K (K.κ 4) (.ref (K.κ 4)) = some true) (ve : PySem.W.subIn K.K (.ref (K.κ 4)) (.type "ValueError") = some true) (any : PySem.W.nsIn K.K cStatics "thirdparty.any" = some none) (ms : mg "super" = none) (top : (P.main.scope.names.lookup ("super" : Str)).isSome = false)
    (hm : mg "InvalidProgram" = some (.ref (K.κ 4))) (hi : PySem.W.findIn K.K (.ref (K.κ 4)) "__init__" = some (some (.ref f))) (ht : PySem.W.typeIn K.K (.ref f) = some (.type "function")) : Xc P w K mg base "InvalidProgram" 4 "word" :=
  xc_of base_ValueError (par := "word") lk hcd hcode hvs hfile hcell T no sup mro ve any ms top hm hi ht rfl (fun env => ⟨_, rfl⟩) rfl rfl rfl rfl rfl rfl rfl (by decide +kernel) rfl rfl (by decide) (by decide) (fun us hl => match us, hl with | [_, _], _ => rfl)
abbrev s_x_InvalidHouse : Stmt := inClass (topS 4) 0
theorem mkx_InvalidHouse {P : Program} {w : World} {K : Kt} {mg : Str → Option Value} {base : Heap} {f cc cda : Addr} {kV doc pm ct oc cl ccl : Value} {an od cld cdd : Option Addr} {osl csl ccs : Array (Option Value)} {vs0 : Array Value} {file : Str} {tf : Tok}
    (lk : K.K.lookup f = some ⟨oc, od, .func (PySem.W.ksFn "__init__" "InvalidHouse.__init__" (defArgs s_x_InvalidHouse) (defBody s_x_InvalidHouse) (defScope s_x_InvalidHouse) .none kV doc pm an (.ref cda) ct cc), osl⟩) (hcd : PySem.W.codeIn K.K (.ref cda) "InvalidHouse.__init__" = true) (hcode : K.K.lookup cda = some ⟨ccl, cdd, .fields vs0, ccs⟩) (hvs : vs0[2]? = some (.str file tf)) (hfile : ((P.main.file : Str) == file) = true) (hcell : K.K.lookup cc = some ⟨cl, cld, .cell (some (.ref (K.κ 5))), csl⟩)
    (T : OexB "ValueError" "ValueError.__new__" vlTail K.K (K.κ 5)) (no : PySem.W.findIn K.K (.ref (K.κ 5)) "word" = some none) (sup : PySem.W.ks_superIn K.K (K.κ 5) (K.κ 5) "__init__" = some (some (.builtin "ValueError.__init__"))) (mro : PySem.W.mroIn K.K (K.κ 5) (.ref (K.κ 5)) = some true) (ve : PySem.W.subIn K.K (.ref (K.κ 5)) (.type "ValueError") = some true) (any : PySem.W.nsIn K.K cStatics "thirdparty.any" = some none) (ms : mg "super" = none) (top : (P.main.scope.names.lookup ("super" : Str)).isSome = false)
    (hm : mg "InvalidHouse" = some (.ref (K.κ 5))) (hi : PySem.W.findIn K.K (.ref (K.κ 5)) "__init__" = some (some (.ref f))) (ht : PySem.W.typeIn K.K (.ref f) = some (.type "function")) : Xc P w K mg base "InvalidHouse" 5 "word" :=
  xc_of base_ValueError (par := "word") lk hcd hcode hvs hfile hcell T no sup mro ve any ms top hm hi ht rfl (fun env => ⟨_, rfl⟩) rfl rfl rfl rfl rfl rfl rfl (by decide +kernel) rfl rfl (by decide) (by decide) (fun us hl => match us, hl with | [_, _], _ => rfl)
abbrev s_x_InvalidRule : Stmt := inClass (topS 5) 0
theorem mkx_InvalidRule {P : Program} {w : World} {K : Kt} {mg : Str → Option Value} {base : Heap} {f cc cda : Addr} {kV doc pm ct oc cl ccl : Value} {an od cld cdd : Option Addr} {osl csl ccs : Array (Option Value)} {vs0 : Array Value} {file : Str} {tf : Tok}
    (lk : K.K.lookup f = some ⟨oc, od, .func (PySem.W.ksFn "__init__" "InvalidRule.__init__" (defArgs s_x_InvalidRule) (defBody s_x_InvalidRule) (defScope s_x_InvalidRule) .none kV doc pm an (.ref cda) ct cc), osl⟩) (hcd : PySem.W.codeIn K.K (.ref cda) "InvalidRule.__init__" = true) (hcode : K.K.lookup cda = some ⟨ccl, cdd, .fields vs0, ccs⟩) (hvs : vs0[2]? = some (.str file tf)) (hfile : ((P.main.file : Str) == file) = true) (hcell : K.K.lookup cc = some ⟨cl, cld, .cell (some (.ref (K.κ 6))), csl⟩)
    (T : OexB "ValueError" "ValueError.__new__" vlTail K.K (K.κ 6)) (no : PySem.W.findIn K.K (.ref (K.κ 6)) "word" = some none) (sup : PySem.W.ks_superIn K.K (K.κ 6) (K.κ 6) "__init__" = some (some (.builtin "ValueError.__init__"))) (mro : PySem.W.mroIn K.K (K.κ 6) (.ref (K.κ 6)) = some true) (ve : PySem.W.subIn K.K (.ref (K.κ 6)) (.type "ValueError") = some true) (any : PySem.W.nsIn K.K cStatics "thirdparty.any" = some none) (ms : mg "super" = none) (top : (P.main.scope.names.lookup ("super" : Str)).isSome = false)
    (hm : mg "InvalidRule" = some (.ref (K.κ 6))) (hi : PySem.W.findIn K.K (.ref (K.κ 6)) "__init__" = some (some (.ref f))) (ht : PySem.W.typeIn K.K (.ref f) = some (.type "function")) : Xc P w K mg base "InvalidRule" 6 "word" :=
  xc_of base_ValueError (par := "word") lk hcd hcode hvs hfile hcell T no sup mro ve any ms top hm hi ht rfl (fun env => ⟨_, rfl⟩) rfl rfl rfl rfl rfl rfl rfl (by decide +kernel) rfl rfl (by decide) (by decide) (fun us hl => match us, hl with | [_, _], _ => rfl)
abbrev s_x_InvalidTurns : Stmt := inClass (topS 6) 0
theorem mkx_InvalidTurns {P : Program} {w : World} {K : Kt} {mg : Str → Option Value} {base : Heap} {f cc cda : Addr} {kV doc pm ct oc cl ccl : Value} {an od cld cdd : Option Addr} {osl csl ccs : Array (Option Value)} {vs0 : Array Value} {file : Str} {tf : Tok}
    (lk : K.K.lookup f = some ⟨oc, od, .func (PySem.W.ksFn "__init__" "InvalidTurns.__init__" (defArgs s_x_InvalidTurns) (defBody s_x_InvalidTurns) (defScope s_x_InvalidTurns) .none kV doc pm an (.ref cda) ct cc), osl⟩) (hcd : PySem.W.codeIn K.K (.ref cda) "InvalidTurns.__init__" = true) (hcode : K.K.lookup cda = some ⟨ccl, cdd, .fields vs0, ccs⟩) (hvs : vs0[2]? = some (.str file tf)) (hfile : ((P.main.file : Str) == file) = true) (hcell : K.K.lookup cc = some ⟨cl, cld, .cell (some (.ref (K.κ 7))), csl⟩)
    (T : OexB "ValueError" "ValueError.__new__" vlTail K.K (K.κ 7)) (no : PySem.W.findIn K.K (.ref (K.κ 7)) "word" = some none) (sup : PySem.W.ks_superIn K.K (K.κ 7) (K.κ 7) "__init__" = some (some (.builtin "ValueError.__init__"))) (mro : PySem.W.mroIn K.K (K.κ 7) (.ref (K.κ 7)) = some true) (ve : PySem.W.subIn K.K (.ref (K.κ 7)) (.type "ValueError") = some true) (any : PySem.W.nsIn K.K cStatics "thirdparty.any" = some none) (ms : mg "super" = none) (top : (P.main.scope.names.lookup ("super" : Str)).isSome = false)
    (hm : mg "InvalidTurns" = some (.ref (K.κ 7))) (hi : PySem.W.findIn K.K (.ref (K.κ 7)) "__init__" = some (some (.ref f))) (ht : PySem.W.typeIn K.K (.ref f) = some (.type "function")) : Xc P w K mg base "InvalidTurns" 7 "word" :=
  xc_of base_ValueError (par := "word") lk hcd hcode hvs hfile hcell T no sup mro ve any ms top hm hi ht rfl (fun env => ⟨_, rfl⟩) rfl rfl rfl rfl rfl rfl rfl (by decide +kernel) rfl rfl (by decide) (by decide) (fun us hl => match us, hl with | [_, _], _ => rfl)
end K05

local macro_rules
  | `(tactic| subst_vars) => `(tactic| repeat (first
    | ((with_reducible show VL.WS _ _); (first
      | with_reducible refine VL.ws_seq ?_
      | with_reducible refine VL.ws_asg ?_
      | with_reducible refine VL.ws_if ?_
      | with_reducible refine VL.ws_ret ?_
      | ((with_reducible show VL.WS (ite _ _ _) _); (first | refine VL.ws_iteT ?_ | refine VL.ws_iteF ?_))
      | ((with_reducible show VL.WS (VL.asg (VL.gNm _) _ _) _); refine VL.ws_asgNm rfl ?_)
      | ((with_reducible show VL.WS (VL.asg (VL.gTp _ _) _ _) _); refine VL.ws_asgG rfl ?_)
      | with_reducible refine VL.ws_rtR ?_
      | with_reducible refine VL.ws_nxR ?_
      | with_reducible refine VL.ws_rt ?_
      | with_reducible refine VL.ws_nil ?_
      | with_reducible refine VL.ws_expr ?_
      | with_reducible refine VL.ws_par2 ?_
      | with_reducible refine VL.ws_setFld ?_
      | with_reducible refine VL.ws_for ?_
      | with_reducible refine VL.ws_ct ?_
      | with_reducible refine VL.ws_bk ?_
      | with_reducible refine VL.ws_cnt ?_
      | with_reducible refine VL.ws_brk ?_
      | with_reducible refine VL.ws_exR ?_
      | with_reducible refine VL.ws_ex ?_))
    | ((with_reducible show VL.WO _ _ _); (first
      | with_reducible refine VL.wo_ok ?_
      | ((with_reducible show VL.WO (VL.eVar _ _) _ _); refine VL.wo_eVar rfl ?_)
      | ((with_reducible show VL.WO (ite _ _ _) _ _); (first | refine VL.wo_ifT ?_ | refine VL.wo_ifF ?_))
      | with_reducible refine VL.wo_eOp ?_
      | with_reducible refine VL.wo_eUn ?_
      | with_reducible refine VL.wo_eC ?_
      | with_reducible refine VL.wo_tCmp ?_
      | with_reducible refine VL.wo_tTru ?_
      | with_reducible refine VL.wo_tNot ?_
      | with_reducible refine VL.wo_tAnd ?_
      | with_reducible refine VL.wo_tOr ?_
      | with_reducible refine VL.wo_eIf ?_
      | with_reducible refine VL.wo_eAnd ?_
      | with_reducible refine VL.wo_eOr ?_
      | with_reducible refine VL.wo_eNot ?_
      | with_reducible refine VL.wo_aNil ?_
      | with_reducible refine VL.wo_aCons ?_
      | with_reducible refine VL.wo_eTup ?_
      | with_reducible refine VL.wo_eLst ?_
      | with_reducible refine VL.wo_eB ?_
      | with_reducible refine VL.wo_eCall ?_
      | with_reducible refine VL.wo_eCallAll ?_
      | with_reducible refine VL.wo_eCMeth ?_
      | with_reducible refine VL.wo_eMake ?_
      | with_reducible refine VL.wo_eCallDf ?_
      | with_reducible refine VL.wo_eSl ?_
      | with_reducible refine VL.wo_oNone ?_
      | with_reducible refine VL.wo_oSome ?_
      | with_reducible refine VL.wo_tTrue ?_
      | with_reducible refine VL.wo_aStar ?_
      | with_reducible refine VL.wo_eMS ?_
      | with_reducible refine VL.wo_eMeth ?_
      | with_reducible refine VL.wo_iL ?_
      | with_reducible refine VL.wo_iT ?_
      | with_reducible refine VL.wo_iEn ?_
      | with_reducible refine VL.wo_iR1 ?_
      | with_reducible refine VL.wo_lc ?_
      | ((with_reducible show VL.WO (VL.gFldC _ _ _ _) _ _); refine VL.wo_ok ?_)
      | ((with_reducible show VL.WO (VL.gIs _ _ _ _) _ _); refine VL.wo_ok ?_)
      | ((with_reducible show VL.WO (VL.gSl _ _ _ _ _) _ _); refine VL.wo_ok ?_)
      | ((with_reducible show VL.WO (VL.hList _ _ _) _ _); refine VL.wo_ok ?_)
      | ((with_reducible show VL.WO (VL.gEqB _ _ (VL.D.int _) (VL.D.int _)) _ _); refine VL.wo_of VL.eqII ?_)
      | ((with_reducible show VL.WO (VL.gIx _ _ _) _ _); refine VL.wo_ok ?_)
      | ((with_reducible show VL.WO (VL.gAdd _ _ _) _ _); refine VL.wo_ok ?_)
      | ((with_reducible show VL.WO (VL.gSub _ _ _) _ _); refine VL.wo_ok ?_)
      | ((with_reducible show VL.WO (VL.gMul _ _ _) _ _); refine VL.wo_ok ?_)
      | ((with_reducible show VL.WO (VL.gMod _ _ _) _ _); refine VL.wo_ok ?_)
      | ((with_reducible show VL.WO (VL.gFdiv _ _ _) _ _); refine VL.wo_ok ?_)
      | ((with_reducible show VL.WO (VL.gLt _ _ _) _ _); refine VL.wo_ok ?_)
      | ((with_reducible show VL.WO (VL.gLe _ _ _) _ _); refine VL.wo_ok ?_)
      | ((with_reducible show VL.WO (VL.gGt _ _ _) _ _); refine VL.wo_ok ?_)
      | ((with_reducible show VL.WO (VL.gGe _ _ _) _ _); refine VL.wo_ok ?_)
      | ((with_reducible show VL.WO (VL.gNeg _ _) _ _); refine VL.wo_ok ?_)
      | ((with_reducible show VL.WO (VL.hLen _ _) _ _); refine VL.wo_ok ?_)
      | ((with_reducible show VL.WO (VL.hInt _ _) _ _); refine VL.wo_ok ?_)
      | ((with_reducible show VL.WO (VL.hAbs _ _) _ _); refine VL.wo_ok ?_)
      | ((with_reducible show VL.WO (VL.hTuple _ _) _ _); refine VL.wo_ok ?_)
      | ((with_reducible show VL.WO (VL.hMin2 _ _) _ _); refine VL.wo_ok ?_)
      | ((with_reducible show VL.WO (VL.hMax _ _) _ _); refine VL.wo_ok ?_)
      | ((with_reducible show VL.WO (VL.hStrS _ _) _ _); refine VL.wo_ok ?_)
      | ((with_reducible show VL.WO (VL.hStrI _ _) _ _); refine VL.wo_ok ?_)
      | ((with_reducible show VL.WO (VL.hStrA _ _) _ _); refine VL.wo_ok ?_)))
    | ((with_reducible show VL.Is _ _ _); refine VL.is_mk rfl ?_)
    | ((with_reducible show VL.Is2 _ _ _); refine VL.is_mk2 rfl ?_)
    | ((with_reducible show VL.Lim _ _); refine VL.lim_mk ?_ ?_; focus (simp; done))))
  | `(tactic| and_intros) => `(tactic| (subst_vars; repeat ((with_reducible refine VL.ws_nx ?_); subst_vars)))
namespace K05
open PySem L2 PyProof.Rows VL
abbrev T0 : Cell := .tbl 9 (("law" ++ ".<locals>.") ++ "<lambda>")
abbrev dx (gs : List Int) (s : Int) : List Cell := [T0, .lst (gs.map D.int), .lst [.loc 1, .int s]]
theorem stir (d0 d3 : D) (b : Int) : ∀ (l : List Int) (e4 : Option D) (s : Int), ∃ e4' s', forL (gNm 4) (sAsg (eOp gMod (eB hInt (aCons (eOp gAdd (eOp gAdd (eOp gMul (eVar 2) (eC (.int 69069))) (eOp gMod (eB hInt (aCons (eVar 4) aNil)) (eC (.int 2147483477)))) (eC (.int 13))) aNil)) (eC (.int 2147483647))) (gNm 2)) keepAll (l.map D.int) ⟨[some d0, some (.int b), some (.int s), some d3, e4], [T0]⟩ = .nx ⟨[some d0, some (.int b), some (.int s'), some d3, e4'], [T0]⟩
  | [], e4, s => ⟨e4, s, ev_forNil rfl⟩
  | x :: l, e4, s => by
    obtain ⟨e4', s', h⟩ := stir d0 d3 b l (some (.int x)) ((s * 69069 + x % 2147483477 + 13) % 2147483647)
    refine ⟨e4', s', ev_forNx (st1 := ⟨[some d0, some (.int b), some (.int s), some d3, some (.int x)], [T0]⟩) rfl rfl ?_ h⟩
    have c1 : ∀ x, cMod x 2147483477 = true := fun x => rfl
    have c2 : ∀ x, cMod x 2147483647 = true := fun x => rfl
    simp [sAsg, eOp, eB, aCons, aNil, hInt, eVar, eC, Out.bind, gMul, cMul, gMod, gInt, gAdd, thenS, asg, gNm, c1, c2]
theorem deal_ok (ns : List Int) (hn : ns.length ≤ 63) (b : Int) : ∃ gs s, gs.length ≤ 63 ∧ dealF [.frl (ns.map D.int), .int b] [T0] = .ok (.loc 2) (dx gs s) := by
  obtain ⟨ms, hm, hl⟩ := cut_ints (l := ns) (lo := some b) (hi := some 58)
  obtain ⟨ks, hks⟩ : ∃ ks : List Int, ks = ms.map fun x => if x < 0 then -x else x := ⟨_, rfl⟩
  have hkl : ks.length ≤ 63 := by rw [hks, List.length_map]; omega
  have e1 : eLc (iL (eSl false (eVar 0) (oSome (eVar 1)) (oSome (eC (.int 58))))) (gNm 4) tTrue (eB hAbs (aCons (eB hInt (aCons (eVar 4) aNil)) aNil)) [4] ⟨[some (.frl (ns.map D.int)), some (.int b), some (.int (32452867 + 53 * b)), none, none], [T0]⟩ = .ok (.lst (ks.map D.int)) [T0] := by
    have := ev_eLc (xs := ms) (fD := D.int) (kp := keepAll) (c1 := [T0]) (g := gNm 4) (t := tTrue) (f := eB hAbs (aCons (eB hInt (aCons (eVar 4) aNil)) aNil)) (vs := [4]) (src := iL (eSl false (eVar 0) (oSome (eVar 1)) (oSome (eC (.int 58))))) (st := ⟨[some (.frl (ns.map D.int)), some (.int b), some (.int (32452867 + 53 * b)), none, none], [T0]⟩)
      (fun _ => true) (fun x => .int (if x < 0 then -x else x)) (by
        show Out.ok (cutD (ns.map D.int) (some b) (some 58), keepAll) [T0] = _
        rw [hm]) (fun _ => rfl) (by omega) rfl (fun _ _ _ => rfl) (fun x _ acc _ => ⟨_, rfl, rfl, fun _ => rfl⟩)
    rw [this, hks, List.map_map]
    have e : ms.filter (fun _ => true) = ms := List.filter_eq_self.mpr fun _ _ => rfl
    rw [e]
    rfl
  obtain ⟨z4, s, h3⟩ := stir (.frl (ns.map D.int)) (.lst (ks.map D.int)) b ks none (32452867 + 53 * b)
  have e4 : eLc (iL (eVar 3)) (gNm 4) (tCmp' gGe (eVar 4) (eOp gPow (eC (.int 10)) (eC (.int 18)))) (eVar 4) [4] ⟨[some (.frl (ns.map D.int)), some (.int b), some (.int s), some (.lst (ks.map D.int)), z4], [T0]⟩ = .ok (.lst ((ks.filter fun x => decide (x ≥ 1000000000000000000)).map D.int)) [T0] :=
    ev_eLc (xs := ks) (fD := D.int) (kp := keepAll) (c1 := [T0]) (fun x => decide (x ≥ 1000000000000000000)) D.int rfl (fun _ => rfl) (by omega) rfl (fun _ _ _ => rfl) (fun x _ acc _ => ⟨_, rfl, rfl, fun _ => rfl⟩)
  refine ⟨(ks.filter fun x => decide (x ≥ 1000000000000000000)).reverse, s, ?_, ?_⟩
  · rw [List.length_reverse]
    exact Nat.le_trans (List.length_filter_le _ _) hkl
  · refine ev_runRt (env := [some (.frl (ns.map D.int)), some (.int b), none, none, none]) (st1 := ⟨[some (.frl (ns.map D.int)), some (.int b), some (.int s), some (.lst (ks.map D.int)), z4], _⟩) rfl ?_
    have cm : cMul 53 b = true := rfl
    refine ev_sSeq (ev_sAsg (d := .int (32452867 + 53 * b)) (c1 := [T0]) rfl rfl) (ev_sSeq (ev_sAsg e1 rfl) (ev_sSeq (ev_sFor (w := (ks.map D.int, keepAll)) (c1 := [T0]) rfl h3) ?_))
    refine ev_sRet (ev_eLoc (ev_aCons (c1 := [T0, .lst ((ks.filter fun x => decide (x ≥ 1000000000000000000)).map D.int).reverse]) (x := .loc 1) (ev_eUn e4 rfl) rfl) rfl ?_)
    rw [← List.map_reverse]
    rfl
theorem snoc_cases : ∀ (l : List Int), l = [] ∨ ∃ m g, l = m ++ [g] := fun l => by
  rcases List.eq_nil_or_concat l with h | ⟨m, g, h⟩
  · exact .inl h
  · exact .inr ⟨m, g, by rw [h, List.concat_eq_append]⟩
abbrev t0 : VL.Tx := tAnd' (tCmp' (gEqB true) (eOp gIx (eVar 0) (eC (.int 0))) (eLst aNil)) (tCmp' (gEqB false) (eOp gIx (eOp gIx (eVar 0) (eC (.int 0))) (eUn gNeg (eC (.int 1)))) (eC (.int 0)))
abbrev enD (m : Int) (e : Option D) : List (Option D) := [some (.loc 2), some (.int m), e]
theorem last_at {m : List Int} {g : Int} {cs : List Cell} (h : cs[1]? = some (.lst ((m ++ [g]).map D.int))) : gIx cs (.loc 1) (.int (-1)) = .ok (.int g) cs := by
  have e : atI ((m ++ [g]).map D.int) (-1) = some (.int g) := by
    have hl : ((m ++ [g]).map D.int).length = m.length + 1 := by simp
    have hi : ixN (m.length + 1) (-1) = some m.length := by
      unfold ixN
      rw [if_neg (by omega), if_pos (by omega)]
      congr 1
      omega
    unfold atI
    rw [hl, hi]
    show ((m ++ [g]).map D.int)[m.length]? = _
    rw [List.map_append, List.getElem?_append_right (by simp)]
    simp
  simp only [gIx, seqOf, lstOf, h, e]
theorem pop_at {m : List Int} {g s : Int} {env : List (Option D)} (h0 : env[0]? = some (some (.loc 2))) : ePop (eOp gIx (eVar 0) (eC (.int 0))) ⟨env, dx (m ++ [g]) s⟩ = .ok (.int g) (dx m s) := by
  have e1 : eOp gIx (eVar 0) (eC (.int 0)) ⟨env, dx (m ++ [g]) s⟩ = .ok (.loc 1) (dx (m ++ [g]) s) := ev_eOp (c1 := dx (m ++ [g]) s) (x := .loc 2) (by unfold eVar; simp only [h0]) rfl rfl
  unfold ePop
  rw [e1]
  simp [Out.bind, dx]
theorem ne_at {gs : List Int} {s : Int} {env : List (Option D)} (h0 : env[0]? = some (some (.loc 2))) : tCmp' (gEqB true) (eOp gIx (eVar 0) (eC (.int 0))) (eLst aNil) ⟨env, dx gs s⟩ = .ok (!gs.isEmpty) (dx gs s) :=
  ev_tCmp (ev_eOp (x := .loc 1) (c1 := dx gs s) (c2 := dx gs s) (ev_eOp (c1 := dx gs s) (x := .loc 2) (by unfold eVar; simp only [h0]) rfl rfl) rfl (eqNilI rfl))
theorem zeros (m : Int) (s : Int) : ∀ (fuel : Nat) (gs : List Int), gs.length < fuel → ∃ gs', gs'.length ≤ gs.length ∧ whL t0 (sExpr (ePop (eOp gIx (eVar 0) (eC (.int 0))))) fuel ⟨enD m none, dx gs s⟩ = .nx ⟨enD m none, dx gs' s⟩
  | 0, gs, h => absurd h (Nat.not_lt_zero _)
  | fuel + 1, gs, h => by
    rcases snoc_cases gs with rfl | ⟨l, g, rfl⟩
    · refine ⟨[], Nat.le_refl _, ?_⟩
      have e : t0 ⟨enD m none, dx [] s⟩ = .ok false (dx [] s) := ev_tAndF (ne_at (gs := []) rfl)
      unfold whL
      rw [e]
      rfl
    · have e1 : tCmp' (gEqB true) (eOp gIx (eVar 0) (eC (.int 0))) (eLst aNil) ⟨enD m none, dx (l ++ [g]) s⟩ = .ok true (dx (l ++ [g]) s) := by
        rw [ne_at rfl]
        simp
      have e2 : tCmp' (gEqB false) (eOp gIx (eOp gIx (eVar 0) (eC (.int 0))) (eUn gNeg (eC (.int 1)))) (eC (.int 0)) ⟨enD m none, dx (l ++ [g]) s⟩ = .ok (g == 0) (dx (l ++ [g]) s) :=
        ev_tCmp (ev_eOp (x := .int g) (c1 := dx (l ++ [g]) s) (c2 := dx (l ++ [g]) s) (ev_eOp (c1 := dx (l ++ [g]) s) (c2 := dx (l ++ [g]) s) (x := .loc 1) (y := .int (-1)) rfl rfl (last_at rfl)) rfl eqII)
      have e : t0 ⟨enD m none, dx (l ++ [g]) s⟩ = .ok (g == 0) (dx (l ++ [g]) s) := ev_tAndT e1 e2
      by_cases c : (g == 0) = true
      · rw [c] at e
        have hl : l.length < fuel := by rw [List.length_append] at h; simp at h; omega
        obtain ⟨gs', h1, h2⟩ := zeros m s fuel l hl
        refine ⟨gs', by rw [List.length_append]; omega, ?_⟩
        unfold whL
        rw [e]
        show (match sExpr (ePop (eOp gIx (eVar 0) (eC (.int 0)))) ⟨enD m none, dx (l ++ [g]) s⟩ with
          | .nx st2 => _
          | .ct st2 => _
          | .bk st2 => SOut.nx st2
          | o => o) = _
        rw [ev_sExpr (pop_at rfl)]
        exact h2
      · rw [Bool.eq_false_iff.mpr c] at e
        refine ⟨_, Nat.le_refl _, ?_⟩
        unfold whL
        rw [e]
        rfl
theorem low_dx (l : List Int) (a : Int) : (dx l a).all (belowC 3) = true := by
  show (true && (belows 3 (l.map D.int) && (true && true))) = true
  rw [belows_int]
  rfl
theorem nol_dx (l : List Int) (a : Int) : (dx l a).all noLstC = true := by
  show (true && (noLsts (l.map D.int) && (true && true))) = true
  rw [noLsts_int]
  rfl
theorem draw_ok (gs : List Int) (hg : gs.length ≤ 63) (s : Int) (m : Nat) (h0 : 0 < m) (h1 : m < 1073741824) : ∃ (v : Nat) (gs' : List Int) (s' : Int), gs'.length ≤ 63 ∧ v < m ∧ drawF [.loc 2, .int m] (dx gs s) = .ok (.int v) (dx gs' s') := by
  have h0' : (0 : Int) < m := by omega
  have h1' : (m : Int) < 1073741824 := by omega
  have c1 : ∀ x, cMod x m = true := fun x => by simp [cMod]; omega
  have c2 : ∀ x, cDiv x m = true := fun x => by simp [cDiv]; omega
  have fin : ∀ x : Int, D.int ((x % m).toNat : Nat) = .int (x % m) := fun x => by
    rw [Int.toNat_of_nonneg (Int.emod_nonneg _ (by omega))]
  have lt : ∀ x : Int, (x % m).toNat < m := fun x => by
    have := Int.emod_lt_of_pos x h0'
    have := Int.emod_nonneg x (b := m) (by omega)
    omega
  obtain ⟨g2, hg2, hw⟩ := zeros m s 64 gs (by omega)
  have w : sWhile (fun _ => 64) t0 (sExpr (ePop (eOp gIx (eVar 0) (eC (.int 0))))) ⟨enD m none, dx gs s⟩ = .nx ⟨enD m none, dx g2 s⟩ := hw
  rcases snoc_cases g2 with rfl | ⟨l, g, rfl⟩
  · have ce : tCmp' (gEqB true) (eOp gIx (eVar 0) (eC (.int 0))) (eLst aNil) ⟨enD m none, dx [] s⟩ = .ok false (dx [] s) := ne_at (gs := []) rfl
    have d2 : sSetIx (eOp gMod (eB hInt (aCons (eOp gAdd (eOp gMul (eOp gIx (eVar 0) (eC (.int 1))) (eC (.int 69069))) (eC (.int 71))) aNil)) (eC (.int 2147483647))) (eVar 0) (eC (.int 1)) ⟨enD m none, dx [] s⟩ = .nx ⟨enD m none, dx [] ((s * 69069 + 71) % 2147483647)⟩ := by
      have cl2 : cMul s 69069 = true := by simp [cMul]
      refine ev_setIx (c1 := dx [] s) (c2 := dx [] s) (c3 := dx [] s) (x := .int ((s * 69069 + 71) % 2147483647)) (y := .loc 2) ?_ rfl rfl rfl
      refine ev_eOp (c1 := dx [] s) (c2 := dx [] s) (ev_eB (c1 := dx [] s) (xs := [.int (s * 69069 + 71)]) (ev_aCons (c1 := dx [] s) (ev_eOp (c1 := dx [] s) (c2 := dx [] s) (x := .int (s * 69069)) (ev_eOp (c1 := dx [] s) (c2 := dx [] s) (x := .int s) rfl rfl ?_) rfl rfl) rfl) rfl) rfl rfl
      show (if cMul s 69069 then Out.ok (D.int (s * 69069)) (dx [] s) else .no) = _
      rw [if_pos cl2]
    refine ⟨((((s * 69069 + 71) % 2147483647) / 32) % m).toNat, [], (s * 69069 + 71) % 2147483647, by simp, lt _, ?_⟩
    rw [fin]
    refine trimF_of (d := .int ((((s * 69069 + 71) % 2147483647) / 32) % m)) (cs' := dx [] ((s * 69069 + 71) % 2147483647)) (ev_runRt (env := enD m none) (st1 := ⟨_, dx [] ((s * 69069 + 71) % 2147483647)⟩) rfl (ev_sSeq w (ev_sSeq (ev_sIfF ce rfl) (ev_sSeq d2 (ev_sRet ?_))))) (low_dx _ _) rfl
    refine ev_eOp (x := .int (((s * 69069 + 71) % 2147483647) / 32)) (y := .int m) (c1 := dx [] ((s * 69069 + 71) % 2147483647)) (c2 := dx [] ((s * 69069 + 71) % 2147483647)) rfl rfl ?_
    show (if cMod _ m then _ else _) = _
    rw [if_pos (c1 _)]
  · have ce : tCmp' (gEqB true) (eOp gIx (eVar 0) (eC (.int 0))) (eLst aNil) ⟨enD m none, dx (l ++ [g]) s⟩ = .ok true (dx (l ++ [g]) s) := by
      rw [ne_at rfl]
      simp
    refine ⟨(g % m).toNat, l ++ [g / m], s, by rw [List.length_append] at hg2 ⊢; simp at hg2 ⊢; omega, lt _, ?_⟩
    rw [fin]
    have ap : eAppend (eOp gIx (eVar 0) (eC (.int 0))) (eOp gFdiv (eVar 2) (eVar 1)) ⟨enD m (some (.int g)), dx l s⟩ = .ok .non (dx (l ++ [g / m]) s) := by
      have e1 : eOp gIx (eVar 0) (eC (.int 0)) ⟨enD m (some (.int g)), dx l s⟩ = .ok (.loc 1) (dx l s) := rfl
      have e2 : eOp gFdiv (eVar 2) (eVar 1) ⟨enD m (some (.int g)), dx l s⟩ = .ok (.int (g / m)) (dx l s) := by
        refine ev_eOp (x := .int g) (y := .int m) (c1 := dx l s) (c2 := dx l s) rfl rfl ?_
        show (if cDiv g m then _ else _) = _
        rw [if_pos (c2 _)]
      have hz : l.length < 16777216 := by rw [List.length_append] at hg2; omega
      unfold eAppend
      rw [e1]
      simp [Out.bind, dx, e2, hz]
    refine trimF_of (d := .int (g % m)) (cs' := dx (l ++ [g / m]) s) (ev_runRt (env := enD m none) (st1 := ⟨_, dx (l ++ [g / m]) s⟩) rfl (ev_sSeq w (ev_sSeqR (ev_sIfT ce (ev_sSeq (ev_sAsg (pop_at rfl) rfl) (ev_sSeq (ev_sExpr ap) (ev_sRet ?_))))))) (low_dx _ _) rfl
    refine ev_eOp (x := .int g) (y := .int m) (c1 := dx (l ++ [g / m]) s) (c2 := dx (l ++ [g / m]) s) rfl rfl ?_
    show (if cMod g m then _ else _) = _
    rw [if_pos (c1 _)]
/-! ### in the WO way -/
/-- a call that is handed the deal -/
theorem wd_call {fn : Fn} {ds ds' : List D} {gs : List Int} {s : Int} {rest : List Cell} {Q : D → List Cell → Prop} {E : Exn → List Cell → Prop} (P : D → Prop) (hd : ds.map (lendD 3 (dx gs s ++ rest)) = ds') (hb : belows 3 ds' = true) (h : WO (fn ds' (dx gs s)) (fun d c => P d ∧ ∃ gs' s', gs'.length ≤ 63 ∧ c = dx gs' s') NoE) (hn : belows 3 ds = true ∨ ∀ d, P d → noLst d = true)
    (hq : ∀ d gs' s', P d → gs'.length ≤ 63 → Q d (dx gs' s' ++ rest)) : WO (callV 3 fn ds (dx gs s ++ rest)) Q E := by
  obtain ⟨d, c, e, hp, gs', s', hg, rfl⟩ := h.ex
  unfold callV
  rw [hd, show (dx gs s ++ rest).take 3 = dx gs s from rfl, if_pos ⟨by simp, hb, low_dx _ _⟩, e]
  show WO (if _ then Out.ok d (dx gs' s' ++ rest) else Out.no) _ _
  rw [if_pos ⟨rfl, hn.imp id fun h => ⟨h d hp, nol_dx _ _⟩⟩]
  exact wo_ok (hq d gs' s' hp hg)
theorem wd_draw {gs : List Int} {s : Int} {m : Int} {rest : List Cell} {Q : D → List Cell → Prop} {E : Exn → List Cell → Prop} (n : Nat) (hm : m = n) (hg : gs.length ≤ 63) (h0 : 0 < n) (h1 : n < 1073741824) (h : ∀ (v : Nat) gs' s', v < n → gs'.length ≤ 63 → Q (.int v) (dx gs' s' ++ rest)) : WO (callV 3 drawF [.loc 2, .int m] (dx gs s ++ rest)) Q E := by
  subst hm
  obtain ⟨v, g2, s2, hl2, hv, hd⟩ := draw_ok gs hg s n h0 h1
  exact wd_call (fun d => ∃ v : Nat, v < n ∧ d = .int v) rfl rfl (wo_of hd ⟨⟨v, hv, rfl⟩, g2, s2, hl2, rfl⟩) (.inl rfl) fun d gs' s' ⟨v, hv, e⟩ hg => e ▸ h v gs' s' hv hg
theorem pick_ok (gs : List Int) (hg : gs.length ≤ 63) (s : Int) (ds : List D) (h0 : ds ≠ []) (h1 : ds.length < 1073741824) (hb : belows 3 ds = true) (hn : ∀ d ∈ ds, ∀ m, d ≠ .loc m) : WO (pickF [.loc 2, .lst ds] (dx gs s)) (fun d c => d ∈ ds ∧ ∃ gs' s', gs'.length ≤ 63 ∧ c = dx gs' s') NoE := by
  have hpos : 0 < ds.length := by
    cases ds with
    | nil => exact absurd rfl h0
    | cons x l => simp
  refine wo_trim (wo_run (env := [some (.loc 2), some (.lst ds)]) rfl ?_)
  and_intros
  refine wd_draw (rest := []) ds.length rfl hg hpos h1 fun v gs' s' hv hg' => ?_
  have hm : ds[v] ∈ ds := List.getElem_mem hv
  refine wo_of (a := ds[v]) (cs := dx gs' s') (ix_lst (VL.atI_nat (by simp [hv]))) ?_
  and_intros
  have hbv : below 3 ds[v] = true := by
    rw [belows_all, List.all_eq_true] at hb
    exact hb _ hm
  exact ⟨low_dx _ _, _, outD_low hbv (hn _ hm), hm, gs', s', hg', rfl⟩
theorem wd_pick {gs : List Int} {s : Int} {rest : List Cell} {ds : List D} {Q : D → List Cell → Prop} {E : Exn → List Cell → Prop} (hg : gs.length ≤ 63) (h0 : ds ≠ []) (h1 : ds.length < 1073741824) (hb : belows 3 ds = true) (hn : ∀ d ∈ ds, ∀ m, d ≠ .loc m) (h : ∀ d gs' s', d ∈ ds → gs'.length ≤ 63 → Q d (dx gs' s' ++ rest)) : WO (callV 3 pickF [.loc 2, .lst ds] (dx gs s ++ rest)) Q E :=
  wd_call (ds' := [.loc 2, .lst ds]) (fun d => d ∈ ds) rfl (by simp [belows, below, hb]) (pick_ok gs hg s ds h0 h1 hb hn) (.inl (by simp [belows, below, hb])) h
end K05

namespace K05
open PySem L2 PyProof.Rows VL
def prog1 (nm line : Str) (step : D) (cells : List D) : D := .obj 0 ["name", "lines", "steps", "cells", "locks"] [.str nm, .tup [.str line], .tup [step], .tup cells, .tup []]
abbrev stG : D := .tup [.str "await", .str "c", .int 2]
abbrev stE : D := .tup [.str "end"]
abbrev stZ : D := .tup [.str "get", .str "zz", .str "x"]
abbrev stA : D := .tup [.str "await", .str "c", .int 3]
abbrev stQ : D := .tup [.str "put", .str "zz", .tup [.int 1]]
def progG : D := prog1 "p" "await c 2" stG [.str "c"]
def progE : D := prog1 "p" "end" stE []
def progZ : D := prog1 "p" "get zz x" stZ [.str "zz"]
def progA : D := prog1 "p" "await c 3" stA [.str "c"]
def progQ : D := prog1 "q" "put zz 1" stQ [.str "zz"]
def rule0 : D := .obj 1 ["sees", "looks", "takes"] [.str "now", .tup [], .tup []]
def turns0 : D := .obj 2 ["ranked", "lent", "fair"] [.bl false, .bl false, .non]
abbrev cellsG : List D := [.tup [.str "c", .int 3], .tup [.str "d", .int 2]]
def goods : List D := [.lst cellsG, .lst [progG], rule0, .lst [.str "late"], .str "own", turns0]
def house0 : D := .obj 3 ["cells", "programs", "rule", "log", "tells", "turns", "places", "sizes", "named"] [.btp cellsG, .tup [progG], rule0, .tup [.str "late"], .str "own", turns0, .dct [.inr "c", .inr "d"] [.int 0, .int 1], .dct [.inr "c", .inr "d"] [.int 3, .int 2], .dct [.inr "p"] [progG]]
theorem made_good : madeF [.lst goods] [] = .ok house0 [] := by kernel_rfl
def base : List D := [.non, .bl true, .bl false, .int 0, .int 7, .int (-1), .int 100000000000000000000, .str "", .str "x", .str "hold", .str "end", .str "ok", .tup [], .lst [], .tup [.str "a"], .str "a 1"]
def odd3 : List D := [.int 3, .str "x", .bl true]
def some0 : List D := [.non, .lst [], .lst [.tup [.str "c", .int 1]], .lst [.tup [.str "c", .int 5]], .lst [.tup [.str "c", .bl true]], .lst [.tup [.str "c", .int 2], .tup [.str "c", .int 3]], .lst [.lst [.str "c", .int 2]], .lst [.tup [.str "x", .int 2]], .lst [.tup [.str "c", .str "2"]], .lst [.tup [.str "abcde", .int 2]], .tup [.str "c", .int 2], .lst [.tup [.str "c", .int 2, .int 2]]]
def some1 : List D := [.non, .lst [], .lst [progE, progE], .lst [.non], .lst [.str "program p"], progE, .lst [progZ], .lst [progA]]
def some2 : List D := [.non, .str "now - -", .tup [.str "now", .tup [], .tup []], turns0]
def some3 : List D := [.non, .int 3, .str "late", .lst [.str "late", .str "late"], .lst [.str "firm"], .lst [.non], .lst [.tup [.str "late"]], .bl true]
def some4 : List D := [.non, .str "late", .tup [.str "soon"], .str "Soon", .lst [.str "own"]]
def some5 : List D := [.int 3, .bl true, .str "", .str "any", .tup [.str "any", .int 0], rule0, .lst [.str "any"], .tup []]
def bad0 : List D := odd3 ++ base ++ some0
def bad1 : List D := odd3 ++ base ++ some1
def bad2 : List D := odd3 ++ base ++ some2
def bad4 : List D := odd3 ++ base ++ some4
abbrev xW (w : Str) : Out D := .ex ⟨5, ["word"], [.str w]⟩ []
theorem mk_0 : bad0.map (fun b => fun (x1 x2 x3 x4 x5 : D) => madeF [.lst [b, x1, x2, x3, x4, x5]] []) = bad0.map (fun _ => fun (x1 x2 x3 x4 x5 : D) => xW "cells") := by kernel_rfl
theorem mk_1 : bad1.map (fun b => fun (x2 x3 x4 x5 : D) => madeF [.lst [.lst cellsG, b, x2, x3, x4, x5]] []) = bad1.map (fun _ => fun (x2 x3 x4 x5 : D) => xW "programs") := by kernel_rfl
theorem mk_2 : bad2.map (fun b => fun (x3 x4 x5 : D) => madeF [.lst [.lst cellsG, .lst [progG], b, x3, x4, x5]] []) = bad2.map (fun _ => fun (x3 x4 x5 : D) => xW "rule") := by kernel_rfl
theorem mk_3 : some3.map (fun b => fun (x4 x5 : D) => madeF [.lst [.lst cellsG, .lst [progG], rule0, b, x4, x5]] []) = some3.map (fun _ => fun (x4 x5 : D) => xW "log") := by kernel_rfl
theorem mk_4 : bad4.map (fun b => fun (x5 : D) => madeF [.lst [.lst cellsG, .lst [progG], rule0, .lst [.str "late"], b, x5]] []) = bad4.map (fun _ => fun (x5 : D) => xW "tells") := by kernel_rfl
theorem mk_5 : some5.map (fun b => madeF [.lst [.lst cellsG, .lst [progG], rule0, .lst [.str "late"], .str "own", b]] []) = some5.map (fun _ => xW "turns") := by kernel_rfl
theorem wr_2 : bad2.map (fun b => wruleF [house0, b] []) = bad2.map (fun _ => xW "rule") := by kernel_rfl
theorem wr_3 : some3.map (fun b => wlogF [house0, b] []) = some3.map (fun _ => xW "log") := by kernel_rfl
theorem wr_4 : bad4.map (fun b => wtellsF [house0, b] []) = bad4.map (fun _ => xW "tells") := by kernel_rfl
theorem wr_5 : some5.map (fun b => wturnsF [house0, b] []) = some5.map (fun _ => xW "turns") := by kernel_rfl
theorem wr_p : wprogF [house0, progQ] [] = xW "programs" := by kernel_rfl
theorem h_5 (d : D) (cs : List Cell) : hearC 3 hc_heard ⟨5, ["word"], [d]⟩ cs = .ok d cs := by kernel_rfl
end K05

namespace K05
open PySem L2 PyProof.Rows VL
abbrev QN : Str := ((("law" : Str) ++ (".<locals>." : Str)) ++ ("<lambda>" : Str))
theorem low_dxL (gs : List Int) (s : Int) : Low (dx gs s) := fun k hk => by
  have hk : 3 ≤ k := by simpa using hk
  show (true && (belows k (gs.map D.int) && ((decide (1 < k) && true) && true))) = true
  rw [belows_int, decide_eq_true (by omega)]
  rfl
theorem wo_hear {fe : Ex} {env : List (Option D)} {gs : List Int} {s : Int} {rest : List Cell} {Q : D → List Cell → Prop} {E : Exn → List Cell → Prop} (h : WO (fe ⟨env, dx gs s ++ rest⟩) (fun _ c => Q .non c) (fun e c => WO (hearC 3 hc_heard e c) Q E)) : WO (eHear 9 QN 3 .non hc_heard fe ⟨env, dx gs s ++ rest⟩) Q E := by
  unfold eHear
  rw [if_pos (show tblAt 9 QN (dx gs s ++ rest) = true by simp [tblAt])]
  cases e : fe ⟨env, dx gs s ++ rest⟩ with
  | ok d c => rw [e] at h; have h' := wo_okI h; exact wo_ok h'
  | ex x c => rw [e] at h; have h' := wo_exI h; exact h'
  | no => rw [e] at h; exact (wo_noI h).elim
theorem wo_call0e {fn : Fn} {ds ds' : List D} {d : D} {cs : List Cell} {Q : D → List Cell → Prop} {E : Exn → List Cell → Prop} (hd : ds.map (lendD 0 cs) = ds') (hb : belows 0 ds' = true) (h : fn ds' [] = .ok d []) (hn : belows 0 ds = true ∨ noLst d = true) (hQ : Q d cs) : WO (callV 0 fn ds cs) Q E :=
  wo_call0 hd hb (wo_of h ⟨rfl, hn, hQ⟩)
theorem wo_call0x {fn : Fn} {ds ds' : List D} {x : Exn} {cs : List Cell} {Q : D → List Cell → Prop} {E : Exn → List Cell → Prop} (hd : ds.map (lendD 0 cs) = ds') (hb : belows 0 ds' = true) (h : fn ds' [] = .ex x []) (hn : belows 0 ds = true ∨ noLsts x.ds = true) (hE : E x cs) : WO (callV 0 fn ds cs) Q E :=
  wo_call0 hd hb (wo_eq h (wo_ex ⟨rfl, hn, hE⟩))
theorem ws_fldP {cs : List Cell} {cn : Nat} {ks ks' : List Str} {ds ds' : List D} {env : List (Option D)} {f : Str} {v : D} {P : SOut → Prop} {n : Nat} (hn : n = cs.length) (hk : ks.length < 1000) (hp : putD f v ks ds = (ks', ds')) (h : WS (.nx ⟨env, cs ++ [.ins cn ks' ds']⟩) P) : WS (setFld cn f (.loc n) v ⟨env, cs ++ [.ins cn ks ds]⟩) P :=
  ws_fldAt hn hk (by rw [hp]; exact h)
theorem put2 (a b : D) : putD "lines" b ["name"] [a] = ((["name", "lines"] : List Str), [a, b]) := by kernel_rfl
theorem put3 (a b c : D) : putD "steps" c ["name", "lines"] [a, b] = ((["name", "lines", "steps"] : List Str), [a, b, c]) := by kernel_rfl
theorem put4 (a b c d : D) : putD "cells" d ["name", "lines", "steps"] [a, b, c] = ((["name", "lines", "steps", "cells"] : List Str), [a, b, c, d]) := by kernel_rfl
theorem put5 (a b c d e : D) : putD "locks" e ["name", "lines", "steps", "cells"] [a, b, c, d] = ((["name", "lines", "steps", "cells", "locks"] : List Str), [a, b, c, d, e]) := by kernel_rfl
theorem lot0 : lotOfF [.lst []] [] = .ok (.tup []) [] := by kernel_rfl
abbrev tst (ws : List Str) : VL.Tx := tCmp' (gIn false) (eOp gIx (eVar 4) (eC (.int 0))) (eTup (ws.foldr (fun w a => aCons (eC (.str w)) a) aNil))
/-- Program(nm, [line]) -/
theorem make_prog {cs : List Cell} (hc : Low cs) {nm line : Str} {step : D} {q : Bool} {cn : Str} {cells : List D} (hn : isNameF [.str nm] [] = .ok (.bl true) []) (hs : stepsInF [.lst [.str line]] [] = .ok (.tup [step]) [])
    (h1 : ∀ (a b c d : Option D) (cs : List Cell), tst ["get", "put", "await"] ⟨[a, b, c, d, some step], cs⟩ = .ok q cs) (h2 : ∀ (a b c d : Option D) (cs : List Cell), tst ["lock", "free"] ⟨[a, b, c, d, some step], cs⟩ = .ok false cs)
    (h3 : q = true → ∀ (a b c d : Option D) (cs : List Cell), eOp gIx (eVar 4) (eC (.int 1)) ⟨[a, b, c, d, some step], cs⟩ = .ok (.str cn) cs) (hl : lotOfF [.lst (if q then [.str cn] else [])] [] = .ok (.tup cells) []) (hb : below 0 step = true) (hbc : belows 0 cells = true)
    {Q : D → List Cell → Prop} {E : Exn → List Cell → Prop} (hQ : Q (prog1 nm line step cells) cs) : WO (makeD 0 pinitF [.str nm, .lst [.str line]] cs) Q E := by
  refine wo_make hc (wo_run (env := [some (.loc cs.length), some (.str nm), some (.lst [.str line]), none, none]) rfl ?_)
  and_intros
  refine wo_call0e rfl rfl hn (.inl rfl) ?_
  and_intros
  refine wo_call0e rfl rfl hs (.inl rfl) ?_
  and_intros
  refine ws_fldP rfl (by decide) rfl ?_
  and_intros
  refine ws_fldP rfl (by decide) (put2 _ _) ?_
  and_intros
  refine ws_fldP rfl (by decide) (put3 _ _ _) ?_
  and_intros
  refine wo_lcMap (xs := [step]) (fD := id) (fun _ => q) (fun _ => .str cn) (by simp) ?_ (fun _ _ _ => rfl) (fun z hz acc => ⟨_, rfl, ?_, fun hq => ?_⟩) ?_
  · refine (hc.snoc fun k _ => ?_).all
    show (true && (true && (below k step && true && true))) = true
    rw [below_up (Nat.zero_le k) hb]; rfl
  · rw [List.mem_singleton.mp hz]; exact h1 _ _ _ _ _
  · rw [List.mem_singleton.mp hz]; exact h3 hq _ _ _ _ _
  and_intros
  have e1 : List.map (fun _ => D.str cn) (List.filter (fun _ => q) [step]) = if q then [D.str cn] else [] := by cases q <;> rfl
  rw [e1]
  refine wo_call0e (ds' := [.lst (if q then [D.str cn] else [])]) rfl (by cases q <;> rfl) hl (.inl (by cases q <;> rfl)) ?_
  and_intros
  refine ws_fldP rfl (by decide) (put4 _ _ _ _) ?_
  and_intros
  refine wo_lcMap (xs := [step]) (fD := id) (fun _ => false) (fun _ => .str cn) (by simp) ?_ (fun _ _ h => nomatch h) (fun z hz acc => ⟨_, rfl, ?_, fun hq => nomatch hq⟩) ?_
  · refine (hc.snoc fun k _ => ?_).all
    show (true && (true && (below k step && true && (belows k cells && true)))) = true
    rw [below_up (Nat.zero_le k) hb, belows_up (Nat.zero_le k) hbc]; rfl
  · rw [List.mem_singleton.mp hz]; exact h2 _ _ _ _ _
  and_intros
  refine wo_call0e rfl rfl lot0 (.inl rfl) ?_
  and_intros
  refine ws_fldP rfl (by decide) (put5 _ _ _ _ _) ?_
  and_intros
  refine ⟨rfl, _, _, rfl, ?_, hQ⟩
  show (true && (true && (below cs.length step && true && (belows cs.length cells && (true && true))))) = true
  rw [below_up (Nat.zero_le _) hb, belows_up (Nat.zero_le _) hbc]; rfl
section
variable {cs : List Cell} {Q : D → List Cell → Prop} {E : Exn → List Cell → Prop}
theorem mkG (hc : Low cs) (hQ : Q progG cs) : WO (makeD 0 pinitF [.str "p", .lst [.str "await c 2"]] cs) Q E :=
  make_prog hc (q := true) (cn := "c") (by kernel_rfl) (by kernel_rfl) (fun _ _ _ _ _ => by kernel_rfl) (fun _ _ _ _ _ => by kernel_rfl) (fun _ _ _ _ _ _ => by kernel_rfl) (by kernel_rfl) rfl rfl hQ
theorem mkE (hc : Low cs) (hQ : Q progE cs) : WO (makeD 0 pinitF [.str "p", .lst [.str "end"]] cs) Q E :=
  make_prog hc (q := false) (cn := "c") (by kernel_rfl) (by kernel_rfl) (fun _ _ _ _ _ => by kernel_rfl) (fun _ _ _ _ _ => by kernel_rfl) (fun h => nomatch h) (by kernel_rfl) rfl rfl hQ
theorem mkZ (hc : Low cs) (hQ : Q progZ cs) : WO (makeD 0 pinitF [.str "p", .lst [.str "get zz x"]] cs) Q E :=
  make_prog hc (q := true) (cn := "zz") (by kernel_rfl) (by kernel_rfl) (fun _ _ _ _ _ => by kernel_rfl) (fun _ _ _ _ _ => by kernel_rfl) (fun _ _ _ _ _ _ => by kernel_rfl) (by kernel_rfl) rfl rfl hQ
theorem mkA (hc : Low cs) (hQ : Q progA cs) : WO (makeD 0 pinitF [.str "p", .lst [.str "await c 3"]] cs) Q E :=
  make_prog hc (q := true) (cn := "c") (by kernel_rfl) (by kernel_rfl) (fun _ _ _ _ _ => by kernel_rfl) (fun _ _ _ _ _ => by kernel_rfl) (fun _ _ _ _ _ _ => by kernel_rfl) (by kernel_rfl) rfl rfl hQ
theorem mkQ (hc : Low cs) (hQ : Q progQ cs) : WO (makeD 0 pinitF [.str "q", .lst [.str "put zz 1"]] cs) Q E :=
  make_prog hc (q := true) (cn := "zz") (by kernel_rfl) (by kernel_rfl) (fun _ _ _ _ _ => by kernel_rfl) (fun _ _ _ _ _ => by kernel_rfl) (fun _ _ _ _ _ _ => by kernel_rfl) (by kernel_rfl) rfl rfl hQ
theorem putR2 (a b : D) : putD "looks" b ["sees"] [a] = ((["sees", "looks"] : List Str), [a, b]) := by kernel_rfl
theorem putR3 (a b c : D) : putD "takes" c ["sees", "looks"] [a, b] = ((["sees", "looks", "takes"] : List Str), [a, b, c]) := by kernel_rfl
theorem isLot0 : isLotF [.tup []] [] = .ok (.bl true) [] := by kernel_rfl
theorem sort0 (cs : List Cell) : hSortS cs [.lst []] = .ok (.lst []) cs := by kernel_rfl
theorem mkR (hc : Low cs) (hQ : Q rule0 cs) : WO (makeD 1 rinitF [.str "now", .tup [], .tup []] cs) Q E := by
  refine wo_make hc (wo_run (env := [some (.loc cs.length), some (.str "now"), some (.tup []), some (.tup []), none]) rfl ?_)
  refine ws_seq (ws_if (wo_of (a := false) (cs := cs ++ [.ins 1 [] []]) (by kernel_rfl) (ws_iteF (ws_nil (ws_nx ?_)))))
  and_intros
  refine wo_call0e rfl rfl isLot0 (.inl rfl) ?_
  and_intros
  refine wo_call0e rfl rfl isLot0 (.inl rfl) ?_
  and_intros
  refine ws_fldP rfl (by decide) rfl ?_
  and_intros
  refine wo_iSq ?_
  and_intros
  refine wo_of (a := ([], keepAll)) (cs := _) rfl ?_
  refine wo_lcMapT (xs := ([] : List D)) (fD := id) (fun z => z) (by simp) ?_ (fun _ h => nomatch h) (fun _ h => nomatch h) ?_
  · exact (hc.snoc fun k _ => rfl).all
  and_intros
  refine wo_of (sort0 _) ?_
  and_intros
  refine ws_fldP rfl (by decide) (putR2 _ _) ?_
  and_intros
  refine wo_iSq ?_
  and_intros
  refine wo_of (a := ([], keepAll)) (cs := _) rfl ?_
  refine wo_lcMapT (xs := ([] : List D)) (fD := id) (fun z => z) (by simp) ?_ (fun _ h => nomatch h) (fun _ h => nomatch h) ?_
  · exact (hc.snoc fun k _ => rfl).all
  and_intros
  refine wo_of (sort0 _) ?_
  and_intros
  refine ws_fldP rfl (by decide) (putR3 _ _ _) ?_
  and_intros
  exact ⟨rfl, _, _, rfl, rfl, hQ⟩
theorem putT2 (a b : D) : putD "lent" b ["ranked"] [a] = ((["ranked", "lent"] : List Str), [a, b]) := by kernel_rfl
theorem putT3 (a b c : D) : putD "fair" c ["ranked", "lent"] [a, b] = ((["ranked", "lent", "fair"] : List Str), [a, b, c]) := by kernel_rfl
theorem mkT (hc : Low cs) (hQ : Q turns0 cs) : WO (makeD 2 tinitF [.bl false, .bl false, .non] cs) Q E := by
  refine wo_make hc (wo_run (env := [some (.loc cs.length), some (.bl false), some (.bl false), some .non]) rfl ?_)
  refine ws_seq (ws_if (wo_of (a := false) (cs := cs ++ [.ins 2 [] []]) (by kernel_rfl) (ws_iteF (ws_nil (ws_nx ?_)))))
  refine ws_seq (ws_if (wo_of (a := false) (cs := cs ++ [.ins 2 [] []]) (by kernel_rfl) (ws_iteF (ws_nil (ws_nx ?_)))))
  refine ws_seq (ws_if (wo_of (a := false) (cs := cs ++ [.ins 2 [] []]) (by kernel_rfl) (ws_iteF (ws_nil (ws_nx ?_)))))
  and_intros
  refine ws_fldP rfl (by decide) rfl ?_
  and_intros
  refine ws_fldP rfl (by decide) (putT2 _ _) ?_
  and_intros
  refine ws_fldP rfl (by decide) (putT3 _ _ _) ?_
  and_intros
  exact ⟨rfl, _, _, rfl, rfl, hQ⟩
end
end K05

namespace K05
open PySem L2 PyProof.Rows VL
theorem noloc {d : D} (h : below 0 d = true) (m : Nat) : d ≠ .loc m := fun e => by subst e; simp [below] at h
theorem nolocs {ds : List D} (h : belows 0 ds = true) : ∀ d ∈ ds, ∀ m, d ≠ .loc m := fun d hd => by
  rw [belows_all, List.all_eq_true] at h
  exact noloc (h d hd)
theorem low_mem {ds : List D} (h : belows 0 ds = true) {d : D} (hd : d ∈ ds) : below 0 d = true := by
  rw [belows_all, List.all_eq_true] at h
  exact h d hd
def DealP (P : D → Prop) (o : Out D) : Prop := ∃ d c, o = .ok d c ∧ P d ∧ ∃ gs' s', gs'.length ≤ 63 ∧ c = dx gs' s'
theorem DealP.wo {P : D → Prop} {o : Out D} (h : DealP P o) : WO o (fun d c => P d ∧ ∃ gs' s', gs'.length ≤ 63 ∧ c = dx gs' s') NoE := by
  obtain ⟨d, c, e, h⟩ := h
  exact wo_of e h
theorem wd_fin {P : D → Prop} {d : D} {gs : List Int} {s : Int} (hb : below 0 d = true) (hg : gs.length ≤ 63) (hp : P d) : ((dx gs s).take 3).all (belowC 3) = true ∧ ∃ d', outD 3 (dx gs s) d = some d' ∧ (P d' ∧ ∃ gs' s', gs'.length ≤ 63 ∧ (dx gs s).take 3 = dx gs' s') :=
  ⟨low_dx _ _, d, outD_low (below_up (Nat.zero_le _) hb) (noloc hb), hp, gs, s, hg, rfl⟩
theorem base_low : belows 0 base = true := by kernel_rfl
theorem low3 {ds : List D} (h : belows 0 ds = true) : belows 3 ds = true := belows_up (Nat.zero_le _) h
theorem thing_ok (gs : List Int) (hg : gs.length ≤ 63) (s : Int) : DealP (· ∈ base) (thingF 1 [.loc 2, .int 0] (dx gs s)) := by
  refine WO.ex ?_
  unfold thingF
  generalize thingF 0 = self
  refine wo_trim (wo_run (env := [some (.loc 2), some (.int 0), none, none, none]) rfl ?_)
  refine ws_seq (ws_asg (wo_of (a := .lst base) (cs := dx gs s) (by kernel_rfl) (ws_asgNm rfl (ws_nx ?_))))
  refine ws_seq (ws_if (wo_of (a := false) (cs := dx gs s) (by kernel_rfl) (ws_iteF (ws_nil (ws_nx ?_)))))
  and_intros
  refine wd_pick (rest := []) hg (by simp [base]) (by simp [base]) (low3 base_low) (nolocs base_low) fun d gs' s' hd hg' => ?_
  and_intros
  exact wd_fin (low_mem base_low hd) hg' hd
def badL : Nat → List D
  | 0 => bad0 | 1 => bad1 | 2 => bad2 | 3 => some3 | 4 => bad4 | _ => some5
theorem badL_low : ∀ v, belows 0 (badL v) = true
  | 0 => by kernel_rfl | 1 => by kernel_rfl | 2 => by kernel_rfl | 3 => by kernel_rfl | 4 => by kernel_rfl | _ + 5 => by kernel_rfl
/-- picked out of the odd ones, a thing and some -/
theorem odd_mem {t : D} (ht : t ∈ base) {l : List D} {d : D} (h : d ∈ ([.int 3, .str "x", .bl true, t] : List D) ++ l) : d ∈ odd3 ++ base ++ l := by
  rcases List.mem_append.mp h with h | h
  · simp only [List.mem_cons, List.not_mem_nil, or_false] at h
    refine List.mem_append_left _ ?_
    rcases h with rfl | rfl | rfl | rfl
    · exact List.mem_append_left _ (by simp [odd3])
    · exact List.mem_append_left _ (by simp [odd3])
    · exact List.mem_append_left _ (by simp [odd3])
    · exact List.mem_append_right _ ht
  · exact List.mem_append_right _ h
theorem odd_low {t : D} (ht : t ∈ base) {l : List D} (hl : belows 0 l = true) : belows 0 (([.int 3, .str "x", .bl true, t] : List D) ++ l) = true := by
  refine belows_of fun x hx => ?_
  have := odd_mem ht hx
  rcases List.mem_append.mp this with h | h
  · rcases List.mem_append.mp h with h | h
    · have o : belows 0 odd3 = true := by kernel_rfl
      exact low_mem o h
    · exact low_mem base_low h
  · exact low_mem hl h
theorem cat_odd {cs : List Cell} {xs ys : List D} (h : xs.length + ys.length ≤ 16777216) : gAdd cs (.lst xs) (.lst ys) = .ok (.lst (xs ++ ys)) cs := by
  show gCatL cs (.lst xs) (.lst ys) = _
  unfold gCatL
  exact if_pos h
theorem pickO {t : D} (ht : t ∈ base) {l : List D} (hl : belows 0 l = true) (hn : l.length < 100) {gs : List Int} (hg : gs.length ≤ 63) {s : Int} {Q : D → List Cell → Prop} {E : Exn → List Cell → Prop} (h : ∀ d gs' s', d ∈ odd3 ++ base ++ l → gs'.length ≤ 63 → Q d (dx gs' s' ++ [])) : WO (callV 3 pickF [.loc 2, .lst (([.int 3, .str "x", .bl true, t] : List D) ++ l)] (dx gs s ++ [])) Q E :=
  wd_pick (rest := []) hg (by simp) (by simp; omega) (low3 (odd_low ht hl)) (nolocs (odd_low ht hl)) fun d gs' s' hd hg' => h d gs' s' (odd_mem ht hd) hg'
theorem wo_makeDf {cn : Nat} {fn : Fn} {ds : List D} {g : Ax} {st : S} {Q : D → List Cell → Prop} {E : Exn → List Cell → Prop} (h : WO (g st) (fun xs c1 => WO (makeD cn fn (xs ++ ds) c1) Q E) E) : WO (eMakeDf cn fn ds g st) Q E := wo_bind h
theorem bad_ok (v : Nat) (hv : v < 6) (gs : List Int) (hg : gs.length ≤ 63) (s : Int) : DealP (· ∈ badL v) (badF [.loc 2, .int v] (dx gs s)) := by
  refine WO.ex ?_
  unfold badF
  refine wo_trim (wo_run (env := [some (.loc 2), some (.int v), none, none, none]) rfl ?_)
  and_intros
  refine wd_call (rest := []) (· ∈ base) rfl rfl (thing_ok gs hg s).wo (.inl rfl) fun t gs1 s1 ht hg1 => ?_
  match v, hv with
  | 0, _ =>
    and_intros
    refine pickO (l := some0) ht (by kernel_rfl) (by simp [some0]) hg1 fun d gs' s' hd hg' => ?_
    and_intros
    exact wd_fin (low_mem (badL_low 0) hd) hg' hd
  | 1, _ =>
    and_intros
    refine mkE (low_dxL _ _) ?_
    and_intros
    refine mkZ (low_dxL _ _) ?_
    and_intros
    refine mkA (low_dxL _ _) ?_
    and_intros
    refine pickO (l := some1) ht (by kernel_rfl) (by simp [some1]) hg1 fun d gs' s' hd hg' => ?_
    and_intros
    exact wd_fin (low_mem (badL_low 1) hd) hg' hd
  | 2, _ =>
    and_intros
    refine mkT (low_dxL _ _) ?_
    and_intros
    refine pickO (l := some2) ht (by kernel_rfl) (by simp [some2]) hg1 fun d gs' s' hd hg' => ?_
    and_intros
    exact wd_fin (low_mem (badL_low 2) hd) hg' hd
  | 3, _ =>
    and_intros
    refine wd_pick (rest := []) (ds := some3) hg1 (by simp [some3]) (by simp [some3]) (low3 (badL_low 3)) (nolocs (badL_low 3)) fun d gs' s' hd hg' => ?_
    and_intros
    exact wd_fin (low_mem (badL_low 3) hd) hg' hd
  | 4, _ =>
    and_intros
    refine pickO (l := some4) ht (by kernel_rfl) (by simp [some4]) hg1 fun d gs' s' hd hg' => ?_
    and_intros
    exact wd_fin (low_mem (badL_low 4) hd) hg' hd
  | 5, _ =>
    and_intros
    refine wo_makeDf ?_
    and_intros
    refine mkR (low_dxL _ _) ?_
    and_intros
    refine wd_pick (rest := []) (ds := some5) hg1 (by simp [some5]) (by simp [some5]) (low3 (badL_low 5)) (nolocs (badL_low 5)) fun d gs' s' hd hg' => ?_
    and_intros
    exact wd_fin (low_mem (badL_low 5) hd) hg' hd
  | n + 6, h => exact absurd h (by omega)
end K05

namespace K05
open PySem L2 PyProof.Rows VL
theorem wo_eLoc {ga : Ax} {env : List (Option D)} {cs : List Cell} {Q : D → List Cell → Prop} {E : Exn → List Cell → Prop} (h : WO (ga ⟨env, cs⟩) (fun xs c1 => Lim xs.length (Q (.loc c1.length) (c1 ++ [.lst xs]))) E) : WO (eLoc ga ⟨env, cs⟩) Q E := wo_bind (wo_imp h (fun _ _ ⟨a, b⟩ => by rw [if_pos a]; exact wo_ok b) fun _ _ h => h)
theorem ws_setIx {fv fo fi : Ex} {env : List (Option D)} {cs : List Cell} {P : SOut → Prop} (h : WO (fv ⟨env, cs⟩) (fun v c1 => WO (fo ⟨env, c1⟩) (fun o c2 => WO (fi ⟨env, c2⟩) (fun k c3 => WS (setIx o k v ⟨env, c3⟩) P) (fun e c1 => WS (.ex e ⟨env, c1⟩) P)) (fun e c1 => WS (.ex e ⟨env, c1⟩) P)) (fun e c1 => WS (.ex e ⟨env, c1⟩) P)) : WS (sSetIx fv fo fi ⟨env, cs⟩) P :=
  ws_then (wo_imp h (fun _ _ h => ws_then (wo_imp h (fun _ _ h => ws_then h) fun _ _ h => h)) fun _ _ h => h)
/-! ### old lists among the cells -/
def Olds (rest : List Cell) : Prop := ∀ c ∈ rest, ∃ ds, c = .lst ds ∧ belows 0 ds = true
theorem Olds.snoc {rest : List Cell} (h : Olds rest) {ds : List D} (hd : belows 0 ds = true) : Olds (rest ++ [.lst ds]) := fun c hc => by
  rcases List.mem_append.mp hc with hc | hc
  · exact h c hc
  · rw [List.mem_singleton.mp hc]; exact ⟨ds, rfl, hd⟩
theorem low_rest {gs : List Int} {s : Int} {rest : List Cell} (h : Olds rest) : Low (dx gs s ++ rest) := fun k hk => by
  rw [List.length_append] at hk
  have hk3 : 3 + rest.length ≤ k := hk
  rw [List.all_append, low_dxL gs s k (show 3 ≤ k by omega), Bool.true_and, List.all_eq_true]
  intro c hc
  obtain ⟨ds, rfl, hd⟩ := h c hc
  exact belows_up (Nat.zero_le _) hd
theorem lendAt {gs : List Int} {s : Int} {rest : List Cell} {ps : List D} : [D.loc (dx gs s ++ rest).length].map (lendD 0 (dx gs s ++ rest ++ [.lst ps])) = [D.lst ps] := by
  have g1 : (dx gs s ++ rest ++ [Cell.lst ps])[(dx gs s ++ rest).length]? = some (.lst ps) := by
    rw [List.getElem?_append_right (Nat.le_refl _), Nat.sub_self]; rfl
  simp only [List.map, lendD, Nat.not_lt_zero, if_false, g1]
/-! ### what is drawn -/
theorem picks_asc {P : D → Option D → Prop} (hP : ∀ d y, P d (some y) → y = d) : ∀ {ds ys : List D}, Picks P ds ys → ∀ {js : List Nat}, ds = js.map (fun k : Nat => D.int k) → ∃ ks : List Nat, ks.Sublist js ∧ ys = ks.map (fun k : Nat => D.int k)
  | _, _, .nil, js, e => by
    cases js with
    | nil => exact ⟨[], .slnil, rfl⟩
    | cons j js => cases e
  | _, _, .skip _ p, js, e => by
    cases js with
    | nil => cases e
    | cons j js =>
      rw [List.map_cons] at e
      injection e with e1 e2
      obtain ⟨ks, h1, h2⟩ := picks_asc hP p e2
      exact ⟨ks, .cons j h1, h2⟩
  | _, _, .take h p, js, e => by
    cases js with
    | nil => cases e
    | cons j js =>
      rw [List.map_cons] at e
      injection e with e1 e2
      obtain ⟨ks, h1, h2⟩ := picks_asc hP p e2
      exact ⟨j :: ks, .cons₂ j h1, by rw [hP _ _ h, e1, h2]; rfl⟩
theorem picks_two {P : D → D → Prop} : ∀ {ds ys : List D}, Picks (fun d o => ∃ y, o = some y ∧ P d y) ds ys → List.length ys = ds.length ∧ ∀ (i : Nat) (d : D), ds[i]? = some d → ∃ y, ys[i]? = some y ∧ P d y
  | _, _, .nil => ⟨rfl, fun i d h => by simp at h⟩
  | _, _, .skip ⟨_, e, _⟩ _ => nomatch e
  | _, _, .take (y := y) (d := d) ⟨z, e, h⟩ p => by
    cases e
    obtain ⟨h1, h2⟩ := picks_two p
    refine ⟨congrArg (· + 1) h1, fun i d' hi => ?_⟩
    cases i with
    | zero => cases hi; exact ⟨_, rfl, h⟩
    | succ i => exact h2 i d' hi
/-! ### the parts -/
abbrev titles : List D := [.str "cells", .str "programs", .str "rule", .str "log", .str "tells", .str "turns"]
def ttl : Nat → Str
  | 0 => "cells" | 1 => "programs" | 2 => "rule" | 3 => "log" | 4 => "tells" | _ => "turns"
structure Parts (done : List Nat) (ps : List D) : Prop where
  len : ps.length = 6
  low : belows 0 ps = true
  bad : ∀ i : Nat, i ∈ done → i < 6 → ∃ b ∈ badL i, ps[i]? = some b
  good : ∀ i : Nat, ¬ i ∈ done → ps[i]? = goods[i]?
theorem goods_low : belows 0 goods = true := by kernel_rfl
theorem Parts.start : Parts [] goods := ⟨rfl, goods_low, (fun i h => nomatch h), fun i _ => rfl⟩
theorem belows_set {ps : List D} {i : Nat} {b : D} (h : belows 0 ps = true) (hb : below 0 b = true) : belows 0 (ps.set i b) = true := by
  refine belows_of fun x hx => ?_
  rcases List.mem_or_eq_of_mem_set hx with hx | rfl
  · exact low_mem h hx
  · exact hb
theorem Parts.put {done : List Nat} {ps : List D} (h : Parts done ps) {i : Nat} (hi : i < 6) {b : D} (hb : b ∈ badL i) : Parts (done ++ [i]) (ps.set i b) where
  len := by rw [List.length_set]; exact h.len
  low := belows_set h.low (low_mem (badL_low i) hb)
  bad := fun j hj hj6 => by
    by_cases e : i = j
    · subst e
      exact ⟨b, hb, by rw [List.getElem?_set_self (by rw [h.len]; exact hi)]⟩
    · rw [List.getElem?_set_ne e]
      refine h.bad j ?_ hj6
      rcases List.mem_append.mp hj with hj | hj
      · exact hj
      · exact absurd (List.mem_singleton.mp hj).symm e
  good := fun j hj => by
    have e : i ≠ j := fun e => hj (by rw [e]; exact List.mem_append_right _ (List.mem_singleton.mpr rfl))
    rw [List.getElem?_set_ne e]
    exact h.good j fun hj' => hj (List.mem_append_left _ hj')
theorem six {ps : List D} (h : ps.length = 6) : ∃ a b c d e f, ps = [a, b, c, d, e, f] := by
  match ps, h with
  | [a, b, c, d, e, f], _ => exact ⟨a, b, c, d, e, f, rfl⟩
theorem made_none {ps : List D} (h : Parts [] ps) : ps = goods := List.ext_getElem? fun i => h.good i (fun h => nomatch h)
theorem made_first {k : Nat} {ks : List Nat} {ps : List D} (h : Parts (k :: ks) ps) (hk : k < 6) (hs : ∀ j ∈ ks, k < j) : madeF [.lst ps] [] = xW (ttl k) := by
  obtain ⟨a, b, c, d, e, f, rfl⟩ := six h.len
  obtain ⟨x, hx, e0⟩ := h.bad k List.mem_cons_self hk
  have g : ∀ j, j < k → [a, b, c, d, e, f][j]? = goods[j]? := fun j hj => h.good j fun hm => by
    rcases List.mem_cons.mp hm with rfl | hm
    · omega
    · have := hs j hm; omega
  match k, hk, hx, e0, g with
  | 0, _, hx, e0, g =>
    cases e0
    exact congrFun (congrFun (congrFun (congrFun (congrFun (map_at mk_0 hx) _) _) _) _) _
  | 1, _, hx, e0, g =>
    cases e0
    have g0 := g 0 (by omega)
    cases g0
    exact congrFun (congrFun (congrFun (congrFun (map_at mk_1 hx) _) _) _) _
  | 2, _, hx, e0, g =>
    cases e0
    have g0 := g 0 (by omega)
    have g1 := g 1 (by omega)
    cases g0
    cases g1
    exact congrFun (congrFun (congrFun (map_at mk_2 hx) _) _) _
  | 3, _, hx, e0, g =>
    cases e0
    have g0 := g 0 (by omega)
    have g1 := g 1 (by omega)
    have g2 := g 2 (by omega)
    cases g0
    cases g1
    cases g2
    exact congrFun (congrFun (map_at mk_3 hx) _) _
  | 4, _, hx, e0, g =>
    cases e0
    have g0 := g 0 (by omega)
    have g1 := g 1 (by omega)
    have g2 := g 2 (by omega)
    have g3 := g 3 (by omega)
    cases g0
    cases g1
    cases g2
    cases g3
    exact congrFun (map_at mk_4 hx) _
  | 5, _, hx, e0, g =>
    cases e0
    have g0 := g 0 (by omega)
    have g1 := g 1 (by omega)
    have g2 := g 2 (by omega)
    have g3 := g 3 (by omega)
    have g4 := g 4 (by omega)
    cases g0
    cases g1
    cases g2
    cases g3
    cases g4
    exact map_at (f := fun b => madeF [.lst [.lst cellsG, .lst [progG], rule0, .lst [.str "late"], .str "own", b]] []) (g := fun _ => xW "turns") mk_5 hx
  | n + 6, hk, _, _, _ => exact absurd hk (by omega)
end K05

namespace K05
open PySem L2 PyProof.Rows VL
abbrev lE (sc : D) (e3 e4 e5 e6 e7 e8 : Option D) : List (Option D) := [some sc, some (.loc 2), some (.lst titles), e3, e4, e5, e6, e7, e8]
def LI (sc : D) (st : S) : Prop := ∃ e3 e4 e5 e6 e7 e8 gs s rest, gs.length ≤ 63 ∧ Olds rest ∧ st = ⟨lE sc e3 e4 e5 e6 e7 e8, dx gs s ++ rest⟩
def IsR (rest : List Cell) (c : List Cell) : Prop := ∃ gs s, gs.length ≤ 63 ∧ c = dx gs s ++ rest
theorem isR_ok {rest : List Cell} (ho : Olds rest) {gs0 : List Int} {s0 : Int} (cs : List Cell) (h : IsR rest cs) : cs.length = (dx gs0 s0 ++ rest).length ∧ cs.all (belowC (dx gs0 s0 ++ rest).length) = true := by
  obtain ⟨gs, s, _, rfl⟩ := h
  refine ⟨by simp, ?_⟩
  have := (low_rest (gs := gs) (s := s) ho).all
  rw [List.length_append] at this ⊢
  exact this
theorem lt_range {k : Nat} (h : k ∈ List.range 6) : k < 6 := List.mem_range.mp h
theorem ttl_ok {w : Str} (h : PyData.strOk w = true) {cs : List Cell} : gEqB true cs (.str w) (.str w) = .ok (.bl false) cs := eq_strR h
theorem ttl_str : ∀ k, k < 6 → PyData.strOk (ttl k) = true
  | 0, _ => by kernel_rfl | 1, _ => by kernel_rfl | 2, _ => by kernel_rfl | 3, _ => by kernel_rfl | 4, _ => by kernel_rfl | 5, _ => by kernel_rfl
  | n + 6, h => absurd h (by omega)
theorem ttl_at {cs : List Cell} : ∀ k, k < 6 → gIx cs (.lst titles) (.int (k : Nat)) = .ok (.str (ttl k)) cs
  | 0, _ => by kernel_rfl | 1, _ => by kernel_rfl | 2, _ => by kernel_rfl | 3, _ => by kernel_rfl | 4, _ => by kernel_rfl | 5, _ => by kernel_rfl
  | n + 6, h => absurd h (by omega)
theorem ints_cast (ks : List Nat) : ks.map (fun k : Nat => D.int k) = (ks.map fun k : Nat => (k : Int)).map D.int := by rw [List.map_map]; rfl
theorem low2 {d : D} (h : below 0 d = true) : belows 0 [house0, d] = true := by
  have : below 0 house0 = true := by kernel_rfl
  show (below 0 house0 && (below 0 d && true)) = true
  rw [this, h]; rfl
theorem lend2 {d : D} {cs : List Cell} (h : below 0 d = true) : [house0, d].map (lendD 0 cs) = [house0, d] := by
  have : lendD 0 cs d = d := by
    cases d with
    | loc m => simp [below] at h
    | _ => rfl
  show [house0, lendD 0 cs d] = _
  rw [this]
theorem nol_house : noLst house0 = true := by kernel_rfl
/-- behind the making of the wrong ones -/
theorem tail_ok (sc : D) (e3 e4 e6 e7 e8 : Option D) (rest : List Cell) (ho : Olds rest) (gs : List Int) (hg : gs.length ≤ 63) (s : Int) : WS (sSeq p_law_0_5 (sSeq p_law_0_6 (sSeq p_law_0_7 (sSeq p_law_0_8 (sSeq p_law_0_9 p_law_0_10)))) ⟨lE sc e3 e4 (some house0) e6 e7 e8, dx gs s ++ rest⟩) (fun o => ∃ st2, o = .nx st2 ∧ LI sc st2) := by
  and_intros
  refine ⟨_, 6, rfl, rfl, by omega, ?_⟩
  refine wo_lcAt (c1 := dx gs s ++ rest) (IsR rest) (fun d o => ∃ y, o = some y ∧ ∃ v : Nat, v < 6 ∧ d = .int v ∧ y ∈ badL v) ⟨gs, s, hg, rfl⟩ (isR_ok ho) (by simp [rangeD]) (fun d y ⟨z, e, v, _, _, h⟩ => by cases e; exact below_up (Nat.zero_le _) (low_mem (badL_low v) h)) (fun d hd cs acc ⟨g2, s2, hg2, e⟩ => ⟨_, rfl, ?_⟩) fun ys cs' hp ⟨g2, s2, hg2, e⟩ => ?_
  · subst e
    refine wo_tTrue ⟨_, rfl, ⟨g2, s2, hg2, rfl⟩, (fun h => nomatch h), fun _ => ?_⟩
    obtain ⟨v, hv, rfl⟩ : ∃ v : Nat, v < 6 ∧ d = .int v := by
      simp only [rangeD, List.mem_map, List.mem_range] at hd
      obtain ⟨v, hv, rfl⟩ := hd
      exact ⟨v, hv, by simp⟩
    and_intros
    rw [show dx g2 s2 ++ rest ++ [Cell.lst acc] = dx g2 s2 ++ (rest ++ [Cell.lst acc]) from List.append_assoc _ _ _]
    refine wd_call (ds := [.loc 2, .int (v : Nat)]) (ds' := [.loc 2, .int (v : Nat)]) (rest := rest ++ [.lst acc]) (· ∈ badL v) rfl rfl (bad_ok v hv g2 hg2 s2).wo (.inl rfl) fun d g3 s3 hd hg3 => ?_
    exact ⟨dx g3 s3 ++ rest, (List.append_assoc _ _ _).symm, ⟨g3, s3, hg3, rfl⟩, d, rfl, v, hv, rfl, hd⟩
  subst e
  obtain ⟨hl, hp⟩ := picks_two hp
  obtain ⟨y0, y1, y2, y3, y4, y5, rfl⟩ := six (by rw [hl]; rfl)
  have at' : ∀ v y, v < 6 → ([y0, y1, y2, y3, y4, y5] : List D)[v]? = some y → y ∈ badL v := fun v y hv hy => by
    obtain ⟨y', e1, w, hw, e2, h⟩ := hp v (.int (v : Nat)) (by simp [rangeD, hv])
    rw [e1] at hy
    cases hy
    injection e2 with e2
    have : w = v := by omega
    subst this
    exact h
  have h2 := at' 2 y2 (by omega) rfl
  have h3 := at' 3 y3 (by omega) rfl
  have h4 := at' 4 y4 (by omega) rfl
  have h5 := at' 5 y5 (by omega) rfl
  have l2 := low_mem (badL_low 2) h2
  have l3 := low_mem (badL_low 3) h3
  have l4 := low_mem (badL_low 4) h4
  have l5 := low_mem (badL_low 5) h5
  and_intros
  refine wo_hear ?_
  and_intros
  refine ⟨by kernel_rfl, ?_⟩
  and_intros
  refine wo_call0x (lend2 l2) (low2 l2) (map_at (f := fun b => wruleF [house0, b] []) (g := fun _ => xW "rule") wr_2 h2) (.inl (low2 l2)) ?_
  refine wo_of (h_5 _ _) ?_
  and_intros
  refine wo_of (ttl_ok (ttl_str 2 (by omega))) ?_
  and_intros
  refine wo_hear ?_
  and_intros
  refine ⟨by kernel_rfl, ?_⟩
  and_intros
  refine wo_call0x (lend2 l3) (low2 l3) (map_at (f := fun b => wlogF [house0, b] []) (g := fun _ => xW "log") wr_3 h3) (.inl (low2 l3)) ?_
  refine wo_of (h_5 _ _) ?_
  and_intros
  refine wo_of (ttl_ok (ttl_str 3 (by omega))) ?_
  and_intros
  refine wo_hear ?_
  and_intros
  refine ⟨by kernel_rfl, ?_⟩
  and_intros
  refine wo_call0x (lend2 l4) (low2 l4) (map_at (f := fun b => wtellsF [house0, b] []) (g := fun _ => xW "tells") wr_4 h4) (.inl (low2 l4)) ?_
  refine wo_of (h_5 _ _) ?_
  and_intros
  refine wo_of (ttl_ok (ttl_str 4 (by omega))) ?_
  and_intros
  refine wo_hear ?_
  and_intros
  refine ⟨by kernel_rfl, ?_⟩
  and_intros
  refine wo_call0x (lend2 l5) (low2 l5) (map_at (f := fun b => wturnsF [house0, b] []) (g := fun _ => xW "turns") wr_5 h5) (.inl (low2 l5)) ?_
  refine wo_of (h_5 _ _) ?_
  and_intros
  refine wo_of (ttl_ok (ttl_str 5 (by omega))) ?_
  and_intros
  refine wo_hear ?_
  and_intros
  refine ⟨by kernel_rfl, ?_⟩
  and_intros
  refine mkQ (low_rest ho) ?_
  and_intros
  refine wo_call0x (lend2 (by kernel_rfl)) (low2 (by kernel_rfl)) wr_p (.inl (low2 (by kernel_rfl))) ?_
  refine wo_of (h_5 _ _) ?_
  and_intros
  refine wo_of (ttl_ok (ttl_str 1 (by omega))) ?_
  and_intros
  exact ⟨_, rfl, _, _, _, _, _, _, _, _, _, hg2, ho, rfl⟩

theorem setAt {gs : List Int} {s : Int} {rest : List Cell} {ps : List D} {env : List (Option D)} {k : Nat} (hk : k < ps.length) {b : D} : setIx (.loc (rest.length + 3)) (.int (k : Nat)) b ⟨env, dx gs s ++ (rest ++ [.lst ps])⟩ = .nx ⟨env, dx gs s ++ (rest ++ [.lst (ps.set k b)])⟩ := by
  have l : rest.length + 3 = (dx gs s ++ rest).length := rfl
  have g1 : (dx gs s ++ (rest ++ [Cell.lst ps]))[rest.length + 3]? = some (.lst ps) := by
    rw [← List.append_assoc, l, List.getElem?_append_right (Nat.le_refl _), Nat.sub_self]; rfl
  have g2 : ∀ c : Cell, (dx gs s ++ (rest ++ [Cell.lst ps])).set (rest.length + 3) c = dx gs s ++ (rest ++ [c]) := fun c => by
    rw [← List.append_assoc, l, List.set_append_right _ _ (Nat.le_refl _), Nat.sub_self, ← List.append_assoc]; rfl
  have hi : ixN ps.length (k : Int) = some k := by
    unfold ixN
    rw [if_pos (by omega), if_pos (by omega), Int.toNat_natCast]
  unfold setIx
  simp only [g1, g2, hi]
/-- for spot in wrong: good[spot] = bad(spot) -/
def WI (sc : D) (e3 e5 e6 e8 : Option D) (rest : List Cell) (ks : List Nat) (ds : List D) (st : S) : Prop := ∃ (pre post : List Nat) (ps : List D) (e7 : Option D) (gs : List Int) (s : Int), ks = pre ++ post ∧ ds = post.map (fun k : Nat => D.int k) ∧ Parts pre ps ∧ gs.length ≤ 63 ∧ st = ⟨lE sc e3 (some (.loc (rest.length + 3))) e5 e6 e7 e8, dx gs s ++ (rest ++ [.lst ps])⟩
theorem wi_turn {sc : D} {e3 e5 e6 e8 : Option D} {rest : List Cell} {ks : List Nat} (hk : ∀ k ∈ ks, k < 6) {d : D} {ds : List D} {st : S} (h : WI sc e3 e5 e6 e8 rest ks (d :: ds) st) : ∃ st1, gNm 7 d st = some st1 ∧ WS (l_law_0 st1) (fun o => (∃ st2, o = .nx st2 ∧ WI sc e3 e5 e6 e8 rest ks ds st2) ∨ (∃ st2, o = .ct st2 ∧ WI sc e3 e5 e6 e8 rest ks ds st2)) := by
  obtain ⟨pre, post, ps, e7, gs, s, h1, h2, h3, hg, rfl⟩ := h
  cases post with
  | nil => cases h2
  | cons k post =>
    rw [List.map_cons] at h2
    injection h2 with e1 e2
    subst e1
    have hk6 : k < 6 := hk k (by rw [h1]; simp)
    refine ⟨_, rfl, ?_⟩
    refine ws_setIx ?_
    and_intros
    refine wd_call (ds := [.loc 2, .int (k : Nat)]) (ds' := [.loc 2, .int (k : Nat)]) (rest := rest ++ [.lst ps]) (· ∈ badL k) rfl rfl (bad_ok k hk6 gs hg s).wo (.inl rfl) fun b g3 s3 hb hg3 => ?_
    and_intros
    rw [setAt (by rw [h3.len]; exact hk6)]
    exact .inl ⟨_, rfl, pre ++ [k], post, _, _, g3, s3, by rw [h1]; simp, e2, h3.put hk6 hb, hg3, rfl⟩
theorem sub_lt {ks : List Nat} (h : ks.Sublist (List.range 6)) : (∀ k ∈ ks, k < 6) ∧ ks.Pairwise (· < ·) := ⟨fun k hk => List.mem_range.mp (h.subset hk), List.Pairwise.sublist h List.pairwise_lt_range⟩
theorem lows1g {ds : List D} (h : belows 0 ds = true) : belows 0 [.lst ds] = true := by
  show (belows 0 ds && true) = true
  rw [h]; rfl
theorem non_eq {cs : List Cell} : gEqB true cs .non .non = .ok (.bl false) cs := eqSame rfl (by simp [norm, VL.plain]) (by simp [norm, py, SeqAt.shaped, PyData.canLay0, PyData.depth])
theorem lenR {gs : List Int} {s : Int} {rest : List Cell} : (dx gs s ++ rest).length = rest.length + 3 := rfl
theorem lendR {gs : List Int} {s : Int} {rest : List Cell} {ps : List D} : [D.loc (rest.length + 3)].map (lendD 0 (dx gs s ++ (rest ++ [.lst ps]))) = [D.lst ps] := lendAt (gs := gs) (s := s)
theorem turn_ok (sc : D) (e3 e4 e5 e6 e7 e8 : Option D) (rest : List Cell) (ho : Olds rest) (gs : List Int) (hg : gs.length ≤ 63) (s : Int) : WS (l_law_1 ⟨lE sc e3 e4 e5 e6 e7 e8, dx gs s ++ rest⟩) (fun o => ∃ st2, o = .nx st2 ∧ LI sc st2) := by
  have hL := fun gs s => low_rest (gs := gs) (s := s) ho
  and_intros
  refine wo_eLoc ?_
  and_intros
  refine mkG (hL _ _) ?_
  and_intros
  refine wo_makeDf ?_
  and_intros
  refine mkR (hL _ _) ?_
  and_intros
  refine mkT (hL _ _) ?_
  and_intros
  refine wo_call0e (ds' := [.lst goods]) lendAt (lows1g goods_low) made_good (.inr nol_house) ?_
  and_intros
  refine ⟨_, 6, rfl, rfl, by omega, ?_⟩
  have ho' := ho.snoc goods_low
  refine wo_lcAt (c1 := dx gs s ++ (rest ++ [.lst goods])) (IsR (rest ++ [.lst goods])) (fun d o => (∃ v : Nat, d = .int v) ∧ ∀ y, o = some y → y = d) ⟨gs, s, hg, rfl⟩ (isR_ok ho') (by simp [rangeD]) (fun d y ⟨⟨v, e⟩, h⟩ => by rw [h y rfl, e]; rfl) (fun d hd cs acc ⟨g2, s2, hg2, e⟩ => ⟨_, rfl, ?_⟩) fun ys cs' hp ⟨g2, s2, hg2, e⟩ => ?_
  · subst e
    obtain ⟨v, rfl⟩ : ∃ v : Nat, d = .int v := by
      simp only [rangeD, List.mem_map, List.mem_range] at hd
      obtain ⟨v, hv, rfl⟩ := hd
      exact ⟨v, by simp⟩
    and_intros
    rw [show dx g2 s2 ++ (rest ++ [Cell.lst goods]) ++ [Cell.lst acc] = dx g2 s2 ++ ((rest ++ [Cell.lst goods]) ++ [Cell.lst acc]) from List.append_assoc _ _ _]
    refine wd_draw (rest := (rest ++ [Cell.lst goods]) ++ [Cell.lst acc]) 4 rfl hg2 (by decide) (by decide) fun k g3 s3 hk hg3 => ?_
    and_intros
    refine ⟨dx g3 s3 ++ (rest ++ [Cell.lst goods]), (List.append_assoc _ _ _).symm, ⟨g3, s3, hg3, rfl⟩, fun _ => ⟨⟨v, rfl⟩, fun y h => nomatch h⟩, fun _ => ?_⟩
    and_intros
    exact ⟨dx g3 s3 ++ (rest ++ [Cell.lst goods]), rfl, ⟨g3, s3, hg3, rfl⟩, ⟨v, rfl⟩, fun y h => (Option.some.inj h).symm⟩
  subst e
  obtain ⟨ks, hks, rfl⟩ := picks_asc (fun d y h => h.2 y rfl) hp (js := List.range 6) (by simp [rangeD])
  obtain ⟨hk6, hpw⟩ := sub_lt hks
  and_intros
  refine ws_forI (WI sc e3 (some house0) (some (.lst (ks.map (fun k : Nat => D.int k)))) e8 rest ks) (fun _ _ _ => rfl) (fun d ds st h => wi_turn hk6 h) (fun st ⟨pre, post, ps, e7', g3, s3, h1, h2, h3, hg3, e⟩ => ?_) _ _ ⟨[], ks, goods, _, g2, s2, rfl, rfl, .start, hg2, rfl⟩
  subst e
  have hpost : post = [] := by
    cases post with
    | nil => rfl
    | cons a l => cases h2
  subst hpost
  rw [List.append_nil] at h1
  subst h1
  have hop := ho.snoc h3.low
  cases ks with
  | nil =>
    have e := made_none h3
    subst e
    and_intros
    refine wo_hear ?_
    and_intros
    refine wo_call0e (ds' := [.lst goods]) lendR (lows1g goods_low) made_good (.inr nol_house) ?_
    and_intros
    refine wo_of (eqNilI (l := []) rfl) ?_
    and_intros
    refine wo_of non_eq ?_
    subst_vars
    refine ws_nx ?_
    exact tail_ok sc _ _ _ _ _ _ hop g3 hg3 s3
  | cons k ks =>
    have hk := hk6 k List.mem_cons_self
    have hm := made_first h3 hk fun j hj => (List.pairwise_cons.mp hpw).1 j hj
    and_intros
    refine wo_hear ?_
    and_intros
    refine wo_call0x (ds' := [.lst ps]) lendR (lows1g h3.low) hm (.inr rfl) ?_
    refine wo_of (h_5 _ _) ?_
    and_intros
    refine wo_of (eqNilI (l := (k :: ks).map fun k : Nat => (k : Int)) (by rw [← ints_cast]; rfl)) ?_
    and_intros
    refine wo_of (ix_lst (k := 0) (d := .int (k : Nat)) (VL.atI_nat (by simp))) ?_
    refine wo_of (ttl_at k hk) ?_
    refine wo_of (ttl_ok (ttl_str k hk)) ?_
    subst_vars
    refine ws_nx ?_
    exact tail_ok sc _ _ _ _ _ _ hop g3 hg3 s3
theorem law_true (ns : List Int) (hn : ns.length ≤ 63) : ∃ cs, runF 9 b_law [.frl (ns.map D.int)] [.tbl 9 ((("law" : Str) ++ (".<locals>." : Str)) ++ ("<lambda>" : Str))] = .ok (.bl true) cs := by
  obtain ⟨gs, s, hg, hd⟩ := deal_ok ns hn 0
  have w : WO (runF 9 b_law [.frl (ns.map D.int)] [T0]) (fun d _ => d = .bl true) NoE := by
    refine wo_run (env := [some (.frl (ns.map D.int)), none, none, none, none, none, none, none, none]) rfl ?_
    and_intros
    refine wo_of hd ?_
    and_intros
    refine ⟨_, 6, rfl, rfl, by omega, ?_⟩
    refine ws_forI (fun _ st => LI (.frl (ns.map D.int)) st) (fun _ _ _ => rfl) (fun d ds st ⟨e3, e4, e5, e6, e7, e8, g2, s2, rest, hg2, ho, e⟩ => ⟨_, rfl, ?_⟩) (fun st ⟨e3, e4, e5, e6, e7, e8, g2, s2, rest, hg2, ho, e⟩ => ?_) _ _ ⟨_, _, _, _, _, _, gs, s, [], hg, (fun _ h => nomatch h), rfl⟩
    · subst e
      have := turn_ok (.frl (ns.map D.int)) (some d) e4 e5 e6 e7 e8 rest ho g2 hg2 s2
      unfold WS at this ⊢
      obtain ⟨st2, e, h⟩ := this
      exact .inl ⟨st2, e, h⟩
    subst e
    and_intros
    rfl
  obtain ⟨d, c, e, rfl⟩ := w.ex
  exact ⟨c, e⟩
end K05

namespace K05
open PySem L2 PyProof.Rows VL
set_option maxHeartbeats 4000000 in
theorem all_mk {l : PySem.W.OpenLaw} {w : World} {K : PySem.W.Frag} {h : Heap} {mg : Str → Option Value} {fa : Addr} (X : K.In h) (G : h.Ns mainGlobals mg) (hfa : mg "law" = some (.ref fa))
    {C_Program : Addr} {C_Rule : Addr} {C_Turns : Addr} {C_House : Addr} {f_is_integer : Addr} {od_is_integer : Option Addr} {an_is_integer : Option Addr} {sl_is_integer : Array (Option Value)} {oc_is_integer : Value} {kV_is_integer : Value} {dc_is_integer : Value} {pm_is_integer : Value} {cd_is_integer : Value} {ct_is_integer : Value} {f_is_number : Addr} {od_is_number : Option Addr} {an_is_number : Option Addr} {sl_is_number : Array (Option Value)} {oc_is_number : Value} {kV_is_number : Value} {dc_is_number : Value} {pm_is_number : Value} {cd_is_number : Value} {ct_is_number : Value} {f_is_sequence : Addr} {od_is_sequence : Option Addr} {an_is_sequence : Option Addr} {sl_is_sequence : Array (Option Value)} {oc_is_sequence : Value} {kV_is_sequence : Value} {dc_is_sequence : Value} {pm_is_sequence : Value} {cd_is_sequence : Value} {ct_is_sequence : Value} {f_is_tuple_of : Addr} {od_is_tuple_of : Option Addr} {an_is_tuple_of : Option Addr} {sl_is_tuple_of : Array (Option Value)} {oc_is_tuple_of : Value} {kV_is_tuple_of : Value} {dc_is_tuple_of : Value} {pm_is_tuple_of : Value} {cd_is_tuple_of : Value} {ct_is_tuple_of : Value} {f_is_name : Addr} {od_is_name : Option Addr} {an_is_name : Option Addr} {sl_is_name : Array (Option Value)} {oc_is_name : Value} {kV_is_name : Value} {dc_is_name : Value} {pm_is_name : Value} {cd_is_name : Value} {ct_is_name : Value} {f_number_in : Addr} {od_number_in : Option Addr} {an_number_in : Option Addr} {sl_number_in : Array (Option Value)} {oc_number_in : Value} {kV_number_in : Value} {dc_number_in : Value} {pm_number_in : Value} {cd_number_in : Value} {ct_number_in : Value} {T_number_in : Addr} {oT_number_in : Value} {dT_number_in : Option Addr} {nT_number_in : Nat} {sT_number_in : Array (Option Value)} {f_are_unlike : Addr} {od_are_unlike : Option Addr} {an_are_unlike : Option Addr} {sl_are_unlike : Array (Option Value)} {oc_are_unlike : Value} {kV_are_unlike : Value} {dc_are_unlike : Value} {pm_are_unlike : Value} {cd_are_unlike : Value} {ct_are_unlike : Value} {f_is_lot_of : Addr} {od_is_lot_of : Option Addr} {an_is_lot_of : Option Addr} {sl_is_lot_of : Array (Option Value)} {oc_is_lot_of : Value} {kV_is_lot_of : Value} {dc_is_lot_of : Value} {pm_is_lot_of : Value} {cd_is_lot_of : Value} {ct_is_lot_of : Value} {f_part_in : Addr} {od_part_in : Option Addr} {an_part_in : Option Addr} {sl_part_in : Array (Option Value)} {oc_part_in : Value} {kV_part_in : Value} {dc_part_in : Value} {pm_part_in : Value} {cd_part_in : Value} {ct_part_in : Value} {f_term_in : Addr} {od_term_in : Option Addr} {an_term_in : Option Addr} {sl_term_in : Array (Option Value)} {oc_term_in : Value} {kV_term_in : Value} {dc_term_in : Value} {pm_term_in : Value} {cd_term_in : Value} {ct_term_in : Value} {f_with_cell_in : Addr} {od_with_cell_in : Option Addr} {an_with_cell_in : Option Addr} {sl_with_cell_in : Array (Option Value)} {oc_with_cell_in : Value} {kV_with_cell_in : Value} {dc_with_cell_in : Value} {pm_with_cell_in : Value} {cd_with_cell_in : Value} {ct_with_cell_in : Value} {f_test_in : Addr} {od_test_in : Option Addr} {an_test_in : Option Addr} {sl_test_in : Array (Option Value)} {oc_test_in : Value} {kV_test_in : Value} {dc_test_in : Value} {pm_test_in : Value} {cd_test_in : Value} {ct_test_in : Value} {f_term_line_in : Addr} {od_term_line_in : Option Addr} {an_term_line_in : Option Addr} {sl_term_line_in : Array (Option Value)} {oc_term_line_in : Value} {kV_term_line_in : Value} {dc_term_line_in : Value} {pm_term_line_in : Value} {cd_term_line_in : Value} {ct_term_line_in : Value} {f_word_line_in : Addr} {od_word_line_in : Option Addr} {an_word_line_in : Option Addr} {sl_word_line_in : Array (Option Value)} {oc_word_line_in : Value} {kV_word_line_in : Value} {dc_word_line_in : Value} {pm_word_line_in : Value} {cd_word_line_in : Value} {ct_word_line_in : Value} {f_step_in : Addr} {od_step_in : Option Addr} {an_step_in : Option Addr} {sl_step_in : Array (Option Value)} {oc_step_in : Value} {kV_step_in : Value} {dc_step_in : Value} {pm_step_in : Value} {cd_step_in : Value} {ct_step_in : Value} {f_steps_in : Addr} {od_steps_in : Option Addr} {an_steps_in : Option Addr} {sl_steps_in : Array (Option Value)} {oc_steps_in : Value} {kV_steps_in : Value} {dc_steps_in : Value} {pm_steps_in : Value} {cd_steps_in : Value} {ct_steps_in : Value} {f_lot_of : Addr} {od_lot_of : Option Addr} {an_lot_of : Option Addr} {sl_lot_of : Array (Option Value)} {oc_lot_of : Value} {kV_lot_of : Value} {dc_lot_of : Value} {pm_lot_of : Value} {cd_lot_of : Value} {ct_lot_of : Value} {f_pinit : Addr} {od_pinit : Option Addr} {an_pinit : Option Addr} {sl_pinit : Array (Option Value)} {oc_pinit : Value} {kV_pinit : Value} {dc_pinit : Value} {pm_pinit : Value} {cd_pinit : Value} {ct_pinit : Value} {f_is_lot : Addr} {od_is_lot : Option Addr} {an_is_lot : Option Addr} {sl_is_lot : Array (Option Value)} {oc_is_lot : Value} {kV_is_lot : Value} {dc_is_lot : Value} {pm_is_lot : Value} {cd_is_lot : Value} {ct_is_lot : Value} {f_rinit : Addr} {od_rinit : Option Addr} {an_rinit : Option Addr} {sl_rinit : Array (Option Value)} {oc_rinit : Value} {kV_rinit : Value} {dc_rinit : Value} {pm_rinit : Value} {cd_rinit : Value} {ct_rinit : Value} {T_rinit : Addr} {oT_rinit : Value} {dT_rinit : Option Addr} {nT_rinit : Nat} {sT_rinit : Array (Option Value)} {f_tinit : Addr} {od_tinit : Option Addr} {an_tinit : Option Addr} {sl_tinit : Array (Option Value)} {oc_tinit : Value} {kV_tinit : Value} {dc_tinit : Value} {pm_tinit : Value} {cd_tinit : Value} {ct_tinit : Value} {T_tinit : Addr} {oT_tinit : Value} {dT_tinit : Option Addr} {nT_tinit : Nat} {sT_tinit : Array (Option Value)} {f_are_cells : Addr} {od_are_cells : Option Addr} {an_are_cells : Option Addr} {sl_are_cells : Array (Option Value)} {oc_are_cells : Value} {kV_are_cells : Value} {dc_are_cells : Value} {pm_are_cells : Value} {cd_are_cells : Value} {ct_are_cells : Value} {f_goes_with : Addr} {od_goes_with : Option Addr} {an_goes_with : Option Addr} {sl_goes_with : Array (Option Value)} {oc_goes_with : Value} {kV_goes_with : Value} {dc_goes_with : Value} {pm_goes_with : Value} {cd_goes_with : Value} {ct_goes_with : Value} {f_are_programs : Addr} {od_are_programs : Option Addr} {an_are_programs : Option Addr} {sl_are_programs : Array (Option Value)} {oc_are_programs : Value} {kV_are_programs : Value} {dc_are_programs : Value} {pm_are_programs : Value} {cd_are_programs : Value} {ct_are_programs : Value} {f_hinit : Addr} {od_hinit : Option Addr} {an_hinit : Option Addr} {sl_hinit : Array (Option Value)} {oc_hinit : Value} {kV_hinit : Value} {dc_hinit : Value} {pm_hinit : Value} {cd_hinit : Value} {ct_hinit : Value} {T_hinit : Addr} {oT_hinit : Value} {dT_hinit : Option Addr} {nT_hinit : Nat} {sT_hinit : Array (Option Value)} {d0_hinit : Value} {d1_hinit : Value} {d2_hinit : Value} {f_wprog : Addr} {od_wprog : Option Addr} {an_wprog : Option Addr} {sl_wprog : Array (Option Value)} {oc_wprog : Value} {kV_wprog : Value} {dc_wprog : Value} {pm_wprog : Value} {cd_wprog : Value} {ct_wprog : Value} {f_wrule : Addr} {od_wrule : Option Addr} {an_wrule : Option Addr} {sl_wrule : Array (Option Value)} {oc_wrule : Value} {kV_wrule : Value} {dc_wrule : Value} {pm_wrule : Value} {cd_wrule : Value} {ct_wrule : Value} {f_wlog : Addr} {od_wlog : Option Addr} {an_wlog : Option Addr} {sl_wlog : Array (Option Value)} {oc_wlog : Value} {kV_wlog : Value} {dc_wlog : Value} {pm_wlog : Value} {cd_wlog : Value} {ct_wlog : Value} {f_wtells : Addr} {od_wtells : Option Addr} {an_wtells : Option Addr} {sl_wtells : Array (Option Value)} {oc_wtells : Value} {kV_wtells : Value} {dc_wtells : Value} {pm_wtells : Value} {cd_wtells : Value} {ct_wtells : Value} {f_wturns : Addr} {od_wturns : Option Addr} {an_wturns : Option Addr} {sl_wturns : Array (Option Value)} {oc_wturns : Value} {kV_wturns : Value} {dc_wturns : Value} {pm_wturns : Value} {cd_wturns : Value} {ct_wturns : Value} {f_deal : Addr} {od_deal : Option Addr} {an_deal : Option Addr} {sl_deal : Array (Option Value)} {oc_deal : Value} {kV_deal : Value} {dc_deal : Value} {pm_deal : Value} {cd_deal : Value} {ct_deal : Value} {f_draw : Addr} {od_draw : Option Addr} {an_draw : Option Addr} {sl_draw : Array (Option Value)} {oc_draw : Value} {kV_draw : Value} {dc_draw : Value} {pm_draw : Value} {cd_draw : Value} {ct_draw : Value} {f_pick : Addr} {od_pick : Option Addr} {an_pick : Option Addr} {sl_pick : Array (Option Value)} {oc_pick : Value} {kV_pick : Value} {dc_pick : Value} {pm_pick : Value} {cd_pick : Value} {ct_pick : Value} {f_thing : Addr} {od_thing : Option Addr} {an_thing : Option Addr} {sl_thing : Array (Option Value)} {oc_thing : Value} {kV_thing : Value} {dc_thing : Value} {pm_thing : Value} {cd_thing : Value} {ct_thing : Value} {f_heard : Addr} {od_heard : Option Addr} {an_heard : Option Addr} {sl_heard : Array (Option Value)} {oc_heard : Value} {kV_heard : Value} {dc_heard : Value} {pm_heard : Value} {cd_heard : Value} {ct_heard : Value} {f_bad : Addr} {od_bad : Option Addr} {an_bad : Option Addr} {sl_bad : Array (Option Value)} {oc_bad : Value} {kV_bad : Value} {dc_bad : Value} {pm_bad : Value} {cd_bad : Value} {ct_bad : Value} {f_made : Addr} {od_made : Option Addr} {an_made : Option Addr} {sl_made : Array (Option Value)} {oc_made : Value} {kV_made : Value} {dc_made : Value} {pm_made : Value} {cd_made : Value} {ct_made : Value} {f_law : Addr} {od_law : Option Addr} {an_law : Option Addr} {sl_law : Array (Option Value)} {oc_law : Value} {kV_law : Value} {dc_law : Value} {pm_law : Value} {ct_law : Value} {cdl : Addr} {tc_LETTERS : Tok} {tc_DIGITS : Tok} {tc_GETS : Tok} {tc_PUTS : Tok} {tc_FOUR : Tok} {tBARRED0 : Tok} {tBARRED1 : Tok} {tBARRED2 : Tok} {tBARRED3 : Tok} {tBARRED4 : Tok} {tBARRED5 : Tok} {tBARRED6 : Tok} {tBARRED7 : Tok} {tBARRED8 : Tok} {tBARRED9 : Tok} {tBARRED10 : Tok} {tBARRED11 : Tok} {tBARRED12 : Tok} {tBARRED13 : Tok} {a_BARRED : Addr} {dd_BARRED : Option Addr} {nn_BARRED : Nat} {ss_BARRED : Array (Option Value)} {tREGISTERS0 : Tok} {tREGISTERS1 : Tok} {a_REGISTERS : Addr} {dd_REGISTERS : Option Addr} {nn_REGISTERS : Nat} {ss_REGISTERS : Array (Option Value)} {tSINGLE0 : Tok} {tSINGLE1 : Tok} {tSINGLE2 : Tok} {a_SINGLE : Addr} {dd_SINGLE : Option Addr} {nn_SINGLE : Nat} {ss_SINGLE : Array (Option Value)} {tSIGHTS0 : Tok} {tSIGHTS1 : Tok} {a_SIGHTS : Addr} {dd_SIGHTS : Option Addr} {nn_SIGHTS : Nat} {ss_SIGHTS : Array (Option Value)} {tLOG0 : Tok} {tLOG1 : Tok} {tLOG2 : Tok} {a_LOG : Addr} {dd_LOG : Option Addr} {nn_LOG : Nat} {ss_LOG : Array (Option Value)} {tTELLS0 : Tok} {tTELLS1 : Tok} {tTELLS2 : Tok} {a_TELLS : Addr} {dd_TELLS : Option Addr} {nn_TELLS : Nat} {ss_TELLS : Array (Option Value)} {tN_number_in : Tok} {a_E0 : Addr} {dd_E0 : Option Addr} {nn_E0 : Nat} {ss_E0 : Array (Option Value)} {a_E1 : Addr} {dd_E1 : Option Addr} {nn_E1 : Nat} {ss_E1 : Array (Option Value)} {C_RoadError : Addr} {C_InvalidProgram : Addr} {f_InvalidProgram : Addr} {cc_InvalidProgram : Addr} {cda_InvalidProgram : Addr} {oc_InvalidProgram : Value} {cl_InvalidProgram : Value} {ccl_InvalidProgram : Value} {kV_InvalidProgram : Value} {doc_InvalidProgram : Value} {pm_InvalidProgram : Value} {cu_InvalidProgram : Value} {od_InvalidProgram : Option Addr} {cld_InvalidProgram : Option Addr} {cdd_InvalidProgram : Option Addr} {an_InvalidProgram : Option Addr} {osl_InvalidProgram : Array (Option Value)} {csl_InvalidProgram : Array (Option Value)} {ccs_InvalidProgram : Array (Option Value)} {vs_InvalidProgram : Array Value} {file_InvalidProgram : Str} {tf_InvalidProgram : Tok} {C_InvalidHouse : Addr} {f_InvalidHouse : Addr} {cc_InvalidHouse : Addr} {cda_InvalidHouse : Addr} {oc_InvalidHouse : Value} {cl_InvalidHouse : Value} {ccl_InvalidHouse : Value} {kV_InvalidHouse : Value} {doc_InvalidHouse : Value} {pm_InvalidHouse : Value} {cu_InvalidHouse : Value} {od_InvalidHouse : Option Addr} {cld_InvalidHouse : Option Addr} {cdd_InvalidHouse : Option Addr} {an_InvalidHouse : Option Addr} {osl_InvalidHouse : Array (Option Value)} {csl_InvalidHouse : Array (Option Value)} {ccs_InvalidHouse : Array (Option Value)} {vs_InvalidHouse : Array Value} {file_InvalidHouse : Str} {tf_InvalidHouse : Tok} {C_InvalidRule : Addr} {f_InvalidRule : Addr} {cc_InvalidRule : Addr} {cda_InvalidRule : Addr} {oc_InvalidRule : Value} {cl_InvalidRule : Value} {ccl_InvalidRule : Value} {kV_InvalidRule : Value} {doc_InvalidRule : Value} {pm_InvalidRule : Value} {cu_InvalidRule : Value} {od_InvalidRule : Option Addr} {cld_InvalidRule : Option Addr} {cdd_InvalidRule : Option Addr} {an_InvalidRule : Option Addr} {osl_InvalidRule : Array (Option Value)} {csl_InvalidRule : Array (Option Value)} {ccs_InvalidRule : Array (Option Value)} {vs_InvalidRule : Array Value} {file_InvalidRule : Str} {tf_InvalidRule : Tok} {C_InvalidTurns : Addr} {f_InvalidTurns : Addr} {cc_InvalidTurns : Addr} {cda_InvalidTurns : Addr} {oc_InvalidTurns : Value} {cl_InvalidTurns : Value} {ccl_InvalidTurns : Value} {kV_InvalidTurns : Value} {doc_InvalidTurns : Value} {pm_InvalidTurns : Value} {cu_InvalidTurns : Value} {od_InvalidTurns : Option Addr} {cld_InvalidTurns : Option Addr} {cdd_InvalidTurns : Option Addr} {an_InvalidTurns : Option Addr} {osl_InvalidTurns : Array (Option Value)} {csl_InvalidTurns : Array (Option Value)} {ccs_InvalidTurns : Array (Option Value)} {vs_InvalidTurns : Array Value} {file_InvalidTurns : Str} {tf_InvalidTurns : Tok}
    (aC_Program : PySem.W.nsIn K mainGlobals "Program" = some (some (.ref C_Program)))
    (pg_Program : PySem.W.plainGet K C_Program Str.empty = true)
    (hd_Program : PySem.W.hasDictIn K C_Program = true)
    (po_Program : PySem.W.plainOver K C_Program = true)
    (sa_Program : PySem.W.findIn K (.ref C_Program) "__setattr__" = some (some (.builtin "object.__setattr__")))
    (mk_Program : PySem.W.makesIn K C_Program = true)
    (kc_Program : PySem.W.keepIn K (.ref C_Program) = true)
    (nF_Program_name : PySem.W.findIn K (.ref C_Program) "name" = some none)
    (nF_Program_lines : PySem.W.findIn K (.ref C_Program) "lines" = some none)
    (nF_Program_steps : PySem.W.findIn K (.ref C_Program) "steps" = some none)
    (nF_Program_cells : PySem.W.findIn K (.ref C_Program) "cells" = some none)
    (nF_Program_locks : PySem.W.findIn K (.ref C_Program) "locks" = some none)
    (aC_Rule : PySem.W.nsIn K mainGlobals "Rule" = some (some (.ref C_Rule)))
    (pg_Rule : PySem.W.plainGet K C_Rule Str.empty = true)
    (hd_Rule : PySem.W.hasDictIn K C_Rule = true)
    (po_Rule : PySem.W.plainOver K C_Rule = true)
    (sa_Rule : PySem.W.findIn K (.ref C_Rule) "__setattr__" = some (some (.builtin "object.__setattr__")))
    (mk_Rule : PySem.W.makesIn K C_Rule = true)
    (kc_Rule : PySem.W.keepIn K (.ref C_Rule) = true)
    (nF_Rule_sees : PySem.W.findIn K (.ref C_Rule) "sees" = some none)
    (nF_Rule_looks : PySem.W.findIn K (.ref C_Rule) "looks" = some none)
    (nF_Rule_takes : PySem.W.findIn K (.ref C_Rule) "takes" = some none)
    (aC_Turns : PySem.W.nsIn K mainGlobals "Turns" = some (some (.ref C_Turns)))
    (pg_Turns : PySem.W.plainGet K C_Turns Str.empty = true)
    (hd_Turns : PySem.W.hasDictIn K C_Turns = true)
    (po_Turns : PySem.W.plainOver K C_Turns = true)
    (sa_Turns : PySem.W.findIn K (.ref C_Turns) "__setattr__" = some (some (.builtin "object.__setattr__")))
    (mk_Turns : PySem.W.makesIn K C_Turns = true)
    (kc_Turns : PySem.W.keepIn K (.ref C_Turns) = true)
    (nF_Turns_ranked : PySem.W.findIn K (.ref C_Turns) "ranked" = some none)
    (nF_Turns_lent : PySem.W.findIn K (.ref C_Turns) "lent" = some none)
    (nF_Turns_fair : PySem.W.findIn K (.ref C_Turns) "fair" = some none)
    (aC_House : PySem.W.nsIn K mainGlobals "House" = some (some (.ref C_House)))
    (pg_House : PySem.W.plainGet K C_House Str.empty = true)
    (hd_House : PySem.W.hasDictIn K C_House = true)
    (po_House : PySem.W.plainOver K C_House = true)
    (sa_House : PySem.W.findIn K (.ref C_House) "__setattr__" = some (some (.builtin "object.__setattr__")))
    (mk_House : PySem.W.makesIn K C_House = true)
    (kc_House : PySem.W.keepIn K (.ref C_House) = true)
    (nF_House_cells : PySem.W.findIn K (.ref C_House) "cells" = some none)
    (nF_House_programs : PySem.W.findIn K (.ref C_House) "programs" = some none)
    (nF_House_rule : PySem.W.findIn K (.ref C_House) "rule" = some none)
    (nF_House_log : PySem.W.findIn K (.ref C_House) "log" = some none)
    (nF_House_tells : PySem.W.findIn K (.ref C_House) "tells" = some none)
    (nF_House_turns : PySem.W.findIn K (.ref C_House) "turns" = some none)
    (nF_House_places : PySem.W.findIn K (.ref C_House) "places" = some none)
    (nF_House_sizes : PySem.W.findIn K (.ref C_House) "sizes" = some none)
    (nF_House_named : PySem.W.findIn K (.ref C_House) "named" = some none)
    (a_is_integer : PySem.W.nsIn K mainGlobals "is_integer" = some (some (.ref f_is_integer)))
    (l_is_integer : K.lookup f_is_integer = some ⟨oc_is_integer, od_is_integer, .func (PySem.W.fnOf "is_integer" "is_integer" (defArgs s_is_integer) (defBody s_is_integer) (defScope s_is_integer) .none kV_is_integer dc_is_integer pm_is_integer an_is_integer cd_is_integer ct_is_integer), sl_is_integer⟩)
    (c_is_integer : PySem.W.codeIn K cd_is_integer "is_integer" = true)
    (k_is_integer : PySem.W.keepIn K (.ref f_is_integer) = true)
    (a_is_number : PySem.W.nsIn K mainGlobals "is_number" = some (some (.ref f_is_number)))
    (l_is_number : K.lookup f_is_number = some ⟨oc_is_number, od_is_number, .func (PySem.W.fnOf "is_number" "is_number" (defArgs s_is_number) (defBody s_is_number) (defScope s_is_number) .none kV_is_number dc_is_number pm_is_number an_is_number cd_is_number ct_is_number), sl_is_number⟩)
    (c_is_number : PySem.W.codeIn K cd_is_number "is_number" = true)
    (k_is_number : PySem.W.keepIn K (.ref f_is_number) = true)
    (a_is_sequence : PySem.W.nsIn K mainGlobals "is_sequence" = some (some (.ref f_is_sequence)))
    (l_is_sequence : K.lookup f_is_sequence = some ⟨oc_is_sequence, od_is_sequence, .func (PySem.W.fnOf "is_sequence" "is_sequence" (defArgs s_is_sequence) (defBody s_is_sequence) (defScope s_is_sequence) .none kV_is_sequence dc_is_sequence pm_is_sequence an_is_sequence cd_is_sequence ct_is_sequence), sl_is_sequence⟩)
    (c_is_sequence : PySem.W.codeIn K cd_is_sequence "is_sequence" = true)
    (k_is_sequence : PySem.W.keepIn K (.ref f_is_sequence) = true)
    (a_is_tuple_of : PySem.W.nsIn K mainGlobals "is_tuple_of" = some (some (.ref f_is_tuple_of)))
    (l_is_tuple_of : K.lookup f_is_tuple_of = some ⟨oc_is_tuple_of, od_is_tuple_of, .func (PySem.W.fnOf "is_tuple_of" "is_tuple_of" (defArgs s_is_tuple_of) (defBody s_is_tuple_of) (defScope s_is_tuple_of) .none kV_is_tuple_of dc_is_tuple_of pm_is_tuple_of an_is_tuple_of cd_is_tuple_of ct_is_tuple_of), sl_is_tuple_of⟩)
    (c_is_tuple_of : PySem.W.codeIn K cd_is_tuple_of "is_tuple_of" = true)
    (k_is_tuple_of : PySem.W.keepIn K (.ref f_is_tuple_of) = true)
    (a_is_name : PySem.W.nsIn K mainGlobals "is_name" = some (some (.ref f_is_name)))
    (l_is_name : K.lookup f_is_name = some ⟨oc_is_name, od_is_name, .func (PySem.W.fnOf "is_name" "is_name" (defArgs s_is_name) (defBody s_is_name) (defScope s_is_name) .none kV_is_name dc_is_name pm_is_name an_is_name cd_is_name ct_is_name), sl_is_name⟩)
    (c_is_name : PySem.W.codeIn K cd_is_name "is_name" = true)
    (k_is_name : PySem.W.keepIn K (.ref f_is_name) = true)
    (a_number_in : PySem.W.nsIn K mainGlobals "number_in" = some (some (.ref f_number_in)))
    (l_number_in : K.lookup f_number_in = some ⟨oc_number_in, od_number_in, .func (PySem.W.fnOf "number_in" "number_in" (defArgs s_number_in) (defBody s_number_in) (defScope s_number_in) (.ref T_number_in) kV_number_in dc_number_in pm_number_in an_number_in cd_number_in ct_number_in), sl_number_in⟩)
    (c_number_in : PySem.W.codeIn K cd_number_in "number_in" = true)
    (k_number_in : PySem.W.keepIn K (.ref f_number_in) = true)
    (lT_number_in : K.lookup T_number_in = some ⟨oT_number_in, dT_number_in, .seq #[.int 4 tN_number_in] nT_number_in, sT_number_in⟩)
    (a_are_unlike : PySem.W.nsIn K mainGlobals "are_unlike" = some (some (.ref f_are_unlike)))
    (l_are_unlike : K.lookup f_are_unlike = some ⟨oc_are_unlike, od_are_unlike, .func (PySem.W.fnOf "are_unlike" "are_unlike" (defArgs s_are_unlike) (defBody s_are_unlike) (defScope s_are_unlike) .none kV_are_unlike dc_are_unlike pm_are_unlike an_are_unlike cd_are_unlike ct_are_unlike), sl_are_unlike⟩)
    (c_are_unlike : PySem.W.codeIn K cd_are_unlike "are_unlike" = true)
    (k_are_unlike : PySem.W.keepIn K (.ref f_are_unlike) = true)
    (a_is_lot_of : PySem.W.nsIn K mainGlobals "is_lot_of" = some (some (.ref f_is_lot_of)))
    (l_is_lot_of : K.lookup f_is_lot_of = some ⟨oc_is_lot_of, od_is_lot_of, .func (PySem.W.fnOf "is_lot_of" "is_lot_of" (defArgs s_is_lot_of) (defBody s_is_lot_of) (defScope s_is_lot_of) .none kV_is_lot_of dc_is_lot_of pm_is_lot_of an_is_lot_of cd_is_lot_of ct_is_lot_of), sl_is_lot_of⟩)
    (c_is_lot_of : PySem.W.codeIn K cd_is_lot_of "is_lot_of" = true)
    (k_is_lot_of : PySem.W.keepIn K (.ref f_is_lot_of) = true)
    (a_part_in : PySem.W.nsIn K mainGlobals "part_in" = some (some (.ref f_part_in)))
    (l_part_in : K.lookup f_part_in = some ⟨oc_part_in, od_part_in, .func (PySem.W.fnOf "part_in" "part_in" (defArgs s_part_in) (defBody s_part_in) (defScope s_part_in) .none kV_part_in dc_part_in pm_part_in an_part_in cd_part_in ct_part_in), sl_part_in⟩)
    (c_part_in : PySem.W.codeIn K cd_part_in "part_in" = true)
    (k_part_in : PySem.W.keepIn K (.ref f_part_in) = true)
    (a_term_in : PySem.W.nsIn K mainGlobals "term_in" = some (some (.ref f_term_in)))
    (l_term_in : K.lookup f_term_in = some ⟨oc_term_in, od_term_in, .func (PySem.W.fnOf "term_in" "term_in" (defArgs s_term_in) (defBody s_term_in) (defScope s_term_in) .none kV_term_in dc_term_in pm_term_in an_term_in cd_term_in ct_term_in), sl_term_in⟩)
    (c_term_in : PySem.W.codeIn K cd_term_in "term_in" = true)
    (k_term_in : PySem.W.keepIn K (.ref f_term_in) = true)
    (a_with_cell_in : PySem.W.nsIn K mainGlobals "with_cell_in" = some (some (.ref f_with_cell_in)))
    (l_with_cell_in : K.lookup f_with_cell_in = some ⟨oc_with_cell_in, od_with_cell_in, .func (PySem.W.fnOf "with_cell_in" "with_cell_in" (defArgs s_with_cell_in) (defBody s_with_cell_in) (defScope s_with_cell_in) .none kV_with_cell_in dc_with_cell_in pm_with_cell_in an_with_cell_in cd_with_cell_in ct_with_cell_in), sl_with_cell_in⟩)
    (c_with_cell_in : PySem.W.codeIn K cd_with_cell_in "with_cell_in" = true)
    (k_with_cell_in : PySem.W.keepIn K (.ref f_with_cell_in) = true)
    (a_test_in : PySem.W.nsIn K mainGlobals "test_in" = some (some (.ref f_test_in)))
    (l_test_in : K.lookup f_test_in = some ⟨oc_test_in, od_test_in, .func (PySem.W.fnOf "test_in" "test_in" (defArgs s_test_in) (defBody s_test_in) (defScope s_test_in) .none kV_test_in dc_test_in pm_test_in an_test_in cd_test_in ct_test_in), sl_test_in⟩)
    (c_test_in : PySem.W.codeIn K cd_test_in "test_in" = true)
    (k_test_in : PySem.W.keepIn K (.ref f_test_in) = true)
    (a_term_line_in : PySem.W.nsIn K mainGlobals "term_line_in" = some (some (.ref f_term_line_in)))
    (l_term_line_in : K.lookup f_term_line_in = some ⟨oc_term_line_in, od_term_line_in, .func (PySem.W.fnOf "term_line_in" "term_line_in" (defArgs s_term_line_in) (defBody s_term_line_in) (defScope s_term_line_in) .none kV_term_line_in dc_term_line_in pm_term_line_in an_term_line_in cd_term_line_in ct_term_line_in), sl_term_line_in⟩)
    (c_term_line_in : PySem.W.codeIn K cd_term_line_in "term_line_in" = true)
    (k_term_line_in : PySem.W.keepIn K (.ref f_term_line_in) = true)
    (a_word_line_in : PySem.W.nsIn K mainGlobals "word_line_in" = some (some (.ref f_word_line_in)))
    (l_word_line_in : K.lookup f_word_line_in = some ⟨oc_word_line_in, od_word_line_in, .func (PySem.W.fnOf "word_line_in" "word_line_in" (defArgs s_word_line_in) (defBody s_word_line_in) (defScope s_word_line_in) .none kV_word_line_in dc_word_line_in pm_word_line_in an_word_line_in cd_word_line_in ct_word_line_in), sl_word_line_in⟩)
    (c_word_line_in : PySem.W.codeIn K cd_word_line_in "word_line_in" = true)
    (k_word_line_in : PySem.W.keepIn K (.ref f_word_line_in) = true)
    (a_step_in : PySem.W.nsIn K mainGlobals "step_in" = some (some (.ref f_step_in)))
    (l_step_in : K.lookup f_step_in = some ⟨oc_step_in, od_step_in, .func (PySem.W.fnOf "step_in" "step_in" (defArgs s_step_in) (defBody s_step_in) (defScope s_step_in) .none kV_step_in dc_step_in pm_step_in an_step_in cd_step_in ct_step_in), sl_step_in⟩)
    (c_step_in : PySem.W.codeIn K cd_step_in "step_in" = true)
    (k_step_in : PySem.W.keepIn K (.ref f_step_in) = true)
    (a_steps_in : PySem.W.nsIn K mainGlobals "steps_in" = some (some (.ref f_steps_in)))
    (l_steps_in : K.lookup f_steps_in = some ⟨oc_steps_in, od_steps_in, .func (PySem.W.fnOf "steps_in" "steps_in" (defArgs s_steps_in) (defBody s_steps_in) (defScope s_steps_in) .none kV_steps_in dc_steps_in pm_steps_in an_steps_in cd_steps_in ct_steps_in), sl_steps_in⟩)
    (c_steps_in : PySem.W.codeIn K cd_steps_in "steps_in" = true)
    (k_steps_in : PySem.W.keepIn K (.ref f_steps_in) = true)
    (a_lot_of : PySem.W.nsIn K mainGlobals "lot_of" = some (some (.ref f_lot_of)))
    (l_lot_of : K.lookup f_lot_of = some ⟨oc_lot_of, od_lot_of, .func (PySem.W.fnOf "lot_of" "lot_of" (defArgs s_lot_of) (defBody s_lot_of) (defScope s_lot_of) .none kV_lot_of dc_lot_of pm_lot_of an_lot_of cd_lot_of ct_lot_of), sl_lot_of⟩)
    (c_lot_of : PySem.W.codeIn K cd_lot_of "lot_of" = true)
    (k_lot_of : PySem.W.keepIn K (.ref f_lot_of) = true)
    (a_pinit : PySem.W.findIn K (.ref C_Program) "__init__" = some (some (.ref f_pinit)))
    (i_pinit : PySem.W.isFn K (.ref f_pinit) = true)
    (l_pinit : K.lookup f_pinit = some ⟨oc_pinit, od_pinit, .func (PySem.W.fnOf "__init__" "Program.__init__" (defArgs s_pinit) (defBody s_pinit) (defScope s_pinit) .none kV_pinit dc_pinit pm_pinit an_pinit cd_pinit ct_pinit), sl_pinit⟩)
    (c_pinit : PySem.W.codeIn K cd_pinit "Program.__init__" = true)
    (k_pinit : PySem.W.keepIn K (.ref f_pinit) = true)
    (a_is_lot : PySem.W.nsIn K mainGlobals "is_lot" = some (some (.ref f_is_lot)))
    (l_is_lot : K.lookup f_is_lot = some ⟨oc_is_lot, od_is_lot, .func (PySem.W.fnOf "is_lot" "is_lot" (defArgs s_is_lot) (defBody s_is_lot) (defScope s_is_lot) .none kV_is_lot dc_is_lot pm_is_lot an_is_lot cd_is_lot ct_is_lot), sl_is_lot⟩)
    (c_is_lot : PySem.W.codeIn K cd_is_lot "is_lot" = true)
    (k_is_lot : PySem.W.keepIn K (.ref f_is_lot) = true)
    (a_rinit : PySem.W.findIn K (.ref C_Rule) "__init__" = some (some (.ref f_rinit)))
    (i_rinit : PySem.W.isFn K (.ref f_rinit) = true)
    (l_rinit : K.lookup f_rinit = some ⟨oc_rinit, od_rinit, .func (PySem.W.fnOf "__init__" "Rule.__init__" (defArgs s_rinit) (defBody s_rinit) (defScope s_rinit) (.ref T_rinit) kV_rinit dc_rinit pm_rinit an_rinit cd_rinit ct_rinit), sl_rinit⟩)
    (c_rinit : PySem.W.codeIn K cd_rinit "Rule.__init__" = true)
    (k_rinit : PySem.W.keepIn K (.ref f_rinit) = true)
    (lT_rinit : K.lookup T_rinit = some ⟨oT_rinit, dT_rinit, .seq #[.ref a_E0, .ref a_E1] nT_rinit, sT_rinit⟩)
    (a_tinit : PySem.W.findIn K (.ref C_Turns) "__init__" = some (some (.ref f_tinit)))
    (i_tinit : PySem.W.isFn K (.ref f_tinit) = true)
    (l_tinit : K.lookup f_tinit = some ⟨oc_tinit, od_tinit, .func (PySem.W.fnOf "__init__" "Turns.__init__" (defArgs s_tinit) (defBody s_tinit) (defScope s_tinit) (.ref T_tinit) kV_tinit dc_tinit pm_tinit an_tinit cd_tinit ct_tinit), sl_tinit⟩)
    (c_tinit : PySem.W.codeIn K cd_tinit "Turns.__init__" = true)
    (k_tinit : PySem.W.keepIn K (.ref f_tinit) = true)
    (lT_tinit : K.lookup T_tinit = some ⟨oT_tinit, dT_tinit, .seq #[.bool false, .bool false, .none] nT_tinit, sT_tinit⟩)
    (a_are_cells : PySem.W.nsIn K mainGlobals "are_cells" = some (some (.ref f_are_cells)))
    (l_are_cells : K.lookup f_are_cells = some ⟨oc_are_cells, od_are_cells, .func (PySem.W.fnOf "are_cells" "are_cells" (defArgs s_are_cells) (defBody s_are_cells) (defScope s_are_cells) .none kV_are_cells dc_are_cells pm_are_cells an_are_cells cd_are_cells ct_are_cells), sl_are_cells⟩)
    (c_are_cells : PySem.W.codeIn K cd_are_cells "are_cells" = true)
    (k_are_cells : PySem.W.keepIn K (.ref f_are_cells) = true)
    (a_goes_with : PySem.W.nsIn K mainGlobals "goes_with" = some (some (.ref f_goes_with)))
    (l_goes_with : K.lookup f_goes_with = some ⟨oc_goes_with, od_goes_with, .func (PySem.W.fnOf "goes_with" "goes_with" (defArgs s_goes_with) (defBody s_goes_with) (defScope s_goes_with) .none kV_goes_with dc_goes_with pm_goes_with an_goes_with cd_goes_with ct_goes_with), sl_goes_with⟩)
    (c_goes_with : PySem.W.codeIn K cd_goes_with "goes_with" = true)
    (k_goes_with : PySem.W.keepIn K (.ref f_goes_with) = true)
    (a_are_programs : PySem.W.nsIn K mainGlobals "are_programs" = some (some (.ref f_are_programs)))
    (l_are_programs : K.lookup f_are_programs = some ⟨oc_are_programs, od_are_programs, .func (PySem.W.fnOf "are_programs" "are_programs" (defArgs s_are_programs) (defBody s_are_programs) (defScope s_are_programs) .none kV_are_programs dc_are_programs pm_are_programs an_are_programs cd_are_programs ct_are_programs), sl_are_programs⟩)
    (c_are_programs : PySem.W.codeIn K cd_are_programs "are_programs" = true)
    (k_are_programs : PySem.W.keepIn K (.ref f_are_programs) = true)
    (a_hinit : PySem.W.findIn K (.ref C_House) "__init__" = some (some (.ref f_hinit)))
    (i_hinit : PySem.W.isFn K (.ref f_hinit) = true)
    (l_hinit : K.lookup f_hinit = some ⟨oc_hinit, od_hinit, .func (PySem.W.fnOf "__init__" "House.__init__" (defArgs s_hinit) (defBody s_hinit) (defScope s_hinit) (.ref T_hinit) kV_hinit dc_hinit pm_hinit an_hinit cd_hinit ct_hinit), sl_hinit⟩)
    (c_hinit : PySem.W.codeIn K cd_hinit "House.__init__" = true)
    (k_hinit : PySem.W.keepIn K (.ref f_hinit) = true)
    (lT_hinit : K.lookup T_hinit = some ⟨oT_hinit, dT_hinit, .seq #[d0_hinit, d1_hinit, d2_hinit] nT_hinit, sT_hinit⟩)
    (a_wprog : PySem.W.findIn K (.ref C_House) "with_program" = some (some (.ref f_wprog)))
    (i_wprog : PySem.W.isFn K (.ref f_wprog) = true)
    (l_wprog : K.lookup f_wprog = some ⟨oc_wprog, od_wprog, .func (PySem.W.fnOf "with_program" "House.with_program" (defArgs s_wprog) (defBody s_wprog) (defScope s_wprog) .none kV_wprog dc_wprog pm_wprog an_wprog cd_wprog ct_wprog), sl_wprog⟩)
    (c_wprog : PySem.W.codeIn K cd_wprog "House.with_program" = true)
    (k_wprog : PySem.W.keepIn K (.ref f_wprog) = true)
    (a_wrule : PySem.W.findIn K (.ref C_House) "with_rule" = some (some (.ref f_wrule)))
    (i_wrule : PySem.W.isFn K (.ref f_wrule) = true)
    (l_wrule : K.lookup f_wrule = some ⟨oc_wrule, od_wrule, .func (PySem.W.fnOf "with_rule" "House.with_rule" (defArgs s_wrule) (defBody s_wrule) (defScope s_wrule) .none kV_wrule dc_wrule pm_wrule an_wrule cd_wrule ct_wrule), sl_wrule⟩)
    (c_wrule : PySem.W.codeIn K cd_wrule "House.with_rule" = true)
    (k_wrule : PySem.W.keepIn K (.ref f_wrule) = true)
    (a_wlog : PySem.W.findIn K (.ref C_House) "with_log" = some (some (.ref f_wlog)))
    (i_wlog : PySem.W.isFn K (.ref f_wlog) = true)
    (l_wlog : K.lookup f_wlog = some ⟨oc_wlog, od_wlog, .func (PySem.W.fnOf "with_log" "House.with_log" (defArgs s_wlog) (defBody s_wlog) (defScope s_wlog) .none kV_wlog dc_wlog pm_wlog an_wlog cd_wlog ct_wlog), sl_wlog⟩)
    (c_wlog : PySem.W.codeIn K cd_wlog "House.with_log" = true)
    (k_wlog : PySem.W.keepIn K (.ref f_wlog) = true)
    (a_wtells : PySem.W.findIn K (.ref C_House) "with_tells" = some (some (.ref f_wtells)))
    (i_wtells : PySem.W.isFn K (.ref f_wtells) = true)
    (l_wtells : K.lookup f_wtells = some ⟨oc_wtells, od_wtells, .func (PySem.W.fnOf "with_tells" "House.with_tells" (defArgs s_wtells) (defBody s_wtells) (defScope s_wtells) .none kV_wtells dc_wtells pm_wtells an_wtells cd_wtells ct_wtells), sl_wtells⟩)
    (c_wtells : PySem.W.codeIn K cd_wtells "House.with_tells" = true)
    (k_wtells : PySem.W.keepIn K (.ref f_wtells) = true)
    (a_wturns : PySem.W.findIn K (.ref C_House) "with_turns" = some (some (.ref f_wturns)))
    (i_wturns : PySem.W.isFn K (.ref f_wturns) = true)
    (l_wturns : K.lookup f_wturns = some ⟨oc_wturns, od_wturns, .func (PySem.W.fnOf "with_turns" "House.with_turns" (defArgs s_wturns) (defBody s_wturns) (defScope s_wturns) .none kV_wturns dc_wturns pm_wturns an_wturns cd_wturns ct_wturns), sl_wturns⟩)
    (c_wturns : PySem.W.codeIn K cd_wturns "House.with_turns" = true)
    (k_wturns : PySem.W.keepIn K (.ref f_wturns) = true)
    (a_deal : PySem.W.nsIn K mainGlobals "_law_deal" = some (some (.ref f_deal)))
    (l_deal : K.lookup f_deal = some ⟨oc_deal, od_deal, .func (PySem.W.fnOf "_law_deal" "_law_deal" (defArgs s_deal) (defBody s_deal) (defScope s_deal) .none kV_deal dc_deal pm_deal an_deal cd_deal ct_deal), sl_deal⟩)
    (c_deal : PySem.W.codeIn K cd_deal "_law_deal" = true)
    (k_deal : PySem.W.keepIn K (.ref f_deal) = true)
    (a_draw : PySem.W.nsIn K mainGlobals "_law_draw" = some (some (.ref f_draw)))
    (l_draw : K.lookup f_draw = some ⟨oc_draw, od_draw, .func (PySem.W.fnOf "_law_draw" "_law_draw" (defArgs s_draw) (defBody s_draw) (defScope s_draw) .none kV_draw dc_draw pm_draw an_draw cd_draw ct_draw), sl_draw⟩)
    (c_draw : PySem.W.codeIn K cd_draw "_law_draw" = true)
    (k_draw : PySem.W.keepIn K (.ref f_draw) = true)
    (a_pick : PySem.W.nsIn K mainGlobals "_law_pick" = some (some (.ref f_pick)))
    (l_pick : K.lookup f_pick = some ⟨oc_pick, od_pick, .func (PySem.W.fnOf "_law_pick" "_law_pick" (defArgs s_pick) (defBody s_pick) (defScope s_pick) .none kV_pick dc_pick pm_pick an_pick cd_pick ct_pick), sl_pick⟩)
    (c_pick : PySem.W.codeIn K cd_pick "_law_pick" = true)
    (k_pick : PySem.W.keepIn K (.ref f_pick) = true)
    (a_thing : PySem.W.nsIn K mainGlobals "_law_thing" = some (some (.ref f_thing)))
    (l_thing : K.lookup f_thing = some ⟨oc_thing, od_thing, .func (PySem.W.fnOf "_law_thing" "_law_thing" (defArgs s_thing) (defBody s_thing) (defScope s_thing) .none kV_thing dc_thing pm_thing an_thing cd_thing ct_thing), sl_thing⟩)
    (c_thing : PySem.W.codeIn K cd_thing "_law_thing" = true)
    (k_thing : PySem.W.keepIn K (.ref f_thing) = true)
    (a_heard : PySem.W.nsIn K mainGlobals "_law_heard" = some (some (.ref f_heard)))
    (l_heard : K.lookup f_heard = some ⟨oc_heard, od_heard, .func (PySem.W.fnOf "_law_heard" "_law_heard" (defArgs s_heard) (defBody s_heard) (defScope s_heard) .none kV_heard dc_heard pm_heard an_heard cd_heard ct_heard), sl_heard⟩)
    (c_heard : PySem.W.codeIn K cd_heard "_law_heard" = true)
    (k_heard : PySem.W.keepIn K (.ref f_heard) = true)
    (a_bad : PySem.W.nsIn K mainGlobals "_law_bad" = some (some (.ref f_bad)))
    (l_bad : K.lookup f_bad = some ⟨oc_bad, od_bad, .func (PySem.W.fnOf "_law_bad" "_law_bad" (defArgs s_bad) (defBody s_bad) (defScope s_bad) .none kV_bad dc_bad pm_bad an_bad cd_bad ct_bad), sl_bad⟩)
    (c_bad : PySem.W.codeIn K cd_bad "_law_bad" = true)
    (k_bad : PySem.W.keepIn K (.ref f_bad) = true)
    (a_made : PySem.W.nsIn K mainGlobals "_law_made" = some (some (.ref f_made)))
    (l_made : K.lookup f_made = some ⟨oc_made, od_made, .func (PySem.W.fnOf "_law_made" "_law_made" (defArgs s_made) (defBody s_made) (defScope s_made) .none kV_made dc_made pm_made an_made cd_made ct_made), sl_made⟩)
    (c_made : PySem.W.codeIn K cd_made "_law_made" = true)
    (k_made : PySem.W.keepIn K (.ref f_made) = true)
    (a_law : PySem.W.nsIn K mainGlobals "law" = some (some (.ref f_law)))
    (l_law : K.lookup f_law = some ⟨oc_law, od_law, .func (PySem.W.fnOf "law" "law" (defArgs s_law) (defBody s_law) (defScope s_law) .none kV_law dc_law pm_law an_law (.ref cdl) ct_law), sl_law⟩)
    (c_law : PySem.W.codeIn K (.ref cdl) "law" = true)
    (k_law : PySem.W.keepIn K (.ref f_law) = true)
    (cv_LETTERS : PySem.W.nsIn K mainGlobals "LETTERS" = some (some (.str "abcdefghijklmnopqrstuvwxyz" tc_LETTERS)))
    (cv_DIGITS : PySem.W.nsIn K mainGlobals "DIGITS" = some (some (.str "0123456789" tc_DIGITS)))
    (cv_GETS : PySem.W.nsIn K mainGlobals "GETS" = some (some (.str "gets" tc_GETS)))
    (cv_PUTS : PySem.W.nsIn K mainGlobals "PUTS" = some (some (.str "puts" tc_PUTS)))
    (cv_FOUR : PySem.W.nsIn K mainGlobals "FOUR" = some (some (.int 4 tc_FOUR)))
    (cv_BARRED : PySem.W.nsIn K mainGlobals "BARRED" = some (some (.ref a_BARRED)))
    (lk_BARRED : K.lookup a_BARRED = some ⟨.type "tuple", dd_BARRED, .seq #[.str "hold" tBARRED0, .str "done" tBARRED1, .str "get" tBARRED2, .str "put" tBARRED3, .str "let" tBARRED4, .str "if" tBARRED5, .str "else" tBARRED6, .str "go" tBARRED7, .str "lock" tBARRED8, .str "free" tBARRED9, .str "tell" tBARRED10, .str "end" tBARRED11, .str "x" tBARRED12, .str "y" tBARRED13] nn_BARRED, ss_BARRED⟩)
    (cv_REGISTERS : PySem.W.nsIn K mainGlobals "REGISTERS" = some (some (.ref a_REGISTERS)))
    (lk_REGISTERS : K.lookup a_REGISTERS = some ⟨.type "tuple", dd_REGISTERS, .seq #[.str "x" tREGISTERS0, .str "y" tREGISTERS1] nn_REGISTERS, ss_REGISTERS⟩)
    (cv_SINGLE : PySem.W.nsIn K mainGlobals "SINGLE" = some (some (.ref a_SINGLE)))
    (lk_SINGLE : K.lookup a_SINGLE = some ⟨.type "tuple", dd_SINGLE, .seq #[.str "hold" tSINGLE0, .str "done" tSINGLE1, .str "end" tSINGLE2] nn_SINGLE, ss_SINGLE⟩)
    (cv_SIGHTS : PySem.W.nsIn K mainGlobals "SIGHTS" = some (some (.ref a_SIGHTS)))
    (lk_SIGHTS : K.lookup a_SIGHTS = some ⟨.type "tuple", dd_SIGHTS, .seq #[.str "begin" tSIGHTS0, .str "now" tSIGHTS1] nn_SIGHTS, ss_SIGHTS⟩)
    (cv_LOG : PySem.W.nsIn K mainGlobals "LOG" = some (some (.ref a_LOG)))
    (lk_LOG : K.lookup a_LOG = some ⟨.type "tuple", dd_LOG, .seq #[.str "late" tLOG0, .str "marks" tLOG1, .str "places" tLOG2] nn_LOG, ss_LOG⟩)
    (cv_TELLS : PySem.W.nsIn K mainGlobals "TELLS" = some (some (.ref a_TELLS)))
    (lk_TELLS : K.lookup a_TELLS = some ⟨.type "tuple", dd_TELLS, .seq #[.str "soon" tTELLS0, .str "own" tTELLS1, .str "firm" tTELLS2] nn_TELLS, ss_TELLS⟩)
    (z_len : PySem.W.nsIn K mainGlobals "len" = some none)
    (z_int : PySem.W.nsIn K mainGlobals "int" = some none)
    (z_bool : PySem.W.nsIn K mainGlobals "bool" = some none)
    (z_abs : PySem.W.nsIn K mainGlobals "abs" = some none)
    (z_isinstance : PySem.W.nsIn K mainGlobals "isinstance" = some none)
    (z_str : PySem.W.nsIn K mainGlobals "str" = some none)
    (z_all : PySem.W.nsIn K mainGlobals "all" = some none)
    (z_list : PySem.W.nsIn K mainGlobals "list" = some none)
    (z_tuple : PySem.W.nsIn K mainGlobals "tuple" = some none)
    (z_set : PySem.W.nsIn K mainGlobals "set" = some none)
    (z_sorted : PySem.W.nsIn K mainGlobals "sorted" = some none)
    (z_range : PySem.W.nsIn K mainGlobals "range" = some none)
    (z_enumerate : PySem.W.nsIn K mainGlobals "enumerate" = some none)
    (z_super : PySem.W.nsIn K mainGlobals "super" = some none)
    (z_dict : PySem.W.nsIn K mainGlobals "dict" = some none)
    (ch_law : PySem.W.codeHdIn K cdl (tabOf K cdl) = true)
    (nt_law : K.lookup (tabOf K cdl) = none)
    (tb_law : h.get? (tabOf K cdl) = some { cls := .none, data := .fields #[] })
    (lk_E0 : K.lookup a_E0 = some ⟨.type "tuple", dd_E0, .seq #[] nn_E0, ss_E0⟩)
    (lk_E1 : K.lookup a_E1 = some ⟨.type "tuple", dd_E1, .seq #[] nn_E1, ss_E1⟩)
    (in2 : PySem.W.specialIn K (.builtin "object.__class__") "__get__" = some (some (.builtin "getset_descriptor.__get__")))
    (in3 : PySem.W.takesIn K (.builtin "object.__class__") = some true)
    (ic_Program : PySem.W.findIn K (.ref C_Program) "__class__" = some (some (.builtin "object.__class__")))
    (im_Program : PySem.W.mroIn K C_Program (.type "object") = some true)
    (sq_Program : PySem.W.kitAny K (.ref C_Program) [.type "list", .type "tuple"] = some false)
    (ko_Program_NoneType : PySem.W.kitOne K (.type "NoneType") (.ref C_Program) = some false)
    (ko_Program_bool : PySem.W.kitOne K (.type "bool") (.ref C_Program) = some false)
    (ko_Program_int : PySem.W.kitOne K (.type "int") (.ref C_Program) = some false)
    (ko_Program_str : PySem.W.kitOne K (.type "str") (.ref C_Program) = some false)
    (ko_Program_tuple : PySem.W.kitOne K (.type "tuple") (.ref C_Program) = some false)
    (ko_Program_list : PySem.W.kitOne K (.type "list") (.ref C_Program) = some false)
    (kc_Rule_Program : PySem.W.kitOne K (.ref C_Rule) (.ref C_Program) = some false)
    (kc_Turns_Program : PySem.W.kitOne K (.ref C_Turns) (.ref C_Program) = some false)
    (ic_Rule : PySem.W.findIn K (.ref C_Rule) "__class__" = some (some (.builtin "object.__class__")))
    (im_Rule : PySem.W.mroIn K C_Rule (.type "object") = some true)
    (sq_Rule : PySem.W.kitAny K (.ref C_Rule) [.type "list", .type "tuple"] = some false)
    (ko_Rule_NoneType : PySem.W.kitOne K (.type "NoneType") (.ref C_Rule) = some false)
    (ko_Rule_bool : PySem.W.kitOne K (.type "bool") (.ref C_Rule) = some false)
    (ko_Rule_int : PySem.W.kitOne K (.type "int") (.ref C_Rule) = some false)
    (ko_Rule_str : PySem.W.kitOne K (.type "str") (.ref C_Rule) = some false)
    (ko_Rule_tuple : PySem.W.kitOne K (.type "tuple") (.ref C_Rule) = some false)
    (ko_Rule_list : PySem.W.kitOne K (.type "list") (.ref C_Rule) = some false)
    (kc_Program_Rule : PySem.W.kitOne K (.ref C_Program) (.ref C_Rule) = some false)
    (kc_Turns_Rule : PySem.W.kitOne K (.ref C_Turns) (.ref C_Rule) = some false)
    (ic_Turns : PySem.W.findIn K (.ref C_Turns) "__class__" = some (some (.builtin "object.__class__")))
    (im_Turns : PySem.W.mroIn K C_Turns (.type "object") = some true)
    (sq_Turns : PySem.W.kitAny K (.ref C_Turns) [.type "list", .type "tuple"] = some false)
    (ko_Turns_NoneType : PySem.W.kitOne K (.type "NoneType") (.ref C_Turns) = some false)
    (ko_Turns_bool : PySem.W.kitOne K (.type "bool") (.ref C_Turns) = some false)
    (ko_Turns_int : PySem.W.kitOne K (.type "int") (.ref C_Turns) = some false)
    (ko_Turns_str : PySem.W.kitOne K (.type "str") (.ref C_Turns) = some false)
    (ko_Turns_tuple : PySem.W.kitOne K (.type "tuple") (.ref C_Turns) = some false)
    (ko_Turns_list : PySem.W.kitOne K (.type "list") (.ref C_Turns) = some false)
    (kc_Program_Turns : PySem.W.kitOne K (.ref C_Program) (.ref C_Turns) = some false)
    (kc_Rule_Turns : PySem.W.kitOne K (.ref C_Rule) (.ref C_Turns) = some false)
    (any_tp : PySem.W.nsIn K cStatics "thirdparty.any" = some none)
    (top_super : (l.prog.main.scope.names.lookup ("super" : Str)).isSome = false)
    (aC_RoadError : PySem.W.nsIn K mainGlobals "RoadError" = some (some (.ref C_RoadError)))
    (aC_InvalidProgram : PySem.W.nsIn K mainGlobals "InvalidProgram" = some (some (.ref C_InvalidProgram)))
    (hi_InvalidProgram : PySem.W.findIn K (.ref C_InvalidProgram) "__init__" = some (some (.ref f_InvalidProgram)))
    (ht_InvalidProgram : PySem.W.typeIn K (.ref f_InvalidProgram) = some (.type "function"))
    (lk_InvalidProgram : K.lookup f_InvalidProgram = some ⟨oc_InvalidProgram, od_InvalidProgram, .func (PySem.W.ksFn "__init__" "InvalidProgram.__init__" (defArgs s_x_InvalidProgram) (defBody s_x_InvalidProgram) (defScope s_x_InvalidProgram) .none kV_InvalidProgram doc_InvalidProgram pm_InvalidProgram an_InvalidProgram (.ref cda_InvalidProgram) cu_InvalidProgram cc_InvalidProgram), osl_InvalidProgram⟩)
    (cd_InvalidProgram : PySem.W.codeIn K (.ref cda_InvalidProgram) "InvalidProgram.__init__" = true)
    (co_InvalidProgram : K.lookup cda_InvalidProgram = some ⟨ccl_InvalidProgram, cdd_InvalidProgram, .fields vs_InvalidProgram, ccs_InvalidProgram⟩)
    (vs2_InvalidProgram : vs_InvalidProgram[2]? = some (.str file_InvalidProgram tf_InvalidProgram))
    (fi_InvalidProgram : ((l.prog.main.file : Str) == file_InvalidProgram) = true)
    (ce_InvalidProgram : K.lookup cc_InvalidProgram = some ⟨cl_InvalidProgram, cld_InvalidProgram, .cell (some (.ref C_InvalidProgram)), csl_InvalidProgram⟩)
    (ox_InvalidProgram : oexB "ValueError.__new__" vlTail K C_InvalidProgram = true)
    (sa_InvalidProgram : PySem.W.findIn K (.ref C_InvalidProgram) "__setattr__" = some (some (.builtin "object.__setattr__")))
    (be_InvalidProgram : PySem.W.subIn K (.ref C_InvalidProgram) (.type "BaseException") = some true)
    (ty_InvalidProgram : PySem.W.typeIn K (.ref C_InvalidProgram) = some (.type "type"))
    (kp_InvalidProgram : PySem.W.keepIn K (.ref C_InvalidProgram) = true)
    (nf_InvalidProgram : PySem.W.findIn K (.ref C_InvalidProgram) "word" = some none)
    (su_InvalidProgram : PySem.W.ks_superIn K C_InvalidProgram C_InvalidProgram "__init__" = some (some (.builtin "ValueError.__init__")))
    (mr_InvalidProgram : PySem.W.mroIn K C_InvalidProgram (.ref C_InvalidProgram) = some true)
    (ve_InvalidProgram : PySem.W.subIn K (.ref C_InvalidProgram) (.type "ValueError") = some true)
    (gt_InvalidProgram : PySem.W.findIn K (.ref C_InvalidProgram) "__getattribute__" = some (some (.builtin "BaseException.__getattribute__")))
    (gg_InvalidProgram : PySem.W.findIn K (.ref C_InvalidProgram) "__getattr__" = some none)
    (dd_InvalidProgram : PySem.W.hasDictIn K C_InvalidProgram = true)
    (cs_InvalidProgram : PySem.W.findIn K (.ref C_InvalidProgram) "__class__" = some (some (.builtin "object.__class__")))
    (mo_InvalidProgram : PySem.W.mroIn K C_InvalidProgram (.type "object") = some true)
    (aC_InvalidHouse : PySem.W.nsIn K mainGlobals "InvalidHouse" = some (some (.ref C_InvalidHouse)))
    (hi_InvalidHouse : PySem.W.findIn K (.ref C_InvalidHouse) "__init__" = some (some (.ref f_InvalidHouse)))
    (ht_InvalidHouse : PySem.W.typeIn K (.ref f_InvalidHouse) = some (.type "function"))
    (lk_InvalidHouse : K.lookup f_InvalidHouse = some ⟨oc_InvalidHouse, od_InvalidHouse, .func (PySem.W.ksFn "__init__" "InvalidHouse.__init__" (defArgs s_x_InvalidHouse) (defBody s_x_InvalidHouse) (defScope s_x_InvalidHouse) .none kV_InvalidHouse doc_InvalidHouse pm_InvalidHouse an_InvalidHouse (.ref cda_InvalidHouse) cu_InvalidHouse cc_InvalidHouse), osl_InvalidHouse⟩)
    (cd_InvalidHouse : PySem.W.codeIn K (.ref cda_InvalidHouse) "InvalidHouse.__init__" = true)
    (co_InvalidHouse : K.lookup cda_InvalidHouse = some ⟨ccl_InvalidHouse, cdd_InvalidHouse, .fields vs_InvalidHouse, ccs_InvalidHouse⟩)
    (vs2_InvalidHouse : vs_InvalidHouse[2]? = some (.str file_InvalidHouse tf_InvalidHouse))
    (fi_InvalidHouse : ((l.prog.main.file : Str) == file_InvalidHouse) = true)
    (ce_InvalidHouse : K.lookup cc_InvalidHouse = some ⟨cl_InvalidHouse, cld_InvalidHouse, .cell (some (.ref C_InvalidHouse)), csl_InvalidHouse⟩)
    (ox_InvalidHouse : oexB "ValueError.__new__" vlTail K C_InvalidHouse = true)
    (sa_InvalidHouse : PySem.W.findIn K (.ref C_InvalidHouse) "__setattr__" = some (some (.builtin "object.__setattr__")))
    (be_InvalidHouse : PySem.W.subIn K (.ref C_InvalidHouse) (.type "BaseException") = some true)
    (ty_InvalidHouse : PySem.W.typeIn K (.ref C_InvalidHouse) = some (.type "type"))
    (kp_InvalidHouse : PySem.W.keepIn K (.ref C_InvalidHouse) = true)
    (nf_InvalidHouse : PySem.W.findIn K (.ref C_InvalidHouse) "word" = some none)
    (su_InvalidHouse : PySem.W.ks_superIn K C_InvalidHouse C_InvalidHouse "__init__" = some (some (.builtin "ValueError.__init__")))
    (mr_InvalidHouse : PySem.W.mroIn K C_InvalidHouse (.ref C_InvalidHouse) = some true)
    (ve_InvalidHouse : PySem.W.subIn K (.ref C_InvalidHouse) (.type "ValueError") = some true)
    (gt_InvalidHouse : PySem.W.findIn K (.ref C_InvalidHouse) "__getattribute__" = some (some (.builtin "BaseException.__getattribute__")))
    (gg_InvalidHouse : PySem.W.findIn K (.ref C_InvalidHouse) "__getattr__" = some none)
    (dd_InvalidHouse : PySem.W.hasDictIn K C_InvalidHouse = true)
    (cs_InvalidHouse : PySem.W.findIn K (.ref C_InvalidHouse) "__class__" = some (some (.builtin "object.__class__")))
    (mo_InvalidHouse : PySem.W.mroIn K C_InvalidHouse (.type "object") = some true)
    (aC_InvalidRule : PySem.W.nsIn K mainGlobals "InvalidRule" = some (some (.ref C_InvalidRule)))
    (hi_InvalidRule : PySem.W.findIn K (.ref C_InvalidRule) "__init__" = some (some (.ref f_InvalidRule)))
    (ht_InvalidRule : PySem.W.typeIn K (.ref f_InvalidRule) = some (.type "function"))
    (lk_InvalidRule : K.lookup f_InvalidRule = some ⟨oc_InvalidRule, od_InvalidRule, .func (PySem.W.ksFn "__init__" "InvalidRule.__init__" (defArgs s_x_InvalidRule) (defBody s_x_InvalidRule) (defScope s_x_InvalidRule) .none kV_InvalidRule doc_InvalidRule pm_InvalidRule an_InvalidRule (.ref cda_InvalidRule) cu_InvalidRule cc_InvalidRule), osl_InvalidRule⟩)
    (cd_InvalidRule : PySem.W.codeIn K (.ref cda_InvalidRule) "InvalidRule.__init__" = true)
    (co_InvalidRule : K.lookup cda_InvalidRule = some ⟨ccl_InvalidRule, cdd_InvalidRule, .fields vs_InvalidRule, ccs_InvalidRule⟩)
    (vs2_InvalidRule : vs_InvalidRule[2]? = some (.str file_InvalidRule tf_InvalidRule))
    (fi_InvalidRule : ((l.prog.main.file : Str) == file_InvalidRule) = true)
    (ce_InvalidRule : K.lookup cc_InvalidRule = some ⟨cl_InvalidRule, cld_InvalidRule, .cell (some (.ref C_InvalidRule)), csl_InvalidRule⟩)
    (ox_InvalidRule : oexB "ValueError.__new__" vlTail K C_InvalidRule = true)
    (sa_InvalidRule : PySem.W.findIn K (.ref C_InvalidRule) "__setattr__" = some (some (.builtin "object.__setattr__")))
    (be_InvalidRule : PySem.W.subIn K (.ref C_InvalidRule) (.type "BaseException") = some true)
    (ty_InvalidRule : PySem.W.typeIn K (.ref C_InvalidRule) = some (.type "type"))
    (kp_InvalidRule : PySem.W.keepIn K (.ref C_InvalidRule) = true)
    (nf_InvalidRule : PySem.W.findIn K (.ref C_InvalidRule) "word" = some none)
    (su_InvalidRule : PySem.W.ks_superIn K C_InvalidRule C_InvalidRule "__init__" = some (some (.builtin "ValueError.__init__")))
    (mr_InvalidRule : PySem.W.mroIn K C_InvalidRule (.ref C_InvalidRule) = some true)
    (ve_InvalidRule : PySem.W.subIn K (.ref C_InvalidRule) (.type "ValueError") = some true)
    (gt_InvalidRule : PySem.W.findIn K (.ref C_InvalidRule) "__getattribute__" = some (some (.builtin "BaseException.__getattribute__")))
    (gg_InvalidRule : PySem.W.findIn K (.ref C_InvalidRule) "__getattr__" = some none)
    (dd_InvalidRule : PySem.W.hasDictIn K C_InvalidRule = true)
    (cs_InvalidRule : PySem.W.findIn K (.ref C_InvalidRule) "__class__" = some (some (.builtin "object.__class__")))
    (mo_InvalidRule : PySem.W.mroIn K C_InvalidRule (.type "object") = some true)
    (aC_InvalidTurns : PySem.W.nsIn K mainGlobals "InvalidTurns" = some (some (.ref C_InvalidTurns)))
    (hi_InvalidTurns : PySem.W.findIn K (.ref C_InvalidTurns) "__init__" = some (some (.ref f_InvalidTurns)))
    (ht_InvalidTurns : PySem.W.typeIn K (.ref f_InvalidTurns) = some (.type "function"))
    (lk_InvalidTurns : K.lookup f_InvalidTurns = some ⟨oc_InvalidTurns, od_InvalidTurns, .func (PySem.W.ksFn "__init__" "InvalidTurns.__init__" (defArgs s_x_InvalidTurns) (defBody s_x_InvalidTurns) (defScope s_x_InvalidTurns) .none kV_InvalidTurns doc_InvalidTurns pm_InvalidTurns an_InvalidTurns (.ref cda_InvalidTurns) cu_InvalidTurns cc_InvalidTurns), osl_InvalidTurns⟩)
    (cd_InvalidTurns : PySem.W.codeIn K (.ref cda_InvalidTurns) "InvalidTurns.__init__" = true)
    (co_InvalidTurns : K.lookup cda_InvalidTurns = some ⟨ccl_InvalidTurns, cdd_InvalidTurns, .fields vs_InvalidTurns, ccs_InvalidTurns⟩)
    (vs2_InvalidTurns : vs_InvalidTurns[2]? = some (.str file_InvalidTurns tf_InvalidTurns))
    (fi_InvalidTurns : ((l.prog.main.file : Str) == file_InvalidTurns) = true)
    (ce_InvalidTurns : K.lookup cc_InvalidTurns = some ⟨cl_InvalidTurns, cld_InvalidTurns, .cell (some (.ref C_InvalidTurns)), csl_InvalidTurns⟩)
    (ox_InvalidTurns : oexB "ValueError.__new__" vlTail K C_InvalidTurns = true)
    (sa_InvalidTurns : PySem.W.findIn K (.ref C_InvalidTurns) "__setattr__" = some (some (.builtin "object.__setattr__")))
    (be_InvalidTurns : PySem.W.subIn K (.ref C_InvalidTurns) (.type "BaseException") = some true)
    (ty_InvalidTurns : PySem.W.typeIn K (.ref C_InvalidTurns) = some (.type "type"))
    (kp_InvalidTurns : PySem.W.keepIn K (.ref C_InvalidTurns) = true)
    (nf_InvalidTurns : PySem.W.findIn K (.ref C_InvalidTurns) "word" = some none)
    (su_InvalidTurns : PySem.W.ks_superIn K C_InvalidTurns C_InvalidTurns "__init__" = some (some (.builtin "ValueError.__init__")))
    (mr_InvalidTurns : PySem.W.mroIn K C_InvalidTurns (.ref C_InvalidTurns) = some true)
    (ve_InvalidTurns : PySem.W.subIn K (.ref C_InvalidTurns) (.type "ValueError") = some true)
    (gt_InvalidTurns : PySem.W.findIn K (.ref C_InvalidTurns) "__getattribute__" = some (some (.builtin "BaseException.__getattribute__")))
    (gg_InvalidTurns : PySem.W.findIn K (.ref C_InvalidTurns) "__getattr__" = some none)
    (dd_InvalidTurns : PySem.W.hasDictIn K C_InvalidTurns = true)
    (cs_InvalidTurns : PySem.W.findIn K (.ref C_InvalidTurns) "__class__" = some (some (.builtin "object.__class__")))
    (mo_InvalidTurns : PySem.W.mroIn K C_InvalidTurns (.type "object") = some true)
    (em_InvalidProgram_InvalidProgram : PySem.W.exmOne K (.ref C_InvalidProgram) (.ref C_InvalidProgram) = some true)
    (em_InvalidProgram_InvalidHouse : PySem.W.exmOne K (.ref C_InvalidHouse) (.ref C_InvalidProgram) = some false)
    (em_InvalidProgram_InvalidRule : PySem.W.exmOne K (.ref C_InvalidRule) (.ref C_InvalidProgram) = some false)
    (em_InvalidProgram_InvalidTurns : PySem.W.exmOne K (.ref C_InvalidTurns) (.ref C_InvalidProgram) = some false)
    (em_InvalidHouse_InvalidProgram : PySem.W.exmOne K (.ref C_InvalidProgram) (.ref C_InvalidHouse) = some false)
    (em_InvalidHouse_InvalidHouse : PySem.W.exmOne K (.ref C_InvalidHouse) (.ref C_InvalidHouse) = some true)
    (em_InvalidHouse_InvalidRule : PySem.W.exmOne K (.ref C_InvalidRule) (.ref C_InvalidHouse) = some false)
    (em_InvalidHouse_InvalidTurns : PySem.W.exmOne K (.ref C_InvalidTurns) (.ref C_InvalidHouse) = some false)
    (em_InvalidRule_InvalidProgram : PySem.W.exmOne K (.ref C_InvalidProgram) (.ref C_InvalidRule) = some false)
    (em_InvalidRule_InvalidHouse : PySem.W.exmOne K (.ref C_InvalidHouse) (.ref C_InvalidRule) = some false)
    (em_InvalidRule_InvalidRule : PySem.W.exmOne K (.ref C_InvalidRule) (.ref C_InvalidRule) = some true)
    (em_InvalidRule_InvalidTurns : PySem.W.exmOne K (.ref C_InvalidTurns) (.ref C_InvalidRule) = some false)
    (em_InvalidTurns_InvalidProgram : PySem.W.exmOne K (.ref C_InvalidProgram) (.ref C_InvalidTurns) = some false)
    (em_InvalidTurns_InvalidHouse : PySem.W.exmOne K (.ref C_InvalidHouse) (.ref C_InvalidTurns) = some false)
    (em_InvalidTurns_InvalidRule : PySem.W.exmOne K (.ref C_InvalidRule) (.ref C_InvalidTurns) = some false)
    (em_InvalidTurns_InvalidTurns : PySem.W.exmOne K (.ref C_InvalidTurns) (.ref C_InvalidTurns) = some true)
    (xk_InvalidHouse_RoadError : PySem.W.kitOne K (.ref C_InvalidHouse) (.ref C_RoadError) = some true)
    (xk2_InvalidHouse_InvalidProgram_InvalidRule : PySem.W.kitAny K (.ref C_InvalidHouse) [.ref C_InvalidProgram, .ref C_InvalidRule] = some false) :
    LamX.LawAtS l w K (L2.CX l.prog w) 13 63 "_law_script" mg fa h := by
  have e := hfa.symm.trans (PySem.W.mg_of X G a_law)
  cases e
  let κ : Nat → Addr := fun n => [C_Program, C_Rule, C_Turns, C_House, C_InvalidProgram, C_InvalidHouse, C_InvalidRule, C_InvalidTurns, C_RoadError, tabOf K cdl].getD n 0
  have F_is_integer : FunA (Kt.mk K κ).K "is_integer" "is_integer" s_is_integer .none f_is_integer _ := funA_mk (K := ⟨K, κ⟩) l_is_integer c_is_integer
  have B_is_integer := F_is_integer.binds (K := ⟨K, κ⟩) (ps := ["value"]) (fun _ _ _ _ _ _ us hl => match us, hl with | [_], _ => rfl)
  have F_is_number : FunA (Kt.mk K κ).K "is_number" "is_number" s_is_number .none f_is_number _ := funA_mk (K := ⟨K, κ⟩) l_is_number c_is_number
  have B_is_number := F_is_number.binds (K := ⟨K, κ⟩) (ps := ["value"]) (fun _ _ _ _ _ _ us hl => match us, hl with | [_], _ => rfl)
  have F_is_sequence : FunA (Kt.mk K κ).K "is_sequence" "is_sequence" s_is_sequence .none f_is_sequence _ := funA_mk (K := ⟨K, κ⟩) l_is_sequence c_is_sequence
  have B_is_sequence := F_is_sequence.binds (K := ⟨K, κ⟩) (ps := ["value"]) (fun _ _ _ _ _ _ us hl => match us, hl with | [_], _ => rfl)
  have F_is_tuple_of : FunA (Kt.mk K κ).K "is_tuple_of" "is_tuple_of" s_is_tuple_of .none f_is_tuple_of _ := funA_mk (K := ⟨K, κ⟩) l_is_tuple_of c_is_tuple_of
  have B_is_tuple_of := F_is_tuple_of.binds (K := ⟨K, κ⟩) (ps := ["value", "size"]) (fun _ _ _ _ _ _ us hl => match us, hl with | [_, _], _ => rfl)
  have F_is_name : FunA (Kt.mk K κ).K "is_name" "is_name" s_is_name .none f_is_name _ := funA_mk (K := ⟨K, κ⟩) l_is_name c_is_name
  have B_is_name := F_is_name.binds (K := ⟨K, κ⟩) (ps := ["value"]) (fun _ _ _ _ _ _ us hl => match us, hl with | [_], _ => rfl)
  have F_number_in : FunA (Kt.mk K κ).K "number_in" "number_in" s_number_in (.ref T_number_in) f_number_in _ := funA_mk (K := ⟨K, κ⟩) l_number_in c_number_in
  have B_number_in := F_number_in.bindsD (K := ⟨K, κ⟩) (ps := ["word", "most"]) lT_number_in rfl (fun _ _ _ _ _ _ us hl => match us, hl with | [_, _], _ => ⟨_, rfl, rfl⟩)
  have Phi_number_in : PhiN ⟨K, κ⟩ _ := ⟨F_number_in.kbnD (K := ⟨K, κ⟩) (ps := ["word", "most"]) (ks := ["most"]) (ix := [0]) lT_number_in rfl (fun _ _ _ _ _ _ us ws hl hw => match us, hl, ws, hw with | [_], _, [_], _ => ⟨_, rfl, rfl⟩),
    _, [.int 4], F_number_in.bindsN (K := ⟨K, κ⟩) (ps := ["word", "most"]) lT_number_in rfl rfl (fun _ _ _ _ _ _ _ => ⟨_, rfl, rfl⟩), .cons ⟨_, rfl⟩ .nil, fun _ _ => .cons (.int _) .nil⟩
  have F_are_unlike : FunA (Kt.mk K κ).K "are_unlike" "are_unlike" s_are_unlike .none f_are_unlike _ := funA_mk (K := ⟨K, κ⟩) l_are_unlike c_are_unlike
  have B_are_unlike := F_are_unlike.binds (K := ⟨K, κ⟩) (ps := ["things"]) (fun _ _ _ _ _ _ us hl => match us, hl with | [_], _ => rfl)
  have F_is_lot_of : FunA (Kt.mk K κ).K "is_lot_of" "is_lot_of" s_is_lot_of .none f_is_lot_of _ := funA_mk (K := ⟨K, κ⟩) l_is_lot_of c_is_lot_of
  have B_is_lot_of := F_is_lot_of.binds (K := ⟨K, κ⟩) (ps := ["value", "words"]) (fun _ _ _ _ _ _ us hl => match us, hl with | [_, _], _ => rfl)
  have F_part_in : FunA (Kt.mk K κ).K "part_in" "part_in" s_part_in .none f_part_in _ := funA_mk (K := ⟨K, κ⟩) l_part_in c_part_in
  have B_part_in := F_part_in.binds (K := ⟨K, κ⟩) (ps := ["word"]) (fun _ _ _ _ _ _ us hl => match us, hl with | [_], _ => rfl)
  have F_term_in : FunA (Kt.mk K κ).K "term_in" "term_in" s_term_in .none f_term_in _ := funA_mk (K := ⟨K, κ⟩) l_term_in c_term_in
  have B_term_in := F_term_in.binds (K := ⟨K, κ⟩) (ps := ["words"]) (fun _ _ _ _ _ _ us hl => match us, hl with | [_], _ => rfl)
  have F_with_cell_in : FunA (Kt.mk K κ).K "with_cell_in" "with_cell_in" s_with_cell_in .none f_with_cell_in _ := funA_mk (K := ⟨K, κ⟩) l_with_cell_in c_with_cell_in
  have B_with_cell_in := F_with_cell_in.binds (K := ⟨K, κ⟩) (ps := ["words"]) (fun _ _ _ _ _ _ us hl => match us, hl with | [_], _ => rfl)
  have F_test_in : FunA (Kt.mk K κ).K "test_in" "test_in" s_test_in .none f_test_in _ := funA_mk (K := ⟨K, κ⟩) l_test_in c_test_in
  have B_test_in := F_test_in.binds (K := ⟨K, κ⟩) (ps := ["words"]) (fun _ _ _ _ _ _ us hl => match us, hl with | [_], _ => rfl)
  have F_term_line_in : FunA (Kt.mk K κ).K "term_line_in" "term_line_in" s_term_line_in .none f_term_line_in _ := funA_mk (K := ⟨K, κ⟩) l_term_line_in c_term_line_in
  have B_term_line_in := F_term_line_in.binds (K := ⟨K, κ⟩) (ps := ["words"]) (fun _ _ _ _ _ _ us hl => match us, hl with | [_], _ => rfl)
  have F_word_line_in : FunA (Kt.mk K κ).K "word_line_in" "word_line_in" s_word_line_in .none f_word_line_in _ := funA_mk (K := ⟨K, κ⟩) l_word_line_in c_word_line_in
  have B_word_line_in := F_word_line_in.binds (K := ⟨K, κ⟩) (ps := ["words"]) (fun _ _ _ _ _ _ us hl => match us, hl with | [_], _ => rfl)
  have F_step_in : FunA (Kt.mk K κ).K "step_in" "step_in" s_step_in .none f_step_in _ := funA_mk (K := ⟨K, κ⟩) l_step_in c_step_in
  have B_step_in := F_step_in.binds (K := ⟨K, κ⟩) (ps := ["line"]) (fun _ _ _ _ _ _ us hl => match us, hl with | [_], _ => rfl)
  have F_steps_in : FunA (Kt.mk K κ).K "steps_in" "steps_in" s_steps_in .none f_steps_in _ := funA_mk (K := ⟨K, κ⟩) l_steps_in c_steps_in
  have B_steps_in := F_steps_in.binds (K := ⟨K, κ⟩) (ps := ["value"]) (fun _ _ _ _ _ _ us hl => match us, hl with | [_], _ => rfl)
  have F_lot_of : FunA (Kt.mk K κ).K "lot_of" "lot_of" s_lot_of .none f_lot_of _ := funA_mk (K := ⟨K, κ⟩) l_lot_of c_lot_of
  have B_lot_of := F_lot_of.binds (K := ⟨K, κ⟩) (ps := ["things"]) (fun _ _ _ _ _ _ us hl => match us, hl with | [_], _ => rfl)
  have F_pinit : FunA (Kt.mk K κ).K "__init__" "Program.__init__" s_pinit .none f_pinit _ := funA_mk (K := ⟨K, κ⟩) l_pinit c_pinit
  have B_pinit := F_pinit.binds (K := ⟨K, κ⟩) (ps := ["self", "name", "lines"]) (fun _ _ _ _ _ _ us hl => match us, hl with | [_, _, _], _ => rfl)
  have F_is_lot : FunA (Kt.mk K κ).K "is_lot" "is_lot" s_is_lot .none f_is_lot _ := funA_mk (K := ⟨K, κ⟩) l_is_lot c_is_lot
  have B_is_lot := F_is_lot.binds (K := ⟨K, κ⟩) (ps := ["value"]) (fun _ _ _ _ _ _ us hl => match us, hl with | [_], _ => rfl)
  have F_rinit : FunA (Kt.mk K κ).K "__init__" "Rule.__init__" s_rinit (.ref T_rinit) f_rinit _ := funA_mk (K := ⟨K, κ⟩) l_rinit c_rinit
  have B_rinit := F_rinit.bindsD (K := ⟨K, κ⟩) (ps := ["self", "sees", "looks", "takes"]) lT_rinit rfl (fun _ _ _ _ _ _ us hl => match us, hl with | [_, _, _, _], _ => ⟨_, rfl, rfl⟩)
  have Phi_Rule : PhiR ⟨K, κ⟩ _ := ⟨_, [.ref a_E0, .ref a_E1], FunA.bindsM (K := ⟨K, κ⟩) (ps := ["self", "sees", "looks", "takes"]) 2 F_rinit lT_rinit rfl rfl (fun _ _ _ _ _ _ us hl => match us, hl with | [_, _], _ => ⟨_, rfl, rfl⟩), .cons rfl (.cons rfl .nil), fun _ _ => .cons (.tup (sqT_k (xs := []) lk_E0 (Nat.le_of_ble_eq_true rfl) .nil) .nil) (.cons (.tup (sqT_k (xs := []) lk_E1 (Nat.le_of_ble_eq_true rfl) .nil) .nil) .nil)⟩
  have F_tinit : FunA (Kt.mk K κ).K "__init__" "Turns.__init__" s_tinit (.ref T_tinit) f_tinit _ := funA_mk (K := ⟨K, κ⟩) l_tinit c_tinit
  have B_tinit := F_tinit.bindsD (K := ⟨K, κ⟩) (ps := ["self", "ranked", "lent", "fair"]) lT_tinit rfl (fun _ _ _ _ _ _ us hl => match us, hl with | [_, _, _, _], _ => ⟨_, rfl, rfl⟩)
  have Phi_Turns : PhiT ⟨K, κ⟩ _ := ⟨_, [.bl false, .bl false, .non], F_tinit.bindsN (K := ⟨K, κ⟩) (ps := ["self", "ranked", "lent", "fair"]) lT_tinit rfl rfl (fun _ _ _ _ _ _ _ => ⟨_, rfl, rfl⟩), .cons rfl (.cons rfl (.cons rfl .nil)), fun _ _ => .cons (.bl _) (.cons (.bl _) (.cons .non .nil))⟩
  have F_are_cells : FunA (Kt.mk K κ).K "are_cells" "are_cells" s_are_cells .none f_are_cells _ := funA_mk (K := ⟨K, κ⟩) l_are_cells c_are_cells
  have B_are_cells := F_are_cells.binds (K := ⟨K, κ⟩) (ps := ["value"]) (fun _ _ _ _ _ _ us hl => match us, hl with | [_], _ => rfl)
  have F_goes_with : FunA (Kt.mk K κ).K "goes_with" "goes_with" s_goes_with .none f_goes_with _ := funA_mk (K := ⟨K, κ⟩) l_goes_with c_goes_with
  have B_goes_with := F_goes_with.binds (K := ⟨K, κ⟩) (ps := ["program", "sizes"]) (fun _ _ _ _ _ _ us hl => match us, hl with | [_, _], _ => rfl)
  have F_are_programs : FunA (Kt.mk K κ).K "are_programs" "are_programs" s_are_programs .none f_are_programs _ := funA_mk (K := ⟨K, κ⟩) l_are_programs c_are_programs
  have B_are_programs := F_are_programs.binds (K := ⟨K, κ⟩) (ps := ["value", "cells"]) (fun _ _ _ _ _ _ us hl => match us, hl with | [_, _], _ => rfl)
  have F_hinit : FunA (Kt.mk K κ).K "__init__" "House.__init__" s_hinit (.ref T_hinit) f_hinit _ := funA_mk (K := ⟨K, κ⟩) l_hinit c_hinit
  have B_hinit := F_hinit.bindsD (K := ⟨K, κ⟩) (ps := ["self", "cells", "programs", "rule", "log", "tells", "turns"]) lT_hinit rfl (fun _ _ _ _ _ _ us hl => match us, hl with | [_, _, _, _, _, _, _], _ => ⟨_, rfl, rfl⟩)
  have F_wprog : FunA (Kt.mk K κ).K "with_program" "House.with_program" s_wprog .none f_wprog _ := funA_mk (K := ⟨K, κ⟩) l_wprog c_wprog
  have B_wprog := F_wprog.binds (K := ⟨K, κ⟩) (ps := ["self", "program"]) (fun _ _ _ _ _ _ us hl => match us, hl with | [_, _], _ => rfl)
  have F_wrule : FunA (Kt.mk K κ).K "with_rule" "House.with_rule" s_wrule .none f_wrule _ := funA_mk (K := ⟨K, κ⟩) l_wrule c_wrule
  have B_wrule := F_wrule.binds (K := ⟨K, κ⟩) (ps := ["self", "rule"]) (fun _ _ _ _ _ _ us hl => match us, hl with | [_, _], _ => rfl)
  have F_wlog : FunA (Kt.mk K κ).K "with_log" "House.with_log" s_wlog .none f_wlog _ := funA_mk (K := ⟨K, κ⟩) l_wlog c_wlog
  have B_wlog := F_wlog.binds (K := ⟨K, κ⟩) (ps := ["self", "log"]) (fun _ _ _ _ _ _ us hl => match us, hl with | [_, _], _ => rfl)
  have F_wtells : FunA (Kt.mk K κ).K "with_tells" "House.with_tells" s_wtells .none f_wtells _ := funA_mk (K := ⟨K, κ⟩) l_wtells c_wtells
  have B_wtells := F_wtells.binds (K := ⟨K, κ⟩) (ps := ["self", "tells"]) (fun _ _ _ _ _ _ us hl => match us, hl with | [_, _], _ => rfl)
  have F_wturns : FunA (Kt.mk K κ).K "with_turns" "House.with_turns" s_wturns .none f_wturns _ := funA_mk (K := ⟨K, κ⟩) l_wturns c_wturns
  have B_wturns := F_wturns.binds (K := ⟨K, κ⟩) (ps := ["self", "turns"]) (fun _ _ _ _ _ _ us hl => match us, hl with | [_, _], _ => rfl)
  have F_deal : FunA (Kt.mk K κ).K "_law_deal" "_law_deal" s_deal .none f_deal _ := funA_mk (K := ⟨K, κ⟩) l_deal c_deal
  have B_deal := F_deal.binds (K := ⟨K, κ⟩) (ps := ["_law_script", "_law_base"]) (fun _ _ _ _ _ _ us hl => match us, hl with | [_, _], _ => rfl)
  have F_draw : FunA (Kt.mk K κ).K "_law_draw" "_law_draw" s_draw .none f_draw _ := funA_mk (K := ⟨K, κ⟩) l_draw c_draw
  have B_draw := F_draw.binds (K := ⟨K, κ⟩) (ps := ["_law_deal_here", "_law_bound"]) (fun _ _ _ _ _ _ us hl => match us, hl with | [_, _], _ => rfl)
  have F_pick : FunA (Kt.mk K κ).K "_law_pick" "_law_pick" s_pick .none f_pick _ := funA_mk (K := ⟨K, κ⟩) l_pick c_pick
  have B_pick := F_pick.binds (K := ⟨K, κ⟩) (ps := ["_law_deal_here", "_law_some"]) (fun _ _ _ _ _ _ us hl => match us, hl with | [_, _], _ => rfl)
  have F_thing : FunA (Kt.mk K κ).K "_law_thing" "_law_thing" s_thing .none f_thing _ := funA_mk (K := ⟨K, κ⟩) l_thing c_thing
  have B_thing := F_thing.binds (K := ⟨K, κ⟩) (ps := ["_law_deal_here", "_law_deep"]) (fun _ _ _ _ _ _ us hl => match us, hl with | [_, _], _ => rfl)
  have F_heard : FunA (Kt.mk K κ).K "_law_heard" "_law_heard" s_heard .none f_heard _ := funA_mk (K := ⟨K, κ⟩) l_heard c_heard
  have B_heard := F_heard.binds (K := ⟨K, κ⟩) (ps := ["_law_work_here"]) (fun _ _ _ _ _ _ us hl => match us, hl with | [_], _ => rfl)
  have F_bad : FunA (Kt.mk K κ).K "_law_bad" "_law_bad" s_bad .none f_bad _ := funA_mk (K := ⟨K, κ⟩) l_bad c_bad
  have B_bad := F_bad.binds (K := ⟨K, κ⟩) (ps := ["_law_deal_here", "_law_spot"]) (fun _ _ _ _ _ _ us hl => match us, hl with | [_, _], _ => rfl)
  have F_made : FunA (Kt.mk K κ).K "_law_made" "_law_made" s_made .none f_made _ := funA_mk (K := ⟨K, κ⟩) l_made c_made
  have B_made := F_made.binds (K := ⟨K, κ⟩) (ps := ["_law_parts"]) (fun _ _ _ _ _ _ us hl => match us, hl with | [_], _ => rfl)
  have X_InvalidProgram := fun base : Heap => mkx_InvalidProgram (P := l.prog) (w := w) (K := ⟨K, κ⟩) (mg := mg) (base := base) lk_InvalidProgram cd_InvalidProgram co_InvalidProgram vs2_InvalidProgram fi_InvalidProgram ce_InvalidProgram (oex_of ox_InvalidProgram sa_InvalidProgram be_InvalidProgram ty_InvalidProgram kp_InvalidProgram) nf_InvalidProgram su_InvalidProgram mr_InvalidProgram ve_InvalidProgram any_tp (PySem.W.mg_none_of X G z_super) top_super (PySem.W.mg_of X G aC_InvalidProgram) hi_InvalidProgram ht_InvalidProgram
  have X_InvalidHouse := fun base : Heap => mkx_InvalidHouse (P := l.prog) (w := w) (K := ⟨K, κ⟩) (mg := mg) (base := base) lk_InvalidHouse cd_InvalidHouse co_InvalidHouse vs2_InvalidHouse fi_InvalidHouse ce_InvalidHouse (oex_of ox_InvalidHouse sa_InvalidHouse be_InvalidHouse ty_InvalidHouse kp_InvalidHouse) nf_InvalidHouse su_InvalidHouse mr_InvalidHouse ve_InvalidHouse any_tp (PySem.W.mg_none_of X G z_super) top_super (PySem.W.mg_of X G aC_InvalidHouse) hi_InvalidHouse ht_InvalidHouse
  have X_InvalidRule := fun base : Heap => mkx_InvalidRule (P := l.prog) (w := w) (K := ⟨K, κ⟩) (mg := mg) (base := base) lk_InvalidRule cd_InvalidRule co_InvalidRule vs2_InvalidRule fi_InvalidRule ce_InvalidRule (oex_of ox_InvalidRule sa_InvalidRule be_InvalidRule ty_InvalidRule kp_InvalidRule) nf_InvalidRule su_InvalidRule mr_InvalidRule ve_InvalidRule any_tp (PySem.W.mg_none_of X G z_super) top_super (PySem.W.mg_of X G aC_InvalidRule) hi_InvalidRule ht_InvalidRule
  have X_InvalidTurns := fun base : Heap => mkx_InvalidTurns (P := l.prog) (w := w) (K := ⟨K, κ⟩) (mg := mg) (base := base) lk_InvalidTurns cd_InvalidTurns co_InvalidTurns vs2_InvalidTurns fi_InvalidTurns ce_InvalidTurns (oex_of ox_InvalidTurns sa_InvalidTurns be_InvalidTurns ty_InvalidTurns kp_InvalidTurns) nf_InvalidTurns su_InvalidTurns mr_InvalidTurns ve_InvalidTurns any_tp (PySem.W.mg_none_of X G z_super) top_super (PySem.W.mg_of X G aC_InvalidTurns) hi_InvalidTurns ht_InvalidTurns
  have IC_Program : InsC K C_Program := ⟨⟨pg_Program, hd_Program, po_Program, sa_Program⟩, ic_Program, in2, in3, im_Program⟩
  have IC_Rule : InsC K C_Rule := ⟨⟨pg_Rule, hd_Rule, po_Rule, sa_Rule⟩, ic_Rule, in2, in3, im_Rule⟩
  have IC_Turns : InsC K C_Turns := ⟨⟨pg_Turns, hd_Turns, po_Turns, sa_Turns⟩, ic_Turns, in2, in3, im_Turns⟩
  have T : Tx ⟨K, κ⟩ mg := { b_len := PySem.W.mg_none_of X G z_len, b_int := PySem.W.mg_none_of X G z_int, b_bool := PySem.W.mg_none_of X G z_bool, b_abs := PySem.W.mg_none_of X G z_abs, b_isinstance := PySem.W.mg_none_of X G z_isinstance, b_str := PySem.W.mg_none_of X G z_str, b_all := PySem.W.mg_none_of X G z_all, b_list := PySem.W.mg_none_of X G z_list, b_tuple := PySem.W.mg_none_of X G z_tuple, b_set := PySem.W.mg_none_of X G z_set, b_sorted := PySem.W.mg_none_of X G z_sorted, b_range := PySem.W.mg_none_of X G z_range, b_enumerate := PySem.W.mg_none_of X G z_enumerate, b_super := PySem.W.mg_none_of X G z_super, b_dict := PySem.W.mg_none_of X G z_dict, f_Program_name := ⟨⟨pg_Program, hd_Program, po_Program, sa_Program⟩, nF_Program_name⟩, f_Program_lines := ⟨⟨pg_Program, hd_Program, po_Program, sa_Program⟩, nF_Program_lines⟩, f_Program_steps := ⟨⟨pg_Program, hd_Program, po_Program, sa_Program⟩, nF_Program_steps⟩, f_Program_cells := ⟨⟨pg_Program, hd_Program, po_Program, sa_Program⟩, nF_Program_cells⟩, f_Program_locks := ⟨⟨pg_Program, hd_Program, po_Program, sa_Program⟩, nF_Program_locks⟩, f_Rule_sees := ⟨⟨pg_Rule, hd_Rule, po_Rule, sa_Rule⟩, nF_Rule_sees⟩, f_Rule_looks := ⟨⟨pg_Rule, hd_Rule, po_Rule, sa_Rule⟩, nF_Rule_looks⟩, f_Rule_takes := ⟨⟨pg_Rule, hd_Rule, po_Rule, sa_Rule⟩, nF_Rule_takes⟩, f_Turns_ranked := ⟨⟨pg_Turns, hd_Turns, po_Turns, sa_Turns⟩, nF_Turns_ranked⟩, f_Turns_lent := ⟨⟨pg_Turns, hd_Turns, po_Turns, sa_Turns⟩, nF_Turns_lent⟩, f_Turns_fair := ⟨⟨pg_Turns, hd_Turns, po_Turns, sa_Turns⟩, nF_Turns_fair⟩, f_House_cells := ⟨⟨pg_House, hd_House, po_House, sa_House⟩, nF_House_cells⟩, f_House_programs := ⟨⟨pg_House, hd_House, po_House, sa_House⟩, nF_House_programs⟩, f_House_rule := ⟨⟨pg_House, hd_House, po_House, sa_House⟩, nF_House_rule⟩, f_House_log := ⟨⟨pg_House, hd_House, po_House, sa_House⟩, nF_House_log⟩, f_House_tells := ⟨⟨pg_House, hd_House, po_House, sa_House⟩, nF_House_tells⟩, f_House_turns := ⟨⟨pg_House, hd_House, po_House, sa_House⟩, nF_House_turns⟩, f_House_places := ⟨⟨pg_House, hd_House, po_House, sa_House⟩, nF_House_places⟩, f_House_sizes := ⟨⟨pg_House, hd_House, po_House, sa_House⟩, nF_House_sizes⟩, f_House_named := ⟨⟨pg_House, hd_House, po_House, sa_House⟩, nF_House_named⟩, t_is_integer := ⟨f_is_integer, _, PySem.W.mg_of X G a_is_integer, k_is_integer, F_is_integer, B_is_integer⟩, t_is_number := ⟨f_is_number, _, PySem.W.mg_of X G a_is_number, k_is_number, F_is_number, B_is_number⟩, t_is_sequence := ⟨f_is_sequence, _, PySem.W.mg_of X G a_is_sequence, k_is_sequence, F_is_sequence, B_is_sequence⟩, t_is_tuple_of := ⟨f_is_tuple_of, _, PySem.W.mg_of X G a_is_tuple_of, k_is_tuple_of, F_is_tuple_of, B_is_tuple_of⟩, t_is_name := ⟨f_is_name, _, PySem.W.mg_of X G a_is_name, k_is_name, F_is_name, B_is_name⟩, t_number_in := ⟨f_number_in, _, PySem.W.mg_of X G a_number_in, k_number_in, ⟨_, F_number_in⟩, B_number_in, Phi_number_in⟩, t_are_unlike := ⟨f_are_unlike, _, PySem.W.mg_of X G a_are_unlike, k_are_unlike, F_are_unlike, B_are_unlike⟩, t_is_lot_of := ⟨f_is_lot_of, _, PySem.W.mg_of X G a_is_lot_of, k_is_lot_of, F_is_lot_of, B_is_lot_of⟩, t_part_in := ⟨f_part_in, _, PySem.W.mg_of X G a_part_in, k_part_in, F_part_in, B_part_in⟩, t_term_in := ⟨f_term_in, _, PySem.W.mg_of X G a_term_in, k_term_in, F_term_in, B_term_in⟩, t_with_cell_in := ⟨f_with_cell_in, _, PySem.W.mg_of X G a_with_cell_in, k_with_cell_in, F_with_cell_in, B_with_cell_in⟩, t_test_in := ⟨f_test_in, _, PySem.W.mg_of X G a_test_in, k_test_in, F_test_in, B_test_in⟩, t_term_line_in := ⟨f_term_line_in, _, PySem.W.mg_of X G a_term_line_in, k_term_line_in, F_term_line_in, B_term_line_in⟩, t_word_line_in := ⟨f_word_line_in, _, PySem.W.mg_of X G a_word_line_in, k_word_line_in, F_word_line_in, B_word_line_in⟩, t_step_in := ⟨f_step_in, _, PySem.W.mg_of X G a_step_in, k_step_in, F_step_in, B_step_in⟩, t_steps_in := ⟨f_steps_in, _, PySem.W.mg_of X G a_steps_in, k_steps_in, F_steps_in, B_steps_in⟩, t_lot_of := ⟨f_lot_of, _, PySem.W.mg_of X G a_lot_of, k_lot_of, F_lot_of, B_lot_of⟩, t_pinit := ⟨f_pinit, _, PySem.W.mg_of X G aC_Program, ⟨mk_Program, a_pinit, i_pinit, kc_Program⟩, ⟨_, F_pinit⟩, B_pinit⟩, t_is_lot := ⟨f_is_lot, _, PySem.W.mg_of X G a_is_lot, k_is_lot, F_is_lot, B_is_lot⟩, t_rinit := ⟨f_rinit, _, PySem.W.mg_of X G aC_Rule, ⟨mk_Rule, a_rinit, i_rinit, kc_Rule⟩, ⟨_, F_rinit⟩, B_rinit, Phi_Rule⟩, t_tinit := ⟨f_tinit, _, PySem.W.mg_of X G aC_Turns, ⟨mk_Turns, a_tinit, i_tinit, kc_Turns⟩, ⟨_, F_tinit⟩, B_tinit, Phi_Turns⟩, t_are_cells := ⟨f_are_cells, _, PySem.W.mg_of X G a_are_cells, k_are_cells, F_are_cells, B_are_cells⟩, t_goes_with := ⟨f_goes_with, _, PySem.W.mg_of X G a_goes_with, k_goes_with, F_goes_with, B_goes_with⟩, t_are_programs := ⟨f_are_programs, _, PySem.W.mg_of X G a_are_programs, k_are_programs, F_are_programs, B_are_programs⟩, t_hinit := ⟨f_hinit, _, PySem.W.mg_of X G aC_House, ⟨mk_House, a_hinit, i_hinit, kc_House⟩, ⟨_, F_hinit⟩, B_hinit⟩, t_wprog := ⟨f_wprog, _, a_wprog, i_wprog, F_wprog, B_wprog⟩, t_wrule := ⟨f_wrule, _, a_wrule, i_wrule, F_wrule, B_wrule⟩, t_wlog := ⟨f_wlog, _, a_wlog, i_wlog, F_wlog, B_wlog⟩, t_wtells := ⟨f_wtells, _, a_wtells, i_wtells, F_wtells, B_wtells⟩, t_wturns := ⟨f_wturns, _, a_wturns, i_wturns, F_wturns, B_wturns⟩, t_deal := ⟨f_deal, _, PySem.W.mg_of X G a_deal, k_deal, F_deal, B_deal⟩, t_draw := ⟨f_draw, _, PySem.W.mg_of X G a_draw, k_draw, F_draw, B_draw⟩, t_pick := ⟨f_pick, _, PySem.W.mg_of X G a_pick, k_pick, F_pick, B_pick⟩, t_thing := ⟨f_thing, _, PySem.W.mg_of X G a_thing, k_thing, F_thing, B_thing⟩, t_heard := ⟨f_heard, _, PySem.W.mg_of X G a_heard, k_heard, F_heard, B_heard⟩, t_bad := ⟨f_bad, _, PySem.W.mg_of X G a_bad, k_bad, F_bad, B_bad⟩, t_made := ⟨f_made, _, PySem.W.mg_of X G a_made, k_made, F_made, B_made⟩, xm_InvalidProgram := PySem.W.mg_of X G aC_InvalidProgram, xm_InvalidHouse := PySem.W.mg_of X G aC_InvalidHouse, xm_InvalidRule := PySem.W.mg_of X G aC_InvalidRule, xm_InvalidTurns := PySem.W.mg_of X G aC_InvalidTurns, xm_RoadError := PySem.W.mg_of X G aC_RoadError, ct_InvalidProgram := catch_InvalidProgram em_InvalidProgram_InvalidProgram em_InvalidProgram_InvalidHouse em_InvalidProgram_InvalidRule em_InvalidProgram_InvalidTurns, xf_InvalidProgram := ⟨gt_InvalidProgram, gg_InvalidProgram, be_InvalidProgram, dd_InvalidProgram⟩, xn_InvalidProgram := nf_InvalidProgram, xe_InvalidProgram := ⟨gt_InvalidProgram, gg_InvalidProgram, be_InvalidProgram, dd_InvalidProgram, cs_InvalidProgram, in2, in3, mo_InvalidProgram⟩, ct_InvalidHouse := catch_InvalidHouse em_InvalidHouse_InvalidHouse em_InvalidHouse_InvalidProgram em_InvalidHouse_InvalidRule em_InvalidHouse_InvalidTurns, xf_InvalidHouse := ⟨gt_InvalidHouse, gg_InvalidHouse, be_InvalidHouse, dd_InvalidHouse⟩, xn_InvalidHouse := nf_InvalidHouse, xe_InvalidHouse := ⟨gt_InvalidHouse, gg_InvalidHouse, be_InvalidHouse, dd_InvalidHouse, cs_InvalidHouse, in2, in3, mo_InvalidHouse⟩, ct_InvalidRule := catch_InvalidRule em_InvalidRule_InvalidRule em_InvalidRule_InvalidProgram em_InvalidRule_InvalidHouse em_InvalidRule_InvalidTurns, xf_InvalidRule := ⟨gt_InvalidRule, gg_InvalidRule, be_InvalidRule, dd_InvalidRule⟩, xn_InvalidRule := nf_InvalidRule, xe_InvalidRule := ⟨gt_InvalidRule, gg_InvalidRule, be_InvalidRule, dd_InvalidRule, cs_InvalidRule, in2, in3, mo_InvalidRule⟩, ct_InvalidTurns := catch_InvalidTurns em_InvalidTurns_InvalidTurns em_InvalidTurns_InvalidProgram em_InvalidTurns_InvalidHouse em_InvalidTurns_InvalidRule, xf_InvalidTurns := ⟨gt_InvalidTurns, gg_InvalidTurns, be_InvalidTurns, dd_InvalidTurns⟩, xn_InvalidTurns := nf_InvalidTurns, xe_InvalidTurns := ⟨gt_InvalidTurns, gg_InvalidTurns, be_InvalidTurns, dd_InvalidTurns, cs_InvalidTurns, in2, in3, mo_InvalidTurns⟩, xk_InvalidHouse_RoadError := xk_InvalidHouse_RoadError, xk2_InvalidHouse_InvalidProgram_InvalidRule := xk2_InvalidHouse_InvalidProgram_InvalidRule, km_with_program := (fun f e => by have z := e.symm.trans a_wprog; cases z; exact k_wprog), km_with_rule := (fun f e => by have z := e.symm.trans a_wrule; cases z; exact k_wrule), km_with_log := (fun f e => by have z := e.symm.trans a_wlog; cases z; exact k_wlog), km_with_tells := (fun f e => by have z := e.symm.trans a_wtells; cases z; exact k_wtells), km_with_turns := (fun f e => by have z := e.symm.trans a_wturns; cases z; exact k_wturns), seqc := ansTC_ok (K := ⟨K, κ⟩) (Ts := ["list", "tuple"]) (cs := [0, 1, 2]) (fun C hC => by simp only [List.mem_cons, List.not_mem_nil, or_false] at hC; rcases hC with rfl | rfl | rfl; exact ⟨sq_Program, IC_Program⟩; exact ⟨sq_Rule, IC_Rule⟩; exact ⟨sq_Turns, IC_Turns⟩), ao_Program := ansOC_ok (K := ⟨K, κ⟩) (c0 := 0) (cs := [1, 2]) (fun n hn => by simp only [tyNames, List.mem_cons, List.not_mem_nil, or_false] at hn; rcases hn with rfl | rfl | rfl | rfl | rfl | rfl; exact ko_Program_NoneType; exact ko_Program_bool; exact ko_Program_int; exact ko_Program_str; exact ko_Program_tuple; exact ko_Program_list) IC_Program (fun C hC => by simp only [List.mem_cons, List.not_mem_nil, or_false] at hC; rcases hC with rfl | rfl; exact ⟨kc_Rule_Program, IC_Rule⟩; exact ⟨kc_Turns_Program, IC_Turns⟩), xm_Program := PySem.W.mg_of X G aC_Program, ao_Rule := ansOC_ok (K := ⟨K, κ⟩) (c0 := 1) (cs := [0, 2]) (fun n hn => by simp only [tyNames, List.mem_cons, List.not_mem_nil, or_false] at hn; rcases hn with rfl | rfl | rfl | rfl | rfl | rfl; exact ko_Rule_NoneType; exact ko_Rule_bool; exact ko_Rule_int; exact ko_Rule_str; exact ko_Rule_tuple; exact ko_Rule_list) IC_Rule (fun C hC => by simp only [List.mem_cons, List.not_mem_nil, or_false] at hC; rcases hC with rfl | rfl; exact ⟨kc_Program_Rule, IC_Program⟩; exact ⟨kc_Turns_Rule, IC_Turns⟩), xm_Rule := PySem.W.mg_of X G aC_Rule, ao_Turns := ansOC_ok (K := ⟨K, κ⟩) (c0 := 2) (cs := [0, 1]) (fun n hn => by simp only [tyNames, List.mem_cons, List.not_mem_nil, or_false] at hn; rcases hn with rfl | rfl | rfl | rfl | rfl | rfl; exact ko_Turns_NoneType; exact ko_Turns_bool; exact ko_Turns_int; exact ko_Turns_str; exact ko_Turns_tuple; exact ko_Turns_list) IC_Turns (fun C hC => by simp only [List.mem_cons, List.not_mem_nil, or_false] at hC; rcases hC with rfl | rfl; exact ⟨kc_Program_Turns, IC_Program⟩; exact ⟨kc_Rule_Turns, IC_Rule⟩), xm_Turns := PySem.W.mg_of X G aC_Turns, c_LETTERS := ⟨.str "abcdefghijklmnopqrstuvwxyz", _, PySem.W.mg_of X G cv_LETTERS, ⟨_, rfl⟩, fun _ _ => .str _⟩, c_DIGITS := ⟨.str "0123456789", _, PySem.W.mg_of X G cv_DIGITS, ⟨_, rfl⟩, fun _ _ => .str _⟩, c_GETS := ⟨.str "gets", _, PySem.W.mg_of X G cv_GETS, ⟨_, rfl⟩, fun _ _ => .str _⟩, c_PUTS := ⟨.str "puts", _, PySem.W.mg_of X G cv_PUTS, ⟨_, rfl⟩, fun _ _ => .str _⟩, c_FOUR := ⟨.int 4, _, PySem.W.mg_of X G cv_FOUR, ⟨_, rfl⟩, fun _ _ => .int _⟩, c_BARRED := ⟨.ref a_BARRED, _, PySem.W.mg_of X G cv_BARRED, rfl, fun _ _ => .tup (sqT_k (xs := [.str "hold", .str "done", .str "get", .str "put", .str "let", .str "if", .str "else", .str "go", .str "lock", .str "free", .str "tell", .str "end", .str "x", .str "y"]) lk_BARRED (Nat.le_of_ble_eq_true rfl) (.cons ⟨_, rfl⟩ (.cons ⟨_, rfl⟩ (.cons ⟨_, rfl⟩ (.cons ⟨_, rfl⟩ (.cons ⟨_, rfl⟩ (.cons ⟨_, rfl⟩ (.cons ⟨_, rfl⟩ (.cons ⟨_, rfl⟩ (.cons ⟨_, rfl⟩ (.cons ⟨_, rfl⟩ (.cons ⟨_, rfl⟩ (.cons ⟨_, rfl⟩ (.cons ⟨_, rfl⟩ (.cons ⟨_, rfl⟩ .nil))))))))))))))) (.cons (.str _) (.cons (.str _) (.cons (.str _) (.cons (.str _) (.cons (.str _) (.cons (.str _) (.cons (.str _) (.cons (.str _) (.cons (.str _) (.cons (.str _) (.cons (.str _) (.cons (.str _) (.cons (.str _) (.cons (.str _) .nil))))))))))))))⟩, c_REGISTERS := ⟨.ref a_REGISTERS, _, PySem.W.mg_of X G cv_REGISTERS, rfl, fun _ _ => .tup (sqT_k (xs := [.str "x", .str "y"]) lk_REGISTERS (Nat.le_of_ble_eq_true rfl) (.cons ⟨_, rfl⟩ (.cons ⟨_, rfl⟩ .nil))) (.cons (.str _) (.cons (.str _) .nil))⟩, c_SINGLE := ⟨.ref a_SINGLE, _, PySem.W.mg_of X G cv_SINGLE, rfl, fun _ _ => .tup (sqT_k (xs := [.str "hold", .str "done", .str "end"]) lk_SINGLE (Nat.le_of_ble_eq_true rfl) (.cons ⟨_, rfl⟩ (.cons ⟨_, rfl⟩ (.cons ⟨_, rfl⟩ .nil)))) (.cons (.str _) (.cons (.str _) (.cons (.str _) .nil)))⟩, c_SIGHTS := ⟨.ref a_SIGHTS, _, PySem.W.mg_of X G cv_SIGHTS, rfl, fun _ _ => .tup (sqT_k (xs := [.str "begin", .str "now"]) lk_SIGHTS (Nat.le_of_ble_eq_true rfl) (.cons ⟨_, rfl⟩ (.cons ⟨_, rfl⟩ .nil))) (.cons (.str _) (.cons (.str _) .nil))⟩, c_LOG := ⟨.ref a_LOG, _, PySem.W.mg_of X G cv_LOG, rfl, fun _ _ => .tup (sqT_k (xs := [.str "late", .str "marks", .str "places"]) lk_LOG (Nat.le_of_ble_eq_true rfl) (.cons ⟨_, rfl⟩ (.cons ⟨_, rfl⟩ (.cons ⟨_, rfl⟩ .nil)))) (.cons (.str _) (.cons (.str _) (.cons (.str _) .nil)))⟩, c_TELLS := ⟨.ref a_TELLS, _, PySem.W.mg_of X G cv_TELLS, rfl, fun _ _ => .tup (sqT_k (xs := [.str "soon", .str "own", .str "firm"]) lk_TELLS (Nat.le_of_ble_eq_true rfl) (.cons ⟨_, rfl⟩ (.cons ⟨_, rfl⟩ (.cons ⟨_, rfl⟩ .nil)))) (.cons (.str _) (.cons (.str _) (.cons (.str _) .nil)))⟩ }
  refine ⟨PySem.W.fnOf "law" "law" (defArgs s_law) (defBody s_law) (defScope s_law) .none kV_law dc_law pm_law an_law (.ref cdl) ct_law, [(cdl, tabOf K cdl)], spF ⟨K, κ⟩ 1 (runF 9 b_law), ?_, ?_, ?_, fun s v => .of_eq rfl, ?_, ?_⟩
  · intro p hp; rw [List.mem_singleton.mp hp]; exact tb_law
  · intro p hp; rw [List.mem_singleton.mp hp]; exact nt_law
  · intro p hp; rw [List.mem_singleton.mp hp]; exact PySem.W.codeHd_of_K X ch_law
  · exact fun H a ns hl _ hT hs => law_preT (K := ⟨K, κ⟩) (t := 9) (q := (("law" : Str) ++ (".<locals>." : Str)) ++ ("<lambda>" : Str)) law_true H a ns hl (hT _ (List.mem_singleton.mpr rfl)) hs
  intro base _ _ hTB
  have D_is_integer := fun base : Heap => ok1_is_integer (P := l.prog) (w := w) (base := base) T 
  have D_is_number := fun base : Heap => ok1_is_number (P := l.prog) (w := w) (base := base) T (D_is_integer base)
  have D_is_sequence := fun base : Heap => ok1_is_sequence (P := l.prog) (w := w) (base := base) T 
  have D_is_tuple_of := fun base : Heap => ok1_is_tuple_of (P := l.prog) (w := w) (base := base) T 
  have D_is_name := fun base : Heap => ok1_is_name (P := l.prog) (w := w) (base := base) T 
  have D_number_in := fun base : Heap => ok1_number_in (P := l.prog) (w := w) (base := base) T 
  have D_are_unlike := fun base : Heap => ok1_are_unlike (P := l.prog) (w := w) (base := base) T 
  have D_is_lot_of := fun base : Heap => ok1_is_lot_of (P := l.prog) (w := w) (base := base) T (D_is_sequence base) (D_are_unlike base)
  have D_part_in := fun base : Heap => ok1_part_in (P := l.prog) (w := w) (base := base) T (D_number_in base)
  have D_term_in := fun base : Heap => ok1_term_in (P := l.prog) (w := w) (base := base) T (D_part_in base)
  have D_with_cell_in := fun base : Heap => ok1_with_cell_in (P := l.prog) (w := w) (base := base) T (D_is_name base) (D_term_in base) (D_number_in base)
  have D_test_in := fun base : Heap => ok1_test_in (P := l.prog) (w := w) (base := base) T (D_number_in base)
  have D_term_line_in := fun base : Heap => ok1_term_line_in (P := l.prog) (w := w) (base := base) T (D_term_in base)
  have D_word_line_in := fun base : Heap => ok1_word_line_in (P := l.prog) (w := w) (base := base) T (D_number_in base) (D_is_name base)
  have D_step_in := fun base : Heap => ok1_step_in (P := l.prog) (w := w) (base := base) T (D_with_cell_in base) (D_test_in base) (D_term_line_in base) (D_word_line_in base)
  have D_steps_in := fun base : Heap => ok1_steps_in (P := l.prog) (w := w) (base := base) T (D_is_sequence base) (D_step_in base)
  have D_lot_of := fun base : Heap => ok1_lot_of (P := l.prog) (w := w) (base := base) T 
  have D_pinit := fun base : Heap => ok1_pinit (P := l.prog) (w := w) (base := base) T (D_is_name base) (X_InvalidProgram base) (D_steps_in base) (D_lot_of base)
  have D_is_lot := fun base : Heap => ok1_is_lot (P := l.prog) (w := w) (base := base) T 
  have D_rinit := fun base : Heap => ok1_rinit (P := l.prog) (w := w) (base := base) T (X_InvalidRule base) (D_is_lot base)
  have D_tinit := fun base : Heap => ok1_tinit (P := l.prog) (w := w) (base := base) T (X_InvalidTurns base) (D_is_number base)
  have D_are_cells := fun base : Heap => ok1_are_cells (P := l.prog) (w := w) (base := base) T (D_is_sequence base) (D_is_tuple_of base) (D_is_name base) (D_is_integer base) (D_are_unlike base)
  have D_goes_with := fun base : Heap => ok1_goes_with (P := l.prog) (w := w) (base := base) T 
  have D_are_programs := fun base : Heap => ok1_are_programs (P := l.prog) (w := w) (base := base) T (D_is_sequence base) (D_goes_with base) (D_are_unlike base)
  have D_hinit := fun base : Heap => ok1_hinit (P := l.prog) (w := w) (base := base) T (D_are_cells base) (X_InvalidHouse base) (D_are_programs base) (D_is_lot_of base) (D_tinit base)
  have D_wprog := fun base : Heap => ok1_wprog (P := l.prog) (w := w) (base := base) T (D_hinit base)
  have D_wrule := fun base : Heap => ok1_wrule (P := l.prog) (w := w) (base := base) T (D_hinit base)
  have D_wlog := fun base : Heap => ok1_wlog (P := l.prog) (w := w) (base := base) T (D_hinit base)
  have D_wtells := fun base : Heap => ok1_wtells (P := l.prog) (w := w) (base := base) T (D_hinit base)
  have D_wturns := fun base : Heap => ok1_wturns (P := l.prog) (w := w) (base := base) T (D_hinit base)
  have D_deal := fun base : Heap => ok1_deal (P := l.prog) (w := w) (base := base) T 
  have D_draw := fun base : Heap => ok1_draw (P := l.prog) (w := w) (base := base) T 
  have D_pick := fun base : Heap => ok1_pick (P := l.prog) (w := w) (base := base) T (D_draw base)
  have D_thing := fun base : Heap => ok1_thing (P := l.prog) (w := w) (base := base) T (D_draw base) (D_pick base) 1
  have D_bad := fun base : Heap => ok1_bad (P := l.prog) (w := w) (base := base) T (D_thing base) (D_pick base) (D_pinit base) (D_tinit base) (D_rinit base)
  have D_made := fun base : Heap => ok1_made (P := l.prog) (w := w) (base := base) T (D_hinit base)
  exact ok_law T (D_deal base) (D_tinit base) (D_rinit base) (D_pinit base) (D_made base) (D_draw base) (D_bad base) (D_wrule base) (D_wlog base) (D_wtells base) (D_wturns base) (D_wprog base) l_law c_law (hTB _ (List.mem_singleton.mpr rfl))
end K05
open PySem PySem.W PyProof.Rows
set_option maxRecDepth 100000 in
set_option maxHeartbeats 0 in
theorem PySem.Challenge.cw_plainroads_k05_houses_refused_holds : PySem.Challenge.rw_plainroads_k05_houses_refused.Holds := by
  w_on; o_law; k_head; (case hw => w_witness2)
  k_fill
  refine LamX.walk_ofTs (l := PySem.Challenge.rw_plainroads_k05_houses_refused) (n := 63) (k := 13) (x := "_law_script") (CX := fun w => L2.CX (PySem.Challenge.rw_plainroads_k05_houses_refused).prog w) rfl (by decide) rfl ⟨rfl, by decide, by decide⟩ (fun w h Y => PySem.W.km_in_of Y) ?F (fun w H s e s1 => VL.noCX H s e s1)
  case F =>
    intro w mg fa h Y KX G hmg
    have hT8 := PySem.W.km_tabs_of Y
    refine' K05.all_mk KX G hmg ?aC_Program ?pg_Program ?hd_Program ?po_Program ?sa_Program ?mk_Program ?kc_Program ?nF_Program_name ?nF_Program_lines ?nF_Program_steps ?nF_Program_cells ?nF_Program_locks ?aC_Rule ?pg_Rule ?hd_Rule ?po_Rule ?sa_Rule ?mk_Rule ?kc_Rule ?nF_Rule_sees ?nF_Rule_looks ?nF_Rule_takes ?aC_Turns ?pg_Turns ?hd_Turns ?po_Turns ?sa_Turns ?mk_Turns ?kc_Turns ?nF_Turns_ranked ?nF_Turns_lent ?nF_Turns_fair ?aC_House ?pg_House ?hd_House ?po_House ?sa_House ?mk_House ?kc_House ?nF_House_cells ?nF_House_programs ?nF_House_rule ?nF_House_log ?nF_House_tells ?nF_House_turns ?nF_House_places ?nF_House_sizes ?nF_House_named ?a_is_integer ?l_is_integer ?c_is_integer ?k_is_integer ?a_is_number ?l_is_number ?c_is_number ?k_is_number ?a_is_sequence ?l_is_sequence ?c_is_sequence ?k_is_sequence ?a_is_tuple_of ?l_is_tuple_of ?c_is_tuple_of ?k_is_tuple_of ?a_is_name ?l_is_name ?c_is_name ?k_is_name ?a_number_in ?l_number_in ?c_number_in ?k_number_in ?lT_number_in ?a_are_unlike ?l_are_unlike ?c_are_unlike ?k_are_unlike ?a_is_lot_of ?l_is_lot_of ?c_is_lot_of ?k_is_lot_of ?a_part_in ?l_part_in ?c_part_in ?k_part_in ?a_term_in ?l_term_in ?c_term_in ?k_term_in ?a_with_cell_in ?l_with_cell_in ?c_with_cell_in ?k_with_cell_in ?a_test_in ?l_test_in ?c_test_in ?k_test_in ?a_term_line_in ?l_term_line_in ?c_term_line_in ?k_term_line_in ?a_word_line_in ?l_word_line_in ?c_word_line_in ?k_word_line_in ?a_step_in ?l_step_in ?c_step_in ?k_step_in ?a_steps_in ?l_steps_in ?c_steps_in ?k_steps_in ?a_lot_of ?l_lot_of ?c_lot_of ?k_lot_of ?a_pinit ?i_pinit ?l_pinit ?c_pinit ?k_pinit ?a_is_lot ?l_is_lot ?c_is_lot ?k_is_lot ?a_rinit ?i_rinit ?l_rinit ?c_rinit ?k_rinit ?lT_rinit ?a_tinit ?i_tinit ?l_tinit ?c_tinit ?k_tinit ?lT_tinit ?a_are_cells ?l_are_cells ?c_are_cells ?k_are_cells ?a_goes_with ?l_goes_with ?c_goes_with ?k_goes_with ?a_are_programs ?l_are_programs ?c_are_programs ?k_are_programs ?a_hinit ?i_hinit ?l_hinit ?c_hinit ?k_hinit ?lT_hinit ?a_wprog ?i_wprog ?l_wprog ?c_wprog ?k_wprog ?a_wrule ?i_wrule ?l_wrule ?c_wrule ?k_wrule ?a_wlog ?i_wlog ?l_wlog ?c_wlog ?k_wlog ?a_wtells ?i_wtells ?l_wtells ?c_wtells ?k_wtells ?a_wturns ?i_wturns ?l_wturns ?c_wturns ?k_wturns ?a_deal ?l_deal ?c_deal ?k_deal ?a_draw ?l_draw ?c_draw ?k_draw ?a_pick ?l_pick ?c_pick ?k_pick ?a_thing ?l_thing ?c_thing ?k_thing ?a_heard ?l_heard ?c_heard ?k_heard ?a_bad ?l_bad ?c_bad ?k_bad ?a_made ?l_made ?c_made ?k_made ?a_law ?l_law ?c_law ?k_law ?cv_LETTERS ?cv_DIGITS ?cv_GETS ?cv_PUTS ?cv_FOUR ?cv_BARRED ?lk_BARRED ?cv_REGISTERS ?lk_REGISTERS ?cv_SINGLE ?lk_SINGLE ?cv_SIGHTS ?lk_SIGHTS ?cv_LOG ?lk_LOG ?cv_TELLS ?lk_TELLS ?z_len ?z_int ?z_bool ?z_abs ?z_isinstance ?z_str ?z_all ?z_list ?z_tuple ?z_set ?z_sorted ?z_range ?z_enumerate ?z_super ?z_dict ?ch_law ?nt_law ?tb_law ?lk_E0 ?lk_E1 ?in2 ?in3 ?ic_Program ?im_Program ?sq_Program ?ko_Program_NoneType ?ko_Program_bool ?ko_Program_int ?ko_Program_str ?ko_Program_tuple ?ko_Program_list ?kc_Rule_Program ?kc_Turns_Program ?ic_Rule ?im_Rule ?sq_Rule ?ko_Rule_NoneType ?ko_Rule_bool ?ko_Rule_int ?ko_Rule_str ?ko_Rule_tuple ?ko_Rule_list ?kc_Program_Rule ?kc_Turns_Rule ?ic_Turns ?im_Turns ?sq_Turns ?ko_Turns_NoneType ?ko_Turns_bool ?ko_Turns_int ?ko_Turns_str ?ko_Turns_tuple ?ko_Turns_list ?kc_Program_Turns ?kc_Rule_Turns ?any_tp ?top_super ?aC_RoadError ?aC_InvalidProgram ?hi_InvalidProgram ?ht_InvalidProgram ?lk_InvalidProgram ?cd_InvalidProgram ?co_InvalidProgram ?vs2_InvalidProgram ?fi_InvalidProgram ?ce_InvalidProgram ?ox_InvalidProgram ?sa_InvalidProgram ?be_InvalidProgram ?ty_InvalidProgram ?kp_InvalidProgram ?nf_InvalidProgram ?su_InvalidProgram ?mr_InvalidProgram ?ve_InvalidProgram ?gt_InvalidProgram ?gg_InvalidProgram ?dd_InvalidProgram ?cs_InvalidProgram ?mo_InvalidProgram ?aC_InvalidHouse ?hi_InvalidHouse ?ht_InvalidHouse ?lk_InvalidHouse ?cd_InvalidHouse ?co_InvalidHouse ?vs2_InvalidHouse ?fi_InvalidHouse ?ce_InvalidHouse ?ox_InvalidHouse ?sa_InvalidHouse ?be_InvalidHouse ?ty_InvalidHouse ?kp_InvalidHouse ?nf_InvalidHouse ?su_InvalidHouse ?mr_InvalidHouse ?ve_InvalidHouse ?gt_InvalidHouse ?gg_InvalidHouse ?dd_InvalidHouse ?cs_InvalidHouse ?mo_InvalidHouse ?aC_InvalidRule ?hi_InvalidRule ?ht_InvalidRule ?lk_InvalidRule ?cd_InvalidRule ?co_InvalidRule ?vs2_InvalidRule ?fi_InvalidRule ?ce_InvalidRule ?ox_InvalidRule ?sa_InvalidRule ?be_InvalidRule ?ty_InvalidRule ?kp_InvalidRule ?nf_InvalidRule ?su_InvalidRule ?mr_InvalidRule ?ve_InvalidRule ?gt_InvalidRule ?gg_InvalidRule ?dd_InvalidRule ?cs_InvalidRule ?mo_InvalidRule ?aC_InvalidTurns ?hi_InvalidTurns ?ht_InvalidTurns ?lk_InvalidTurns ?cd_InvalidTurns ?co_InvalidTurns ?vs2_InvalidTurns ?fi_InvalidTurns ?ce_InvalidTurns ?ox_InvalidTurns ?sa_InvalidTurns ?be_InvalidTurns ?ty_InvalidTurns ?kp_InvalidTurns ?nf_InvalidTurns ?su_InvalidTurns ?mr_InvalidTurns ?ve_InvalidTurns ?gt_InvalidTurns ?gg_InvalidTurns ?dd_InvalidTurns ?cs_InvalidTurns ?mo_InvalidTurns ?em_InvalidProgram_InvalidProgram ?em_InvalidProgram_InvalidHouse ?em_InvalidProgram_InvalidRule ?em_InvalidProgram_InvalidTurns ?em_InvalidHouse_InvalidProgram ?em_InvalidHouse_InvalidHouse ?em_InvalidHouse_InvalidRule ?em_InvalidHouse_InvalidTurns ?em_InvalidRule_InvalidProgram ?em_InvalidRule_InvalidHouse ?em_InvalidRule_InvalidRule ?em_InvalidRule_InvalidTurns ?em_InvalidTurns_InvalidProgram ?em_InvalidTurns_InvalidHouse ?em_InvalidTurns_InvalidRule ?em_InvalidTurns_InvalidTurns ?xk_InvalidHouse_RoadError ?xk2_InvalidHouse_InvalidProgram_InvalidRule
    (case aC_Program => k_is)
    (case pg_Program => k_is)
    (case hd_Program => k_is)
    (case po_Program => k_is)
    (case sa_Program => k_is)
    (case mk_Program => k_is)
    (case kc_Program => k_is)
    (case nF_Program_name => k_is)
    (case nF_Program_lines => k_is)
    (case nF_Program_steps => k_is)
    (case nF_Program_cells => k_is)
    (case nF_Program_locks => k_is)
    (case aC_Rule => k_is)
    (case pg_Rule => k_is)
    (case hd_Rule => k_is)
    (case po_Rule => k_is)
    (case sa_Rule => k_is)
    (case mk_Rule => k_is)
    (case kc_Rule => k_is)
    (case nF_Rule_sees => k_is)
    (case nF_Rule_looks => k_is)
    (case nF_Rule_takes => k_is)
    (case aC_Turns => k_is)
    (case pg_Turns => k_is)
    (case hd_Turns => k_is)
    (case po_Turns => k_is)
    (case sa_Turns => k_is)
    (case mk_Turns => k_is)
    (case kc_Turns => k_is)
    (case nF_Turns_ranked => k_is)
    (case nF_Turns_lent => k_is)
    (case nF_Turns_fair => k_is)
    (case aC_House => k_is)
    (case pg_House => k_is)
    (case hd_House => k_is)
    (case po_House => k_is)
    (case sa_House => k_is)
    (case mk_House => k_is)
    (case kc_House => k_is)
    (case nF_House_cells => k_is)
    (case nF_House_programs => k_is)
    (case nF_House_rule => k_is)
    (case nF_House_log => k_is)
    (case nF_House_tells => k_is)
    (case nF_House_turns => k_is)
    (case nF_House_places => k_is)
    (case nF_House_sizes => k_is)
    (case nF_House_named => k_is)
    (case a_is_integer => k_is)
    (case l_is_integer => k_is)
    (case c_is_integer => k_is)
    (case k_is_integer => k_is)
    (case a_is_number => k_is)
    (case l_is_number => k_is)
    (case c_is_number => k_is)
    (case k_is_number => k_is)
    (case a_is_sequence => k_is)
    (case l_is_sequence => k_is)
    (case c_is_sequence => k_is)
    (case k_is_sequence => k_is)
    (case a_is_tuple_of => k_is)
    (case l_is_tuple_of => k_is)
    (case c_is_tuple_of => k_is)
    (case k_is_tuple_of => k_is)
    (case a_is_name => k_is)
    (case l_is_name => k_is)
    (case c_is_name => k_is)
    (case k_is_name => k_is)
    (case a_number_in => k_is)
    (case l_number_in => k_is)
    (case c_number_in => k_is)
    (case k_number_in => k_is)
    (case lT_number_in => k_is)
    (case a_are_unlike => k_is)
    (case l_are_unlike => k_is)
    (case c_are_unlike => k_is)
    (case k_are_unlike => k_is)
    (case a_is_lot_of => k_is)
    (case l_is_lot_of => k_is)
    (case c_is_lot_of => k_is)
    (case k_is_lot_of => k_is)
    (case a_part_in => k_is)
    (case l_part_in => k_is)
    (case c_part_in => k_is)
    (case k_part_in => k_is)
    (case a_term_in => k_is)
    (case l_term_in => k_is)
    (case c_term_in => k_is)
    (case k_term_in => k_is)
    (case a_with_cell_in => k_is)
    (case l_with_cell_in => k_is)
    (case c_with_cell_in => k_is)
    (case k_with_cell_in => k_is)
    (case a_test_in => k_is)
    (case l_test_in => k_is)
    (case c_test_in => k_is)
    (case k_test_in => k_is)
    (case a_term_line_in => k_is)
    (case l_term_line_in => k_is)
    (case c_term_line_in => k_is)
    (case k_term_line_in => k_is)
    (case a_word_line_in => k_is)
    (case l_word_line_in => k_is)
    (case c_word_line_in => k_is)
    (case k_word_line_in => k_is)
    (case a_step_in => k_is)
    (case l_step_in => k_is)
    (case c_step_in => k_is)
    (case k_step_in => k_is)
    (case a_steps_in => k_is)
    (case l_steps_in => k_is)
    (case c_steps_in => k_is)
    (case k_steps_in => k_is)
    (case a_lot_of => k_is)
    (case l_lot_of => k_is)
    (case c_lot_of => k_is)
    (case k_lot_of => k_is)
    (case a_pinit => k_is)
    (case i_pinit => k_is)
    (case l_pinit => k_is)
    (case c_pinit => k_is)
    (case k_pinit => k_is)
    (case a_is_lot => k_is)
    (case l_is_lot => k_is)
    (case c_is_lot => k_is)
    (case k_is_lot => k_is)
    (case a_rinit => k_is)
    (case i_rinit => k_is)
    (case l_rinit => k_is)
    (case c_rinit => k_is)
    (case k_rinit => k_is)
    (case lT_rinit => k_is)
    (case a_tinit => k_is)
    (case i_tinit => k_is)
    (case l_tinit => k_is)
    (case c_tinit => k_is)
    (case k_tinit => k_is)
    (case lT_tinit => k_is)
    (case a_are_cells => k_is)
    (case l_are_cells => k_is)
    (case c_are_cells => k_is)
    (case k_are_cells => k_is)
    (case a_goes_with => k_is)
    (case l_goes_with => k_is)
    (case c_goes_with => k_is)
    (case k_goes_with => k_is)
    (case a_are_programs => k_is)
    (case l_are_programs => k_is)
    (case c_are_programs => k_is)
    (case k_are_programs => k_is)
    (case a_hinit => k_is)
    (case i_hinit => k_is)
    (case l_hinit => k_is)
    (case c_hinit => k_is)
    (case k_hinit => k_is)
    (case lT_hinit => k_is)
    (case a_wprog => k_is)
    (case i_wprog => k_is)
    (case l_wprog => k_is)
    (case c_wprog => k_is)
    (case k_wprog => k_is)
    (case a_wrule => k_is)
    (case i_wrule => k_is)
    (case l_wrule => k_is)
    (case c_wrule => k_is)
    (case k_wrule => k_is)
    (case a_wlog => k_is)
    (case i_wlog => k_is)
    (case l_wlog => k_is)
    (case c_wlog => k_is)
    (case k_wlog => k_is)
    (case a_wtells => k_is)
    (case i_wtells => k_is)
    (case l_wtells => k_is)
    (case c_wtells => k_is)
    (case k_wtells => k_is)
    (case a_wturns => k_is)
    (case i_wturns => k_is)
    (case l_wturns => k_is)
    (case c_wturns => k_is)
    (case k_wturns => k_is)
    (case a_deal => k_is)
    (case l_deal => k_is)
    (case c_deal => k_is)
    (case k_deal => k_is)
    (case a_draw => k_is)
    (case l_draw => k_is)
    (case c_draw => k_is)
    (case k_draw => k_is)
    (case a_pick => k_is)
    (case l_pick => k_is)
    (case c_pick => k_is)
    (case k_pick => k_is)
    (case a_thing => k_is)
    (case l_thing => k_is)
    (case c_thing => k_is)
    (case k_thing => k_is)
    (case a_heard => k_is)
    (case l_heard => k_is)
    (case c_heard => k_is)
    (case k_heard => k_is)
    (case a_bad => k_is)
    (case l_bad => k_is)
    (case c_bad => k_is)
    (case k_bad => k_is)
    (case a_made => k_is)
    (case l_made => k_is)
    (case c_made => k_is)
    (case k_made => k_is)
    (case a_law => k_is)
    (case l_law => k_is)
    (case c_law => k_is)
    (case k_law => k_is)
    (case cv_LETTERS => k_is)
    (case cv_DIGITS => k_is)
    (case cv_GETS => k_is)
    (case cv_PUTS => k_is)
    (case cv_FOUR => k_is)
    (case cv_BARRED => k_is)
    (case lk_BARRED => k_is)
    (case cv_REGISTERS => k_is)
    (case lk_REGISTERS => k_is)
    (case cv_SINGLE => k_is)
    (case lk_SINGLE => k_is)
    (case cv_SIGHTS => k_is)
    (case lk_SIGHTS => k_is)
    (case cv_LOG => k_is)
    (case lk_LOG => k_is)
    (case cv_TELLS => k_is)
    (case lk_TELLS => k_is)
    (case z_len => k_is)
    (case z_int => k_is)
    (case z_bool => k_is)
    (case z_abs => k_is)
    (case z_isinstance => k_is)
    (case z_str => k_is)
    (case z_all => k_is)
    (case z_list => k_is)
    (case z_tuple => k_is)
    (case z_set => k_is)
    (case z_sorted => k_is)
    (case z_range => k_is)
    (case z_enumerate => k_is)
    (case z_super => k_is)
    (case z_dict => k_is)
    (case ch_law => kernel_rfl)
    (case nt_law => kernel_rfl)
    (case tb_law => exact hT8 _ (by first | exact List.mem_singleton.mpr (by kernel_rfl) | k_mem))
    (case lk_E0 => k_is)
    (case lk_E1 => k_is)
    (case in2 => k_is)
    (case in3 => k_is)
    (case ic_Program => k_is)
    (case im_Program => k_is)
    (case sq_Program => kit_is)
    (case ko_Program_NoneType => kit_is)
    (case ko_Program_bool => kit_is)
    (case ko_Program_int => kit_is)
    (case ko_Program_str => kit_is)
    (case ko_Program_tuple => kit_is)
    (case ko_Program_list => kit_is)
    (case kc_Rule_Program => kit_is)
    (case kc_Turns_Program => kit_is)
    (case ic_Rule => k_is)
    (case im_Rule => k_is)
    (case sq_Rule => kit_is)
    (case ko_Rule_NoneType => kit_is)
    (case ko_Rule_bool => kit_is)
    (case ko_Rule_int => kit_is)
    (case ko_Rule_str => kit_is)
    (case ko_Rule_tuple => kit_is)
    (case ko_Rule_list => kit_is)
    (case kc_Program_Rule => kit_is)
    (case kc_Turns_Rule => kit_is)
    (case ic_Turns => k_is)
    (case im_Turns => k_is)
    (case sq_Turns => kit_is)
    (case ko_Turns_NoneType => kit_is)
    (case ko_Turns_bool => kit_is)
    (case ko_Turns_int => kit_is)
    (case ko_Turns_str => kit_is)
    (case ko_Turns_tuple => kit_is)
    (case ko_Turns_list => kit_is)
    (case kc_Program_Turns => kit_is)
    (case kc_Rule_Turns => kit_is)
    (case any_tp => k_is)
    (case top_super => rfl)
    (case aC_RoadError => k_is)
    (case aC_InvalidProgram => k_is)
    (case hi_InvalidProgram => k_is)
    (case ht_InvalidProgram => k_is)
    (case lk_InvalidProgram => k_is)
    (case cd_InvalidProgram => k_is)
    (case co_InvalidProgram => k_is)
    (case vs2_InvalidProgram => rfl)
    (case fi_InvalidProgram => rfl)
    (case ce_InvalidProgram => k_is)
    (case ox_InvalidProgram => kernel_rfl)
    (case sa_InvalidProgram => k_is)
    (case be_InvalidProgram => k_is)
    (case ty_InvalidProgram => k_is)
    (case kp_InvalidProgram => k_is)
    (case nf_InvalidProgram => k_is)
    (case su_InvalidProgram => ks_is)
    (case mr_InvalidProgram => k_is)
    (case ve_InvalidProgram => k_is)
    (case gt_InvalidProgram => k_is)
    (case gg_InvalidProgram => k_is)
    (case dd_InvalidProgram => k_is)
    (case cs_InvalidProgram => k_is)
    (case mo_InvalidProgram => k_is)
    (case aC_InvalidHouse => k_is)
    (case hi_InvalidHouse => k_is)
    (case ht_InvalidHouse => k_is)
    (case lk_InvalidHouse => k_is)
    (case cd_InvalidHouse => k_is)
    (case co_InvalidHouse => k_is)
    (case vs2_InvalidHouse => rfl)
    (case fi_InvalidHouse => rfl)
    (case ce_InvalidHouse => k_is)
    (case ox_InvalidHouse => kernel_rfl)
    (case sa_InvalidHouse => k_is)
    (case be_InvalidHouse => k_is)
    (case ty_InvalidHouse => k_is)
    (case kp_InvalidHouse => k_is)
    (case nf_InvalidHouse => k_is)
    (case su_InvalidHouse => ks_is)
    (case mr_InvalidHouse => k_is)
    (case ve_InvalidHouse => k_is)
    (case gt_InvalidHouse => k_is)
    (case gg_InvalidHouse => k_is)
    (case dd_InvalidHouse => k_is)
    (case cs_InvalidHouse => k_is)
    (case mo_InvalidHouse => k_is)
    (case aC_InvalidRule => k_is)
    (case hi_InvalidRule => k_is)
    (case ht_InvalidRule => k_is)
    (case lk_InvalidRule => k_is)
    (case cd_InvalidRule => k_is)
    (case co_InvalidRule => k_is)
    (case vs2_InvalidRule => rfl)
    (case fi_InvalidRule => rfl)
    (case ce_InvalidRule => k_is)
    (case ox_InvalidRule => kernel_rfl)
    (case sa_InvalidRule => k_is)
    (case be_InvalidRule => k_is)
    (case ty_InvalidRule => k_is)
    (case kp_InvalidRule => k_is)
    (case nf_InvalidRule => k_is)
    (case su_InvalidRule => ks_is)
    (case mr_InvalidRule => k_is)
    (case ve_InvalidRule => k_is)
    (case gt_InvalidRule => k_is)
    (case gg_InvalidRule => k_is)
    (case dd_InvalidRule => k_is)
    (case cs_InvalidRule => k_is)
    (case mo_InvalidRule => k_is)
    (case aC_InvalidTurns => k_is)
    (case hi_InvalidTurns => k_is)
    (case ht_InvalidTurns => k_is)
    (case lk_InvalidTurns => k_is)
    (case cd_InvalidTurns => k_is)
    (case co_InvalidTurns => k_is)
    (case vs2_InvalidTurns => rfl)
    (case fi_InvalidTurns => rfl)
    (case ce_InvalidTurns => k_is)
    (case ox_InvalidTurns => kernel_rfl)
    (case sa_InvalidTurns => k_is)
    (case be_InvalidTurns => k_is)
    (case ty_InvalidTurns => k_is)
    (case kp_InvalidTurns => k_is)
    (case nf_InvalidTurns => k_is)
    (case su_InvalidTurns => ks_is)
    (case mr_InvalidTurns => k_is)
    (case ve_InvalidTurns => k_is)
    (case gt_InvalidTurns => k_is)
    (case gg_InvalidTurns => k_is)
    (case dd_InvalidTurns => k_is)
    (case cs_InvalidTurns => k_is)
    (case mo_InvalidTurns => k_is)
    (case em_InvalidProgram_InvalidProgram => kts_exm)
    (case em_InvalidProgram_InvalidHouse => kts_exm)
    (case em_InvalidProgram_InvalidRule => kts_exm)
    (case em_InvalidProgram_InvalidTurns => kts_exm)
    (case em_InvalidHouse_InvalidProgram => kts_exm)
    (case em_InvalidHouse_InvalidHouse => kts_exm)
    (case em_InvalidHouse_InvalidRule => kts_exm)
    (case em_InvalidHouse_InvalidTurns => kts_exm)
    (case em_InvalidRule_InvalidProgram => kts_exm)
    (case em_InvalidRule_InvalidHouse => kts_exm)
    (case em_InvalidRule_InvalidRule => kts_exm)
    (case em_InvalidRule_InvalidTurns => kts_exm)
    (case em_InvalidTurns_InvalidProgram => kts_exm)
    (case em_InvalidTurns_InvalidHouse => kts_exm)
    (case em_InvalidTurns_InvalidRule => kts_exm)
    (case em_InvalidTurns_InvalidTurns => kts_exm)
    (case xk_InvalidHouse_RoadError => kit_is)
    (case xk2_InvalidHouse_InvalidProgram_InvalidRule => kit_is)
