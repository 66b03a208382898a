import PyProof.Rows.All
import HandS.ForMost
import HandS.Exc
import HandS.ExcOwn
import HandS.Deep
import HandS.Lambda
import KE.KDictKeyed
import HandS.ExcInit
import HandS.Flow
import HandS.TupAny
import HandS.Style
import HandS.Wide
import HandS.Conv
import HandS.IsInst
import HandS.RaiseMore
import HandS.Iter
import HandS.Comp
import HandS.WordsExc
import KE.GoesEnum
import HandS.Defaults
import HandS.MakeKwOnly
import KE.KSuper
import KE.KExcSuper
import PyProof.Rows.FactsExc_KeyError
import PyProof.ExcBaseAll.LookupError
import HandS.ExcField
import HandS.ExcIs
import KE.KExcIs
import KE.KCallOwn
import HandS.Text
import HandS.Star
import HandS.ClsMeth
import HandS.Strs
import HandS.FStr
import HandS.SortKw
import HandS.Keys
import HandS.SetFor
import HandS.SetTxt0
import HandS.SetBool
import KE.KUnpack
import KE.KRevSl
import HandS.TryMany
import HandS.EndTab
import KE.KNestM
import HandS.Dict
import HandS.DictComp
import KE.KDictPairs
import HandS.Zip
import KE.SortData
import HandS.DeepEq
import HandS.TryOnly
import HandS.SetKeys
import KE.KDictSum
import HandS.ExcValue
import KE.KDictCopyH
import KE.KIndexOf
import PyProof.ListRange
import Wide.All
import OpenK.AllK
import Wide.FinOn
import PySem.Challenge.RW_plainroads_k21_ties_and_rings
set_option Elab.async false
set_option linter.all false
set_option maxRecDepth 100000
set_option autoImplicit false
set_option maxHeartbeats 4000000
noncomputable section
namespace VL
open PySem L2
/-- a deep value: tuples, frozen lists and frozen objects by what they hold; loc n: the n-th own cell -/
inductive D where
  | non | bl (b : Bool) | int (i : Int) | str (x : Str)
  | tup (ds : List D) | lst (ds : List D) | frl (ds : List D)
  | obj (C : Nat) (ks : List Str) (ds : List D)
  | dct (ks : List Key) (ds : List D)
  | btp (ds : List D)
  | dcn (ks ds : List D)
  | exn (C : Nat) (ks : List Str) (ds : List D)
  | cls (C : Nat)
  | loc (n : Nat)
/-- an own cell, that the def may change -/
inductive Cell where
  | lst (ds : List D)
  | dk (ks : List Key) (ds : List D)
  | ins (C : Nat) (ks : List Str) (ds : List D)
  | tbl (n : Nat) (q : Str)
  | dn (ks ds : List D)
/-- an exception of an own class: its class, its own fields -/
structure Exn where
  C : Nat
  ks : List Str
  ds : List D
/-- a state: the slots, the cells -/
structure S where
  env : List (Option D)
  cs : List Cell
/-- the written part, and where the classes stand in it -/
structure Kt where
  K : PySem.W.Frag
  κ : Nat → Addr
  w : World
mutual
def nkD : D → Option NestedKey
  | .non => some .none
  | .bl b => some (.num (if b = true then 1 else 0))
  | .int i => some (.num i)
  | .str x => some (.text x)
  | .tup ds => (nkDs ds).map .tup
  | .btp ds => (nkDs ds).map .tup
  | _ => none
def nkDs : List D → Option (List NestedKey)
  | [] => some []
  | d :: r => match nkD d, nkDs r with
    | some k, some l => some (k :: l)
    | _, _ => none
end
/-- the entries of a dict whose keys are tuples -/
def entN (w : World) : List NestedKey → List Addr → List Value → List DictEntry
  | k :: ks, b :: bs, u :: us => ⟨k.hash w, .ref b, u⟩ :: entN w ks bs us
  | _, _, _ => []
/-- a dict whose keys are tuples, by its object alone -/
def dN (w : World) (a : Addr) (nks : List NestedKey) (bs : List Addr) (vs : List V) : HO := .ext fun h => ∃ o es ep us, h.get? a = some o ∧ o.ExactDict ∧ o.data = .dict es ep ∧ Vals vs us ∧ es.toList = entN w nks bs us
structure DnOk (a : Addr) (nks : List NestedKey) (bs : List Addr) (vs : List V) : Prop where
  nd : nks.Nodup
  sm : (a == sysModules) = false
  le : nks.length ≤ 16777216
  lb : bs.length = nks.length
  lv : vs.length = nks.length
  dp : ∀ k ∈ nks, (∃ l, k = .tup l) ∧ k.depth ≤ 8
section
variable (K : Kt) (ρ : List Addr) (F : Hp)
mutual
inductive RV : D → V → Prop
  | non : RV .non .non
  | bl (b : Bool) : RV (.bl b) (.bl b)
  | int (i : Int) : RV (.int i) (.int i)
  | str (x : Str) : RV (.str x) (.str x)
  | tup {a : Addr} {vs : List V} {ds : List D} : SqT K.K F a vs → RVs ds vs → RV (.tup ds) (.ref a)
  | lst {a : Addr} {vs : List V} {ds : List D} : F a = some (.lst vs) → RVs ds vs → RV (.lst ds) (.ref a)
  | frl {a : Addr} {vs : List V} {ds : List D} : SqL K.K F a vs → RVs ds vs → RV (.frl ds) (.ref a)
  | obj {a dx : Addr} {C : Nat} {ks : List Str} {vs : List V} {ds : List D} : F a = some (.ins (K.κ C) dx (ks.zip vs)) → ks.length = vs.length → RVs ds vs → RV (.obj C ks ds) (.ref a)
  | dct {a : Addr} {ks : List Key} {vs : List V} {ds : List D} : F a = some (.dK (ks.zip vs)) → ks.length = vs.length → RVs ds vs → RV (.dct ks ds) (.ref a)
  | btp {a : Addr} {o : Obj} {vs : List V} {ds : List D} : F a = some (.frz o (.tup vs)) → o.dict = none → RVs ds vs → RV (.btp ds) (.ref a)
  | dcn {a : Addr} {nks : List NestedKey} {bs : List Addr} {vs : List V} {ks ds : List D} : F a = some (dN K.w a nks bs vs) → nkDs ks = some nks → DnOk a nks bs vs → RVs ks (bs.map V.ref) → RVs ds vs → RV (.dcn ks ds) (.ref a)
  | exn {a dx : Addr} {C : Nat} {ks : List Str} {vs : List V} {ds : List D} : F a = some (exo a (K.κ C) (some dx)) → F dx = some (exd dx (ks.zip vs)) → ks.length = vs.length → RVs ds vs → RV (.exn C ks ds) (.ref a)
  | ex0 {a : Addr} {C : Nat} : F a = some (exo a (K.κ C) none) → RV (.exn C [] []) (.ref a)
  | cls (C : Nat) : RV (.cls C) (.ref (K.κ C))
  | loc {n : Nat} {a : Addr} : ρ[n]? = some a → RV (.loc n) (.ref a)
inductive RVs : List D → List V → Prop
  | nil : RVs [] []
  | cons {d : D} {ds : List D} {v : V} {vs : List V} : RV d v → RVs ds vs → RVs (d :: ds) (v :: vs)
end
end
theorem sqT_same {K : PySem.W.Frag} {H H' : Hp} {a : Addr} {xs : List V} (e : Same H H') (h : SqT K H a xs) : SqT K H' a xs := by
  rcases h with (h | ⟨o, h⟩) | h
  · exact .inl (.inl (e _ _ h))
  · exact .inl (.inr ⟨o, e _ _ h⟩)
  · exact .inr h
/-- the own cells go on, what is frozen goes on -/
structure Ext (ρ : List Addr) (F : Hp) (ρ' : List Addr) (F' : Hp) : Prop where
  pre : ρ <+: ρ'
  fz : Same F F'
theorem Ext.refl {ρ : List Addr} {F : Hp} : Ext ρ F ρ F := ⟨List.prefix_refl _, Same.refl _⟩
theorem Ext.trans {ρ ρ1 ρ2 : List Addr} {F F1 F2 : Hp} (a : Ext ρ F ρ1 F1) (b : Ext ρ1 F1 ρ2 F2) : Ext ρ F ρ2 F2 := ⟨a.pre.trans b.pre, a.fz.trans b.fz⟩
theorem Ext.at {ρ ρ' : List Addr} {F F' : Hp} (x : Ext ρ F ρ' F') {n : Nat} {a : Addr} (h : ρ[n]? = some a) : ρ'[n]? = some a := by
  obtain ⟨t, rfl⟩ := x.pre
  rw [List.getElem?_append_left (List.getElem?_eq_some_iff.mp h).1]
  exact h
mutual
theorem RV.ext {K : Kt} {ρ ρ' : List Addr} {F F' : Hp} (x : Ext ρ F ρ' F') : ∀ {d : D} {v : V}, RV K ρ F d v → RV K ρ' F' d v
  | _, _, .non => .non
  | _, _, .bl b => .bl b
  | _, _, .int i => .int i
  | _, _, .str z => .str z
  | _, _, .tup h r => .tup (sqT_same x.fz h) (RVs.ext x r)
  | _, _, .lst h r => .lst (x.fz _ _ h) (RVs.ext x r)
  | _, _, .frl h r => .frl (x.fz.seq h) (RVs.ext x r)
  | _, _, .obj h l r => .obj (x.fz _ _ h) l (RVs.ext x r)
  | _, _, .dct h l r => .dct (x.fz _ _ h) l (RVs.ext x r)
  | _, _, .btp h l r => .btp (x.fz _ _ h) l (RVs.ext x r)
  | _, _, .dcn h n o k r => .dcn (x.fz _ _ h) n o (RVs.ext x k) (RVs.ext x r)
  | _, _, .exn h1 h2 l r => .exn (x.fz _ _ h1) (x.fz _ _ h2) l (RVs.ext x r)
  | _, _, .ex0 h => .ex0 (x.fz _ _ h)
  | _, _, .cls C => .cls C
  | _, _, .loc h => .loc (x.at h)
theorem RVs.ext {K : Kt} {ρ ρ' : List Addr} {F F' : Hp} (x : Ext ρ F ρ' F') : ∀ {ds : List D} {vs : List V}, RVs K ρ F ds vs → RVs K ρ' F' ds vs
  | _, _, .nil => .nil
  | _, _, .cons h r => .cons (RV.ext x h) (RVs.ext x r)
end
def CellAt (K : Kt) (ρ : List Addr) (F H : Hp) (a : Addr) : Cell → Prop
  | .lst ds => ∃ vs, H a = some (.lst vs) ∧ RVs K ρ F ds vs
  | .dk ks ds => ∃ vs, H a = some (.dK (ks.zip vs)) ∧ ks.length = vs.length ∧ RVs K ρ F ds vs
  | .ins C ks ds => ∃ dx vs, H a = some (.ins (K.κ C) dx (ks.zip vs)) ∧ ks.length = vs.length ∧ RVs K ρ F ds vs
  | .dn ks ds => ∃ nks bs vs, H a = some (dN K.w a nks bs vs) ∧ nkDs ks = some nks ∧ DnOk a nks bs vs ∧ RVs K ρ F ks (bs.map V.ref) ∧ RVs K ρ F ds vs
  | .tbl n q => a = K.κ n ∧ ∃ ps : Array Value, H a = some (.tbl ps) ∧ TriplesOk ps.toList ∧ ∀ (pos : Pos) (cv : Value), codeAmong pos ps.toList = some cv → ∃ c, cv = .ref c ∧ F c = some (LamX.CodeO c q)
theorem CellAt.some {K : Kt} {ρ : List Addr} {F H : Hp} {a : Addr} : ∀ {c : Cell}, CellAt K ρ F H a c → ∃ o, H a = some o
  | .lst _, ⟨_, h, _⟩ => ⟨_, h⟩
  | .dk _ _, ⟨_, h, _⟩ => ⟨_, h⟩
  | .ins _ _ _, ⟨_, _, h, _⟩ => ⟨_, h⟩
  | .tbl _ _, ⟨_, _, h, _⟩ => ⟨_, h⟩
  | .dn _ _, ⟨_, _, _, h, _⟩ => ⟨_, h⟩
theorem CellAt.ext {K : Kt} {ρ ρ' : List Addr} {F F' H H' : Hp} {a : Addr} (x : Ext ρ F ρ' F') (e : H' a = H a) : ∀ {c : Cell}, CellAt K ρ F H a c → CellAt K ρ' F' H' a c
  | .lst _, ⟨_, h, r⟩ => ⟨_, e.trans h, r.ext x⟩
  | .dk _ _, ⟨_, h, l, r⟩ => ⟨_, e.trans h, l, r.ext x⟩
  | .ins _ _ _, ⟨_, _, h, l, r⟩ => ⟨_, _, e.trans h, l, r.ext x⟩
  | .tbl _ _, ⟨z, _, h, t, c⟩ => ⟨z, _, e.trans h, t, fun pos cv q => (c pos cv q).imp fun b ⟨w1, w2⟩ => ⟨w1, x.fz _ _ w2⟩⟩
  | .dn _ _, ⟨_, _, _, h, n, o, k, r⟩ => ⟨_, _, _, e.trans h, n, o, k.ext x, r.ext x⟩
/-- the entry of the def: the written part, the heap, what was frozen, the cells that were handed in -/
structure Gx where
  K : Kt
  H0 : Hp
  F0 : Hp
  A0 : List Addr
structure Rel (G : Gx) (ρ : List Addr) (F : Hp) (st : S) (σ : St) (H : Hp) : Prop where
  len : st.env.length = σ.length
  env : ∀ (i : Nat) (d : D), st.env[i]? = some (some d) → ∃ v : V, σ[i]? = some (some v) ∧ RV G.K ρ F d v
  cl : ρ.length = st.cs.length
  cell : ∀ (i : Nat) (c : Cell) (a : Addr), st.cs[i]? = some c → ρ[i]? = some a → CellAt G.K ρ F H a c
  nd : ρ.Nodup
  fz : Same F H
  sep : ∀ a ∈ ρ, F a = none
  fr : ∀ a o, G.H0 a = some o → a ∉ G.A0 → H a = some o
  own : ∀ a ∈ ρ, a ∈ G.A0 ∨ G.H0 a = none
  new : ∀ a o, F a = some o → G.F0 a = some o ∨ G.H0 a = none
  old : Same G.F0 F
  a0 : G.A0 <+: ρ
section
variable {G : Gx} {ρ ρ' : List Addr} {F F' : Hp} {st : S} {σ : St} {H H' : Hp}
theorem Rel.inρ (r : Rel G ρ F st σ H) {a : Addr} (h : a ∈ ρ) : ∃ o, H a = some o := by
  obtain ⟨i, hi, rfl⟩ := List.getElem_of_mem h
  have hc : i < st.cs.length := by rw [← r.cl]; exact hi
  exact (r.cell i st.cs[i] ρ[i] (List.getElem?_eq_getElem hc) (List.getElem?_eq_getElem hi)).some
theorem Rel.free (r : Rel G ρ F st σ H) {p : Addr} (h : H p = none) : p ∉ ρ := fun hm => by
  obtain ⟨o, e⟩ := r.inρ hm
  rw [h] at e; cases e
theorem Rel.free0 (r : Rel G ρ F st σ H) {p : Addr} (h : H p = none) : G.H0 p = none := by
  cases e : G.H0 p with
  | none => rfl
  | some o =>
    by_cases ha : p ∈ G.A0
    · exact absurd (r.a0.subset ha) (r.free h)
    · have := r.fr p o e ha
      rw [h] at this; cases this
theorem Rel.freeF (r : Rel G ρ F st σ H) {p : Addr} (h : H p = none) : F p = none := r.fz.free h
theorem same_upd' {H : Hp} {p : Addr} {o : HO} (h : H p = none) : Same H (upd H p o) := fun b x e => by
  rw [upd_ne (ne_of_none e h)]
  exact e
/-- something new that stays as it is -/
theorem Rel.fresh (r : Rel G ρ F st σ H) {p : Addr} {o : HO} (h : H p = none) : Ext ρ F ρ (upd F p o) ∧ Rel G ρ (upd F p o) st σ (upd H p o) := by
  have x : Ext ρ F ρ (upd F p o) := ⟨List.prefix_refl _, same_upd' (r.freeF h)⟩
  have hne : ∀ a ∈ ρ, a ≠ p := fun a ha e => r.free h (e ▸ ha)
  refine ⟨x, ⟨r.len, fun i d e => ?_, r.cl, fun i c a e1 e2 => ?_, r.nd, fun b u e => ?_, fun a ha => ?_, fun a u e1 e2 => ?_, r.own, fun a u e => ?_, r.old.trans x.fz, r.a0⟩⟩
  · obtain ⟨v, e1, e2⟩ := r.env i d e
    exact ⟨v, e1, e2.ext x⟩
  · exact (r.cell i c a e1 e2).ext x (upd_ne (hne a (List.mem_of_getElem? e2)))
  · by_cases hb : b = p
    · subst hb
      rw [upd_same] at e ⊢
      exact e
    · rw [upd_ne hb] at e ⊢
      exact r.fz b u e
  · rw [upd_ne (hne a ha)]
    exact r.sep a ha
  · rw [upd_ne (fun z => by rw [z, r.free0 h] at e1; cases e1)]
    exact r.fr a u e1 e2
  · by_cases hb : a = p
    · subst hb
      exact .inr (r.free0 h)
    · rw [upd_ne hb] at e
      exact r.new a u e
/-- a new own cell -/
theorem Rel.cellNew (r : Rel G ρ F st σ H) {p : Addr} {o : HO} {c : Cell} (h : H p = none) (hc : CellAt G.K (ρ ++ [p]) F (upd H p o) p c) : Ext ρ F (ρ ++ [p]) F ∧ Rel G (ρ ++ [p]) F ⟨st.env, st.cs ++ [c]⟩ σ (upd H p o) := by
  have x : Ext ρ F (ρ ++ [p]) F := ⟨List.prefix_append _ _, Same.refl _⟩
  have hne : ∀ a ∈ ρ, a ≠ p := fun a ha e => r.free h (e ▸ ha)
  refine ⟨x, ⟨r.len, fun i d e => ?_, ?_, fun i c' a e1 e2 => ?_, ?_, fun b u e => ?_, fun a ha => ?_, fun a u e1 e2 => ?_, fun a ha => ?_, r.new, r.old, r.a0.trans x.pre⟩⟩
  · obtain ⟨v, e1, e2⟩ := r.env i d e
    exact ⟨v, e1, e2.ext x⟩
  · show (ρ ++ [p]).length = (st.cs ++ [c]).length
    rw [List.length_append, List.length_append, r.cl]; rfl
  · by_cases hi : i < ρ.length
    · rw [List.getElem?_append_left hi] at e2
      rw [show (S.mk st.env (st.cs ++ [c])).cs = st.cs ++ [c] from rfl, List.getElem?_append_left (by rw [← r.cl]; exact hi)] at e1
      exact (r.cell i c' a e1 e2).ext x (upd_ne (hne a (List.mem_of_getElem? e2)))
    · have hi2 : i = ρ.length := by
        have := (List.getElem?_eq_some_iff.mp e2).1
        rw [List.length_append] at this
        have : i < ρ.length + 1 := this
        omega
      subst hi2
      have f2 : p = a := by
        rw [List.getElem?_append_right (Nat.le_refl _), Nat.sub_self] at e2
        exact Option.some.inj e2
      have f1 : c = c' := by
        rw [show (S.mk st.env (st.cs ++ [c])).cs = st.cs ++ [c] from rfl, List.getElem?_append_right (by rw [r.cl]; exact Nat.le_refl _), r.cl, Nat.sub_self] at e1
        exact Option.some.inj e1
      subst f1 f2
      exact hc
  · refine List.nodup_append.mpr ⟨r.nd, List.nodup_cons.mpr ⟨List.not_mem_nil, List.nodup_nil⟩, fun a ha b hb => ?_⟩
    rw [List.mem_singleton.mp hb]
    exact hne a ha
  · rw [upd_ne (ne_of_none (r.fz b u e) h)]
    exact r.fz b u e
  · rcases List.mem_append.mp ha with ha | ha
    · exact r.sep a ha
    · rw [List.mem_singleton.mp ha]
      exact r.freeF h
  · rw [upd_ne (fun z => by rw [z, r.free0 h] at e1; cases e1)]
    exact r.fr a u e1 e2
  · rcases List.mem_append.mp ha with ha | ha
    · exact r.own a ha
    · rw [List.mem_singleton.mp ha]
      exact .inr (r.free0 h)
/-- an own cell is changed -/
theorem Rel.cellSet (r : Rel G ρ F st σ H) {n : Nat} {a : Addr} {o : HO} {c : Cell} (ha : ρ[n]? = some a) (hc : CellAt G.K ρ F (upd H a o) a c) : Rel G ρ F ⟨st.env, st.cs.set n c⟩ σ (upd H a o) := by
  have hm : a ∈ ρ := List.mem_of_getElem? ha
  refine ⟨r.len, r.env, ?_, fun i c' b e1 e2 => ?_, r.nd, fun b u e => ?_, r.sep, fun b u e1 e2 => ?_, r.own, r.new, r.old, r.a0⟩
  · show ρ.length = (st.cs.set n c).length
    rw [List.length_set, r.cl]
  · by_cases hi : i = n
    · subst hi
      rw [ha] at e2
      cases e2
      have hl : i < st.cs.length := by rw [← r.cl]; exact (List.getElem?_eq_some_iff.mp ha).1
      rw [show (S.mk st.env (st.cs.set i c)).cs = st.cs.set i c from rfl, List.getElem?_set_self hl] at e1
      cases e1
      exact hc
    · rw [show (S.mk st.env (st.cs.set n c)).cs = st.cs.set n c from rfl, List.getElem?_set_ne (fun z => hi z.symm)] at e1
      have hb : b ≠ a := fun z => by
        subst z
        obtain ⟨h1, h1'⟩ := List.getElem?_eq_some_iff.mp e2
        obtain ⟨h2, h2'⟩ := List.getElem?_eq_some_iff.mp ha
        exact hi ((List.getElem_inj r.nd).mp (h1'.trans h2'.symm))
      exact (r.cell i c' b e1 e2).ext Ext.refl (upd_ne hb)
  · rw [upd_ne (fun z => by rw [z, r.sep a hm] at e; cases e)]
    exact r.fz b u e
  · have hb : b ≠ a := fun z => by
      subst z
      rcases r.own b hm with q | q
      · exact e2 q
      · rw [q] at e1; cases e1
    rw [upd_ne hb]
    exact r.fr b u e1 e2
/-- a slot is set -/
theorem Rel.slot (r : Rel G ρ F st σ H) {i : Nat} {d : D} {v : V} (h : RV G.K ρ F d v) : Rel G ρ F ⟨st.env.set i (some d), st.cs⟩ (σ.set i (some v)) H := by
  refine ⟨?_, fun j e h2 => ?_, r.cl, r.cell, r.nd, r.fz, r.sep, r.fr, r.own, r.new, r.old, r.a0⟩
  · show (st.env.set i (some d)).length = _
    rw [List.length_set, List.length_set, r.len]
  · by_cases hj : i = j
    · subst hj
      have hl : i < st.env.length := by
        have := (List.getElem?_eq_some_iff.mp h2).1
        rw [show (S.mk (st.env.set i (some d)) st.cs).env = st.env.set i (some d) from rfl, List.length_set] at this
        exact this
      rw [show (S.mk (st.env.set i (some d)) st.cs).env = st.env.set i (some d) from rfl, List.getElem?_set_self hl] at h2
      cases h2
      exact ⟨v, List.getElem?_set_self (by rw [← r.len]; exact hl), h⟩
    · rw [show (S.mk (st.env.set i (some d)) st.cs).env = st.env.set i (some d) from rfl, List.getElem?_set_ne hj] at h2
      obtain ⟨u, e1, e2⟩ := r.env j e h2
      exact ⟨u, by rw [List.getElem?_set_ne hj]; exact e1, e2⟩
end
inductive Out (α : Type) where
  | ok (a : α) (cs : List Cell)
  | ex (e : Exn) (cs : List Cell)
  | no
def Out.bind {α β : Type} : Out α → (α → List Cell → Out β) → Out β
  | .ok a cs, k => k a cs
  | .ex e cs, _ => .ex e cs
  | .no, _ => .no
/-- an exception e stands as the class cls with the own dict d -/
def XAt (K : Kt) (ρ : List Addr) (F : Hp) (e : Exn) (cls : Value) (d : Option Addr) : Prop :=
  cls = .ref (K.κ e.C) ∧ ((∃ x vs, d = some x ∧ F x = some (.xd (e.ks.zip vs)) ∧ e.ks.length = vs.length ∧ RVs K ρ F e.ds vs) ∨ (d = none ∧ e.ks = [] ∧ e.ds = []))
theorem XAt.imp {K : Kt} {ρ ρ' : List Addr} {F F' : Hp} {e : Exn} {cls : Value} {d : Option Addr} (h : XAt K ρ F e cls d) (hF : ∀ x vs, F x = some (.xd vs) → F' x = some (.xd vs)) (hR : ∀ vs, RVs K ρ F e.ds vs → RVs K ρ' F' e.ds vs) : XAt K ρ' F' e cls d := by
  obtain ⟨h1, ⟨x, vs, h2, h3, h4, h5⟩ | h⟩ := h
  · exact ⟨h1, .inl ⟨x, vs, h2, hF _ _ h3, h4, hR _ h5⟩⟩
  · exact ⟨h1, .inr h⟩
theorem XAt.ext {K : Kt} {ρ ρ' : List Addr} {F F' : Hp} {e : Exn} {cls : Value} {d : Option Addr} (x : Ext ρ F ρ' F') (h : XAt K ρ F e cls d) : XAt K ρ' F' e cls d := h.imp (fun _ _ z => x.fz _ _ z) fun _ z => z.ext x
section
variable {α β γ δ : Type}
def Post (R : Kt → List Addr → Hp → α → β → Prop) (G : Gx) (W : WX) (ρ : List Addr) (F : Hp) (env : List (Option D)) (σ : St) (Q : β → Hp → Prop) : Out α → Prop
  | .ok d cs => ∀ ρ' F' H' v, Ext ρ F ρ' F' → Rel G ρ' F' ⟨env, cs⟩ σ H' → R G.K ρ' F' d v → Q v H'
  | .ex e cs => ∀ ρ' F' H' cls dx, Ext ρ F ρ' F' → Rel G ρ' F' ⟨env, cs⟩ σ H' → XAt G.K ρ' F' e cls dx → W cls dx σ H'
  | .no => False
def tX (R : Kt → List Addr → Hp → α → β → Prop) (G : Gx) (W : WX) (f : S → Out α) (σ : St) (H : Hp) (Q : β → Hp → Prop) : Prop :=
  ∃ ρ F st, Rel G ρ F st σ H ∧ Post R G W ρ F st.env σ Q (f st)
theorem Post.ext {R : Kt → List Addr → Hp → α → β → Prop} {G : Gx} {W : WX} {ρ ρ' : List Addr} {F F' : Hp} {env : List (Option D)} {σ : St} {Q : β → Hp → Prop} (x : Ext ρ F ρ' F') : ∀ {o : Out α}, Post R G W ρ F env σ Q o → Post R G W ρ' F' env σ Q o
  | .ok _ _, h => fun ρ2 F2 H2 v y r rv => h ρ2 F2 H2 v (x.trans y) r rv
  | .ex _ _, h => fun ρ2 F2 H2 c d y r rv => h ρ2 F2 H2 c d (x.trans y) r rv
  | .no, h => h
theorem seqX {R : Kt → List Addr → Hp → α → β → Prop} {R' : Kt → List Addr → Hp → γ → δ → Prop} {G : Gx} {W : WX} {ρ : List Addr} {F : Hp} {st : S} {σ : St} {H : Hp} {f : S → Out α} {k : α → List Cell → Out γ} {Q : δ → Hp → Prop} {Q' : β → Hp → Prop}
    (r : Rel G ρ F st σ H) (p : Post R' G W ρ F st.env σ Q ((f st).bind k))
    (h : ∀ ρ' F' H' a cs v, Ext ρ F ρ' F' → Rel G ρ' F' ⟨st.env, cs⟩ σ H' → R G.K ρ' F' a v → Post R' G W ρ' F' st.env σ Q (k a cs) → Q' v H') : tX R G W f σ H Q' := by
  refine ⟨ρ, F, st, r, ?_⟩
  cases e : f st with
  | ok a cs =>
    rw [e] at p
    exact fun ρ' F' H' v x r' rv => h ρ' F' H' a cs v x r' rv (Post.ext x p)
  | ex e' cs =>
    rw [e] at p
    exact p
  | no =>
    rw [e] at p
    exact p
theorem Post.here {R : Kt → List Addr → Hp → α → β → Prop} {G : Gx} {W : WX} {ρ : List Addr} {F : Hp} {st : S} {σ : St} {H : Hp} {Q : β → Hp → Prop} {d : α} {cs : List Cell} {v : β}
    (p : Post R G W ρ F st.env σ Q (.ok d cs)) (r : Rel G ρ F ⟨st.env, cs⟩ σ H) (h : R G.K ρ F d v) : Q v H := p ρ F H v Ext.refl r h
end
abbrev Ex := S → Out D
abbrev tE := @tX D V RV
abbrev tAs := @tX (List D) (List V) RVs
def RB (_ : Kt) (_ : List Addr) (_ : Hp) (a b : Bool) : Prop := a = b
abbrev tTs := @tX Bool Bool RB
theorem _root_.L2.PE.impV {X : Cx} {e : Expr} {t t' : TE} (h : PE X e t) (m : ∀ σ H Q, t' σ H Q → t σ H Q) : PE X e t' := ⟨fun pins s σ H Q I hw => h.run pins s σ H Q I (m _ _ _ hw)⟩
theorem _root_.L2.PT.impV {X : Cx} {e : Expr} {t t' : TT} (h : PT X e t) (m : ∀ σ H Q, t' σ H Q → t σ H Q) : PT X e t' := ⟨fun pins s σ H Q I hw => h.run pins s σ H Q I (m _ _ _ hw)⟩
theorem _root_.L2.PA.impV {X : Cx} {e : List Expr} {t t' : TA} (h : PA X e t) (m : ∀ σ H Q, t' σ H Q → t σ H Q) : PA X e t' := ⟨fun pos pins s σ H Q I hw => h.run pos pins s σ H Q I (m _ _ _ hw)⟩
theorem _root_.L2.PS.impV {X : Cx} {e : Stmt} {t t' : TS} (h : PS X e t) (m : ∀ D σ H, t' D σ H → t D σ H) : PS X e t' := ⟨fun pins s σ H D I hw => h.run pins s σ H D I (m _ _ _ hw)⟩
theorem _root_.L2.PSs.impV {X : Cx} {e : List Stmt} {t t' : TS} (h : PSs X e t) (m : ∀ D σ H, t' D σ H → t D σ H) : PSs X e t' := ⟨fun pins s σ H D I hw => h.run pins s σ H D I (m _ _ _ hw)⟩
end VL
namespace VL
open PySem L2
section
variable {K : Kt} {ρ : List Addr} {F : Hp}
theorem RVs.length : ∀ {ds : List D} {vs : List V}, RVs K ρ F ds vs → ds.length = vs.length
  | _, _, .nil => rfl
  | _, _, .cons _ r => congrArg (· + 1) (RVs.length r)
theorem RVs.get : ∀ {ds : List D} {vs : List V} {i : Nat} {d : D}, RVs K ρ F ds vs → ds[i]? = some d → ∃ v, vs[i]? = some v ∧ RV K ρ F d v
  | _, _, _, _, .nil, e => by simp at e
  | _, _, 0, _, .cons h _, e => by
    simp only [List.getElem?_cons_zero, Option.some.injEq] at e
    subst e
    exact ⟨_, rfl, h⟩
  | _, _, i + 1, _, .cons _ r, e => by
    simp only [List.getElem?_cons_succ] at e ⊢
    exact RVs.get r e
theorem RVs.append : ∀ {ds es : List D} {vs ws : List V}, RVs K ρ F ds vs → RVs K ρ F es ws → RVs K ρ F (ds ++ es) (vs ++ ws)
  | _, _, _, _, .nil, s => s
  | _, _, _, _, .cons h r, s => .cons h (RVs.append r s)
theorem RVs.take : ∀ {ds : List D} {vs : List V} (n : Nat), RVs K ρ F ds vs → RVs K ρ F (ds.take n) (vs.take n)
  | _, _, 0, _ => .nil
  | _, _, _ + 1, .nil => .nil
  | _, _, n + 1, .cons h r => .cons h (RVs.take n r)
theorem RVs.drop : ∀ {ds : List D} {vs : List V} (n : Nat), RVs K ρ F ds vs → RVs K ρ F (ds.drop n) (vs.drop n)
  | _, _, 0, r => r
  | _, _, _ + 1, .nil => .nil
  | _, _, n + 1, .cons _ r => RVs.drop n r
theorem RVs.set {d : D} {v : V} (h : RV K ρ F d v) : ∀ {ds : List D} {vs : List V} (n : Nat), RVs K ρ F ds vs → RVs K ρ F (ds.set n d) (vs.set n v)
  | _, _, _, .nil => .nil
  | _, _, 0, .cons _ r => .cons h r
  | _, _, n + 1, .cons q r => .cons q (RVs.set h n r)
theorem RVs.reverse : ∀ {ds : List D} {vs : List V}, RVs K ρ F ds vs → RVs K ρ F ds.reverse vs.reverse
  | _, _, .nil => .nil
  | _, _, .cons h r => by
    rw [List.reverse_cons, List.reverse_cons]
    exact RVs.append (RVs.reverse r) (.cons h .nil)
theorem RVs.one {d : D} {v : V} (h : RV K ρ F d v) : RVs K ρ F [d] [v] := .cons h .nil
end
def lstOf (cs : List Cell) : D → Option (List D)
  | .lst ds => some ds
  | .frl ds => some ds
  | .loc n => match cs[n]? with
    | some (.lst ds) => some ds
    | _ => none
  | _ => none
def tupOf : D → Option (List D)
  | .tup ds => some ds
  | _ => none
def seqOf (cs : List Cell) (d : D) : Option (List D) := match d with
  | .tup ds => some ds
  | .btp ds => some ds
  | d => lstOf cs d
section
variable {G : Gx} {ρ : List Addr} {F : Hp} {st : S} {σ : St} {H : Hp} {x : D} {v : V} {ds : List D}
theorem Rel.at (r : Rel G ρ F st σ H) {n : Nat} {c : Cell} {v : V} (h : RV G.K ρ F (.loc n) v) (e : st.cs[n]? = some c) : ∃ a, v = .ref a ∧ ρ[n]? = some a ∧ CellAt G.K ρ F H a c := by
  cases h with
  | loc h => exact ⟨_, rfl, h, r.cell n c _ e h⟩
theorem lst_read (r : Rel G ρ F st σ H) (h : RV G.K ρ F x v) (e : lstOf st.cs x = some ds) : ∃ a vs, v = .ref a ∧ SqL G.K.K H a vs ∧ RVs G.K ρ F ds vs := by
  cases h with
  | lst h1 h2 =>
    cases e
    exact ⟨_, _, rfl, SqL.of (r.fz _ _ h1), h2⟩
  | frl h1 h2 =>
    cases e
    exact ⟨_, _, rfl, r.fz.seq h1, h2⟩
  | loc h1 =>
    rename_i n a
    have e : (match st.cs[n]? with
      | some (.lst ds) => some ds
      | _ => none) = some ds := e
    cases q : st.cs[n]? with
    | none => rw [q] at e; cases e
    | some c =>
      rw [q] at e
      cases c with
      | lst es =>
        cases e
        obtain ⟨vs, h2, h3⟩ := r.cell n _ _ q h1
        exact ⟨_, _, rfl, SqL.of h2, h3⟩
      | _ => cases e
  | _ => cases e
theorem tup_read (r : Rel G ρ F st σ H) (h : RV G.K ρ F x v) (e : tupOf x = some ds) : ∃ a vs, v = .ref a ∧ SqT G.K.K H a vs ∧ RVs G.K ρ F ds vs := by
  cases h with
  | tup h1 h2 =>
    cases e
    exact ⟨_, _, rfl, sqT_same r.fz h1, h2⟩
  | _ => cases e
theorem seq_read (r : Rel G ρ F st σ H) (h : RV G.K ρ F x v) (e : seqOf st.cs x = some ds) : ∃ a vs, v = .ref a ∧ (SqL G.K.K H a vs ∨ SqT G.K.K H a vs) ∧ RVs G.K ρ F ds vs := by
  cases x with
  | tup es =>
    obtain ⟨a, vs, h1, h2, h3⟩ := tup_read r h (show tupOf (.tup es) = some ds from e)
    exact ⟨a, vs, h1, .inr h2, h3⟩
  | btp es =>
    cases e
    cases h with
    | btp h1 h2 h3 => exact ⟨_, _, rfl, .inr (.inl (.inr ⟨_, r.fz _ _ h1⟩)), h3⟩
  | _ =>
    obtain ⟨a, vs, h1, h2, h3⟩ := lst_read r h e
    exact ⟨a, vs, h1, .inl h2, h3⟩
end
section
variable {X : Cx} {G : Gx} {W : WX}
def eVar (i : Nat) : Ex := fun st => match st.env[i]? with
  | some (some d) => .ok d st.cs
  | _ => .no
theorem de_var {e : Expr} {i : Nat} (h : PE X e (tVar i)) : PE X e (tE G W (eVar i)) := h.impV fun σ H Q ⟨ρ, F, st, r, p⟩ => by
  unfold eVar at p
  cases q : st.env[i]? with
  | none => rw [q] at p; exact p.elim
  | some o =>
    rw [q] at p
    cases o with
    | none => exact p.elim
    | some d =>
      obtain ⟨v, e1, e2⟩ := r.env i d q
      exact ⟨v, e1, p.here r e2⟩
def eC (d : D) : Ex := fun st => .ok d st.cs
theorem de_c {e : Expr} {v : V} {d : D} (h : PE X e (tC v)) (hv : ∀ ρ F, RV G.K ρ F d v) : PE X e (tE G W (eC d)) := h.impV fun σ H Q ⟨ρ, F, st, r, p⟩ => p.here r (hv ρ F)
theorem de_int {i j pos} : PE X (.Constant (.int i) j pos) (tE G W (eC (.int i))) := de_c pe_int fun _ _ => .int _
theorem de_bl {b j pos} : PE X (.Constant (.bool b) j pos) (tE G W (eC (.bl b))) := de_c pe_bl fun _ _ => .bl _
theorem de_non {j pos} : PE X (.Constant .none j pos) (tE G W (eC .non)) := de_c pe_non fun _ _ => .non
theorem de_str {x j pos} : PE X (.Constant (.str x) j pos) (tE G W (eC (.str x))) := de_c pe_str fun _ _ => .str _
abbrev F2 := List Cell → D → D → Out D
abbrev F1 := List Cell → D → Out D
def V2 (G : Gx) (W : WX) (r : R2) (g : F2) : Prop := ∀ (ρ : List Addr) (F : Hp) (st : S) (σ : St) (H : Hp) (x y : D) (v w : V) (Q : VK), Rel G ρ F st σ H → RV G.K ρ F x v → RV G.K ρ F y w → Post RV G W ρ F st.env σ Q (g st.cs x y) → r v w H Q
def V1 (G : Gx) (W : WX) (r : V → Hp → VK → Prop) (g : F1) : Prop := ∀ (ρ : List Addr) (F : Hp) (st : S) (σ : St) (H : Hp) (x : D) (v : V) (Q : VK), Rel G ρ F st σ H → RV G.K ρ F x v → Post RV G W ρ F st.env σ Q (g st.cs x) → r v H Q
def eOp (g : F2) (fa fb : Ex) : Ex := fun st => (fa st).bind fun x c1 => (fb ⟨st.env, c1⟩).bind fun y c2 => g c2 x y
def eUn (g : F1) (fa : Ex) : Ex := fun st => (fa st).bind fun x c1 => g c1 x
variable {a b : Expr} {fa fb : Ex} {pos : Pos}
theorem tOp_of {r : R2} {g : F2} (hv : V2 G W r g) : ∀ σ H Q, tE G W (eOp g fa fb) σ H Q → tOp r (tE G W fa) (tE G W fb) σ H Q := fun σ H Q ⟨ρ, F, st, r, p⟩ =>
  seqX r p fun ρ1 F1 H1 x c1 v x1 r1 rv1 p1 => seqX (st := ⟨st.env, c1⟩) r1 p1 fun ρ2 F2 H2 y c2 w x2 r2 rv2 p2 => hv ρ2 F2 ⟨st.env, c2⟩ σ H2 x y v w Q r2 (rv1.ext x2) rv2 p2
theorem de_op {op : Operator} {r : R2} {g : F2} (ho : OpR X (binaryOp op) r) (hv : V2 G W r g) (ha : PE X a (tE G W fa)) (hb : PE X b (tE G W fb)) : PE X (.BinOp a op b pos) (tE G W (eOp g fa fb)) :=
  (pe_op ho ha hb).impV (tOp_of hv)
theorem de_cmp {op : CmpOp} {r : R2} {g : F2} (ho : OpR X (compareOp op) r) (hv : V2 G W r g) (ha : PE X a (tE G W fa)) (hb : PE X b (tE G W fb)) (hm : behindInMarks op b = false) : PE X (.Compare a [op] [b] pos) (tE G W (eOp g fa fb)) :=
  (pe_cmpR ho ha hb hm).impV (tOp_of hv)
theorem de_un {op : UnaryOp} {r : V → Hp → VK → Prop} {g : F1} (ho : UnR X (unaryOp op) r) (hv : V1 G W r g) (ha : PE X a (tE G W fa)) : PE X (.UnaryOp op a pos) (tE G W (eUn g fa)) :=
  (pe_un ho ha).impV fun σ H Q ⟨ρ, F, st, r, p⟩ => seqX r p fun ρ1 F1 H1 x c1 v x1 r1 rv1 p1 => hv ρ1 F1 ⟨st.env, c1⟩ σ H1 x v Q r1 rv1 p1
end
end VL
namespace VL
open PySem L2
section
variable {X : Cx} {G : Gx} {W : WX} {a b : Expr} {fa fb : Ex} {pos : Pos}
def gInt (C : Int → Int → Bool) (g : Int → Int → Int) : F2 := fun cs x y => match x, y with
  | .int i, .int j => if C i j then .ok (.int (g i j)) cs else .no
  | _, _ => .no
theorem v2_int {C : Int → Int → Bool} {C' : Int → Int → Prop} {g : Int → Int → Int} (h : ∀ i j, C i j = true → C' i j) : V2 G W (rI C' fun i j => .int (g i j)) (gInt C g) := by
  intro ρ F st σ H x y v w Q r h1 h2 p
  unfold gInt at p
  split at p
  case h_2 => exact p.elim
  cases h1; cases h2
  rename_i i j
  by_cases c : C i j = true
  · simp only [c, if_true] at p
    exact ⟨i, j, rfl, rfl, h i j c, p.here r (.int _)⟩
  · simp only [c, if_false] at p
    exact p.elim
def gSub : F2 := gInt (fun _ _ => true) fun i j => i - j
theorem v2_sub : V2 G W (rI (fun _ _ => True) fun i j => .int (i - j)) gSub := v2_int fun _ _ _ => trivial
theorem op_sub' : OpR X (binaryOp .Sub) (rI (fun _ _ => True) fun i j => .int (i - j)) := fun pins s σ H x y v u Q I rx ry ⟨i, j, e1, e2, _, q⟩ => op_sub pins s σ H x y v u Q I rx ry ⟨i, j, e1, e2, q⟩
theorem de_sub (ha : PE X a (tE G W fa)) (hb : PE X b (tE G W fb)) : PE X (.BinOp a .Sub b pos) (tE G W (eOp gSub fa fb)) := de_op op_sub' v2_sub ha hb
def cMul (i j : Int) : Bool := decide (-(2 ^ 64) < i) && decide (i < 2 ^ 64) || decide (-(2 ^ 64) < j) && decide (j < 2 ^ 64)
def cDiv (_ j : Int) : Bool := decide (0 < j) && decide (j < 1073741824)
def cMod (_ j : Int) : Bool := decide (0 < j)
def cPow (i j : Int) : Bool := decide (0 ≤ j) && decide (j ≤ 1000000) && decide (i.natAbs < 2 ^ 64)
def gFdiv : F2 := gInt cDiv fun i j => i / j
theorem de_fdiv (ha : PE X a (tE G W fa)) (hb : PE X b (tE G W fb)) : PE X (.BinOp a .FloorDiv b pos) (tE G W (eOp gFdiv fa fb)) :=
  de_op op_fdiv (v2_int fun i j c => by simpa [cDiv, CDiv] using c) ha hb
def gPow : F2 := gInt cPow fun i j => i ^ j.toNat
theorem de_pow (ha : PE X a (tE G W fa)) (hb : PE X b (tE G W fb)) : PE X (.BinOp a .Pow b pos) (tE G W (eOp gPow fa fb)) :=
  de_op op_pow (v2_int fun i j c => by
    simp only [cPow, Bool.and_eq_true, decide_eq_true_eq] at c
    exact ⟨c.1.1, c.1.2, c.2⟩) ha hb
def gMod : F2 := gInt cMod fun i j => i % j
theorem de_mod (ha : PE X a (tE G W fa)) (hb : PE X b (tE G W fb)) : PE X (.BinOp a .Mod b pos) (tE G W (eOp gMod fa fb)) :=
  de_op op_mod (v2_int fun i j c => by simpa [cMod] using c) ha hb
def gNeg : F1 := fun cs x => match x with
  | .int i => .ok (.int (-i)) cs
  | _ => .no
theorem de_neg (ha : PE X a (tE G W fa)) : PE X (.UnaryOp .USub a pos) (tE G W (eUn gNeg fa)) := de_un un_neg (by
  intro ρ F st σ H x v Q r h1 p
  cases h1 <;> try exact p.elim
  exact ⟨_, rfl, p.here r (.int _)⟩) ha
/-- a list of one's own making -/
def ownOf (cs : List Cell) : D → Option (List D)
  | .lst ds => some ds
  | .loc n => match cs[n]? with
    | some (.lst ds) => some ds
    | _ => none
  | _ => none
theorem own_read {ρ : List Addr} {F : Hp} {st : S} {σ : St} {H : Hp} {x : D} {v : V} {ds : List D} (r : Rel G ρ F st σ H) (h : RV G.K ρ F x v) (e : ownOf st.cs x = some ds) : ∃ a vs, v = .ref a ∧ H a = some (.lst vs) ∧ RVs G.K ρ F ds vs := by
  cases h with
  | lst h1 h2 =>
    cases e
    exact ⟨_, _, rfl, r.fz _ _ h1, h2⟩
  | loc h1 =>
    rename_i n a
    have e : (match st.cs[n]? with
      | some (.lst ds) => some ds
      | _ => none) = some ds := e
    cases q : st.cs[n]? with
    | none => rw [q] at e; cases e
    | some c =>
      rw [q] at e
      cases c with
      | lst es =>
        cases e
        obtain ⟨vs, h2, h3⟩ := r.cell n _ _ q h1
        exact ⟨_, _, rfl, h2, h3⟩
      | _ => cases e
  | _ => cases e
def gCatL : F2 := fun cs x y => match ownOf cs x, ownOf cs y with
  | some xs, some ys => if xs.length + ys.length ≤ 16777216 then .ok (.lst (xs ++ ys)) cs else .no
  | _, _ => .no
def gAdd : F2 := fun cs x y => match x, y with
  | .int i, .int j => .ok (.int (i + j)) cs
  | .str i, .str j => if i.length + j.length ≤ 16777216 then .ok (.str (i ++ j)) cs else .no
  | .tup xs, .tup ys => if xs.length + ys.length ≤ 16777216 then .ok (.tup (xs ++ ys)) cs else .no
  | x, y => gCatL cs x y
theorem line_of {n : Nat} (h : n ≤ 16777216) : n ≤ sizeLine := by rw [sizeLine_eq]; exact h
theorem catL_of {ρ : List Addr} {F : Hp} {st : S} {σ : St} {H : Hp} {x y : D} {v w : V} {Q : VK} (r : Rel G ρ F st σ H) (h1 : RV G.K ρ F x v) (h2 : RV G.K ρ F y w) (p : Post RV G W ρ F st.env σ Q (gCatL st.cs x y)) : rCat v w H Q := by
  unfold gCatL at p
  cases e1 : ownOf st.cs x with
  | none => simp only [e1] at p; exact p.elim
  | some xs =>
    cases e2 : ownOf st.cs y with
    | none => simp only [e1, e2] at p; exact p.elim
    | some ys =>
      simp only [e1, e2] at p
      obtain ⟨a1, vs, rfl, s1, r1⟩ := own_read r h1 e1
      obtain ⟨a2, ws, rfl, s2, r2⟩ := own_read r h2 e2
      by_cases c : xs.length + ys.length ≤ 16777216
      · simp only [c, if_true] at p
        refine ⟨a1, a2, vs, ws, rfl, rfl, s1, s2, line_of (by rw [← r1.length, ← r2.length]; exact c), fun q hq => ?_⟩
        obtain ⟨x1, r3⟩ := r.fresh (o := .lst (vs ++ ws)) hq
        exact p _ _ _ _ x1 r3 (.lst upd_same ((r1.append r2).ext x1))
      · simp only [c, if_false] at p
        exact p.elim
def rAddA (K : PySem.W.Frag) : R2 := fun x y H Q => (rI0 (fun i j => .int (i + j)) x y H Q ∨ (∃ i j, x = .str i ∧ y = .str j ∧ i.length + j.length ≤ sizeLine ∧ Q (.str (i ++ j)) H)) ∨ (rCatA K x y H Q ∨ rCat x y H Q)
theorem op_addA : OpR X (binaryOp .Add) (rAddA X.K) := (op_add.or op_add_str).or (op_catA.or op_cat)
theorem v2_add : V2 G W (rAddA G.K.K) gAdd := by
  intro ρ F st σ H x y v w Q r h1 h2 p
  unfold gAdd at p
  split at p
  · cases h1; cases h2
    exact .inl (.inl ⟨_, _, rfl, rfl, p.here r (.int _)⟩)
  · cases h1; cases h2
    rename_i i j
    by_cases c : i.length + j.length ≤ 16777216
    · simp only [c, if_true] at p
      exact .inl (.inr ⟨_, _, rfl, rfl, line_of c, p.here r (.str _)⟩)
    · simp only [c, if_false] at p
      exact p.elim
  · rename_i xs ys
    by_cases c : xs.length + ys.length ≤ 16777216
    · simp only [c, if_true] at p
      obtain ⟨a1, vs, rfl, s1, r1⟩ := tup_read r h1 rfl
      obtain ⟨a2, ws, rfl, s2, r2⟩ := tup_read r h2 rfl
      refine .inr (.inl ⟨a1, a2, vs, ws, rfl, rfl, s1, s2, line_of (by rw [← r1.length, ← r2.length]; exact c), fun e => ?_, fun _ e => ?_, fun _ _ q hq => ?_⟩)
      · subst e
        cases r1
        exact p.here r h2
      · subst e
        cases r2
        rw [List.append_nil] at p
        exact p.here r h1
      · obtain ⟨x1, r3⟩ := r.fresh (o := .tup (vs ++ ws)) hq
        exact p _ _ _ _ x1 r3 (.tup (SqT.of upd_same) ((r1.append r2).ext x1))
    · simp only [c, if_false] at p
      exact p.elim
  · exact .inr (.inr (catL_of r h1 h2 p))
theorem de_add (hK : X.K = G.K.K) (ha : PE X a (tE G W fa)) (hb : PE X b (tE G W fb)) : PE X (.BinOp a .Add b pos) (tE G W (eOp gAdd fa fb)) := de_op op_addA (by rw [hK]; exact v2_add) ha hb
def gMul : F2 := fun cs x y => match x, y with
  | .int i, .int j => if cMul i j then .ok (.int (i * j)) cs else .no
  | x, .int k => match ownOf cs x with
    | some xs => if 0 ≤ k ∧ k ≤ 16777216 ∧ xs.length * k.toNat ≤ 16777216 then .ok (.lst (List.replicate k.toNat xs).flatten) cs else .no
    | none => .no
  | _, _ => .no
theorem RVs.rep {K : Kt} {ρ : List Addr} {F : Hp} {ds : List D} {vs : List V} (h : RVs K ρ F ds vs) : ∀ n : Nat, RVs K ρ F (List.replicate n ds).flatten (List.replicate n vs).flatten
  | 0 => .nil
  | n + 1 => by
    rw [List.replicate_succ, List.replicate_succ, List.flatten_cons, List.flatten_cons]
    exact h.append (RVs.rep h n)
theorem v2_mul : V2 G W (fun x y H Q => rI CMul (fun i j => .int (i * j)) x y H Q ∨ rRep x y H Q) gMul := by
  intro ρ F st σ H x y v w Q r h1 h2 p
  unfold gMul at p
  split at p
  · cases h1; cases h2
    rename_i i j
    by_cases c : cMul i j = true
    · simp only [c, if_true] at p
      refine .inl ⟨_, _, rfl, rfl, ?_, p.here r (.int _)⟩
      simp only [cMul, Bool.or_eq_true, Bool.and_eq_true, decide_eq_true_eq] at c
      exact c
    · simp only [c, if_false] at p
      exact p.elim
  · rename_i k _
    cases h2
    cases e1 : ownOf st.cs x with
    | none => simp only [e1] at p; exact p.elim
    | some xs =>
      simp only [e1] at p
      obtain ⟨a1, vs, rfl, s1, r1⟩ := own_read r h1 e1
      by_cases c : 0 ≤ k ∧ k ≤ 16777216 ∧ xs.length * k.toNat ≤ 16777216
      · simp only [c, if_true] at p
        refine .inr ⟨a1, k, vs, rfl, rfl, s1, by omega, by omega, line_of (by rw [← r1.length]; exact c.2.2), fun q hq => ?_⟩
        obtain ⟨x1, r3⟩ := r.fresh (o := .lst (List.replicate k.toNat vs).flatten) hq
        exact p _ _ _ _ x1 r3 (.lst upd_same ((r1.rep k.toNat).ext x1))
      · simp only [c, if_false] at p
        exact p.elim
  · exact p.elim
theorem de_mul (ha : PE X a (tE G W fa)) (hb : PE X b (tE G W fb)) : PE X (.BinOp a .Mult b pos) (tE G W (eOp gMul fa fb)) := de_op (op_mul.or op_rep) v2_mul ha hb
mutual
def py : D → PyData
  | .non => .none
  | .bl b => .bool b
  | .int i => .int i
  | .str x => .str x
  | .tup ds => .tuple (pys ds)
  | .lst ds => .list (pys ds)
  | .frl ds => .list (pys ds)
  | .obj _ _ _ => .none
  | .dct _ _ => .none
  | .dcn _ _ => .none
  | .exn _ _ _ => .none
  | .btp ds => .tuple (pys ds)
  | .cls _ => .none
  | .loc _ => .none
def pys : List D → List PyData
  | [] => []
  | d :: r => py d :: pys r
end
mutual
def plain : D → Bool
  | .non => true
  | .bl _ => true
  | .int _ => true
  | .str _ => true
  | .tup ds => plains ds
  | .lst ds => plains ds
  | .frl ds => plains ds
  | .obj _ _ _ => false
  | .dct _ _ => false
  | .dcn _ _ => false
  | .exn _ _ _ => false
  | .btp ds => plains ds
  | .cls _ => false
  | .loc _ => false
def plains : List D → Bool
  | [] => true
  | d :: r => plain d && plains r
end
mutual
theorem dp_of {K : Kt} {ρ : List Addr} {F H : Hp} (s : Same F H) : ∀ {d : D} {v : V}, RV K ρ F d v → plain d = true → Dp K.K H v (py d)
  | _, _, .non, _ => .non
  | _, _, .bl b, _ => .bl b
  | _, _, .int i, _ => .int i
  | _, _, .str x, _ => .str x
  | _, _, .tup h r, e => .tup (sqT_same s h) (dps_of s r (by simpa [plain] using e))
  | _, _, .lst h r, e => .lst (SqL.of (s _ _ h)) (dps_of s r (by simpa [plain] using e))
  | _, _, .frl h r, e => .lst (s.seq h) (dps_of s r (by simpa [plain] using e))
  | _, _, .btp h _ r, e => .tup (.inl (.inr ⟨_, s _ _ h⟩)) (dps_of s r (by simpa [plain] using e))
  | _, _, .cls _, e => by simp [plain] at e
theorem dps_of {K : Kt} {ρ : List Addr} {F H : Hp} (s : Same F H) : ∀ {ds : List D} {vs : List V}, RVs K ρ F ds vs → plains ds = true → DpAll K.K H vs (pys ds)
  | _, _, .nil, _ => .nil
  | _, _, .cons h r, e => by
    simp only [plains, Bool.and_eq_true] at e
    exact .cons (dp_of s h e.1) (dps_of s r e.2)
end
/-- what stands there, a cell opened -/
def norm (cs : List Cell) : D → D
  | .loc n => match cs[n]? with
    | some (.lst ds) => .lst ds
    | _ => .loc n
  | d => d
theorem dp_norm {ρ : List Addr} {F : Hp} {st : S} {σ : St} {H : Hp} {x : D} {v : V} (r : Rel G ρ F st σ H) (h : RV G.K ρ F x v) (e : plain (norm st.cs x) = true) : Dp G.K.K H v (py (norm st.cs x)) := by
  cases h with
  | loc h1 =>
    rename_i n a
    unfold norm at e ⊢
    simp only at e ⊢
    cases q : st.cs[n]? with
    | none => simp only [q, plain] at e; cases e
    | some c =>
      cases c with
      | lst es =>
        obtain ⟨vs, h2, h3⟩ := r.cell n _ _ q h1
        simp only [q, plain, py] at e ⊢
        exact .lst (SqL.of h2) (dps_of r.fz h3 e)
      | dk _ _ => simp only [q, plain] at e; cases e
      | dn _ _ => simp only [q, plain] at e; cases e
      | tbl _ _ => simp only [q, plain] at e; cases e
      | ins _ _ _ => simp only [q, plain] at e; cases e
  | non => exact .non
  | bl b => exact .bl b
  | int i => exact .int i
  | str x => exact .str x
  | tup h r' => exact dp_of r.fz (.tup h r') e
  | lst h r' => exact dp_of r.fz (.lst h r') e
  | frl h r' => exact dp_of r.fz (.frl h r') e
  | cls C => exact dp_of (ρ := ρ) r.fz (.cls C) e
  | obj => cases e
  | dct => cases e
  | dcn => cases e
  | exn => cases e
  | ex0 => cases e
  | btp h l r' => exact dp_of r.fz (.btp h l r') e
def gEqB (neg : Bool) : F2 := fun cs x y =>
  let p := norm cs x
  let q := norm cs y
  if plain p && plain q && SeqAt.shaped (py p) && SeqAt.shaped (py q) then .ok (.bl (if neg then !PyData.eqv (py p) (py q) else PyData.eqv (py p) (py q))) cs else .no
theorem v2_eq : V2 G W (rEqD G.K.K) (gEqB false) := by
  intro ρ F st σ H x y v w Q r h1 h2 p
  unfold gEqB at p
  by_cases c : (plain (norm st.cs x) && plain (norm st.cs y) && SeqAt.shaped (py (norm st.cs x)) && SeqAt.shaped (py (norm st.cs y))) = true
  · simp only [c, if_true] at p
    simp only [Bool.and_eq_true] at c
    exact ⟨_, _, dp_norm r h1 c.1.1.1, dp_norm r h2 c.1.1.2, c.1.2, c.2, p.here r (.bl _)⟩
  · simp only [c, if_false] at p
    exact p.elim
theorem v2_ne : V2 G W (rNeD G.K.K) (gEqB true) := by
  intro ρ F st σ H x y v w Q r h1 h2 p
  unfold gEqB at p
  by_cases c : (plain (norm st.cs x) && plain (norm st.cs y) && SeqAt.shaped (py (norm st.cs x)) && SeqAt.shaped (py (norm st.cs y))) = true
  · simp only [c, if_true] at p
    simp only [Bool.and_eq_true] at c
    exact ⟨_, _, dp_norm r h1 c.1.1.1, dp_norm r h2 c.1.1.2, c.1.2, c.2, p.here r (.bl _)⟩
  · simp only [c, if_false] at p
    exact p.elim
theorem de_eq (hK : X.K = G.K.K) (hu : X.A.units + 64 < cLine) (ha : PE X a (tE G W fa)) (hb : PE X b (tE G W fb)) : PE X (.Compare a [.Eq] [b] pos) (tE G W (eOp (gEqB false) fa fb)) := de_cmp (op_eqD hu) (by rw [hK]; exact v2_eq) ha hb (nomark _)
def gOrd (g : Int → Int → Bool) (h : List Nat → List Nat → Bool) : F2 := fun cs x y => match x, y with
  | .int i, .int j => .ok (.bl (g i j)) cs
  | .str i, .str j => .ok (.bl (h i.cps.toList j.cps.toList)) cs
  | _, _ => .no
theorem v2_ord {g : Int → Int → Bool} {h : List Nat → List Nat → Bool} : V2 G W (fun x y H Q => rI0 (fun i j => .bl (g i j)) x y H Q ∨ ∃ i j, x = .str i ∧ y = .str j ∧ Q (.bl (h i.cps.toList j.cps.toList)) H) (gOrd g h) := by
  intro ρ F st σ H x y v w Q r h1 h2 p
  unfold gOrd at p
  split at p
  · cases h1; cases h2
    exact .inl ⟨_, _, rfl, rfl, p.here r (.bl _)⟩
  · cases h1; cases h2
    exact .inr ⟨_, _, rfl, rfl, p.here r (.bl _)⟩
  · exact p.elim
def gLt : F2 := gOrd (fun i j => decide (i < j)) fun i j => decide (i < j)
def gLe : F2 := gOrd (fun i j => decide (i ≤ j)) fun i j => !decide (j < i)
def gGt : F2 := gOrd (fun i j => decide (j < i)) fun i j => decide (j < i)
def gGe : F2 := gOrd (fun i j => decide (j ≤ i)) fun i j => !decide (i < j)
def isNon : D → Bool
  | .non => true
  | _ => false
theorem isNon_of {K : Kt} {ρ : List Addr} {F : Hp} {d : D} {v : V} (h : RV K ρ F d v) : decide (v = .non) = isNon d := by
  cases h <;> first | rfl | (exact decide_eq_false (fun z => nomatch z))
def gIs (neg : Bool) : F2 := fun cs x y => match x, y with
  | x, .non => .ok (.bl (if neg then !isNon x else isNon x)) cs
  | .bl i, .bl j => .ok (.bl (if neg then !decide (i = j) else decide (i = j))) cs
  | _, _ => .no
theorem de_is (ha : PE X a (tE G W fa)) (hb : PE X b (tE G W fb)) : PE X (.Compare a [.Is] [b] pos) (tE G W (eOp (gIs false) fa fb)) := de_cmp (op_isN.or op_isBl) (by
  intro ρ F st σ H x y v w Q r h1 h2 p
  unfold gIs at p
  split at p
  · cases h2
    refine .inl ⟨rfl, ?_⟩
    rw [isNon_of h1]
    exact p.here r (.bl _)
  · cases h1; cases h2
    exact .inr ⟨_, _, rfl, rfl, p.here r (.bl _)⟩
  · exact p.elim) ha hb (nomark _)
theorem de_isnot (ha : PE X a (tE G W fa)) (hb : PE X b (tE G W fb)) : PE X (.Compare a [.IsNot] [b] pos) (tE G W (eOp (gIs true) fa fb)) := de_cmp (op_notN.or op_notBl) (by
  intro ρ F st σ H x y v w Q r h1 h2 p
  unfold gIs at p
  split at p
  · cases h2
    refine .inl ⟨rfl, ?_⟩
    rw [isNon_of h1]
    exact p.here r (.bl _)
  · cases h1; cases h2
    exact .inr ⟨_, _, rfl, rfl, p.here r (.bl _)⟩
  · exact p.elim) ha hb (nomark _)
def flatD : D → Bool
  | .non => true
  | .bl _ => true
  | .int _ => true
  | .str _ => true
  | _ => false
def eqF : D → D → Bool
  | .non, .non => true
  | .bl a, .bl b => a == b
  | .bl a, .int b => (if a then 1 else 0) == b
  | .int a, .bl b => a == (if b then 1 else 0)
  | .int a, .int b => a == b
  | .str a, .str b => a == b
  | _, _ => false
theorem flat_of {K : Kt} {ρ : List Addr} {F : Hp} {d : D} {v : V} (h : RV K ρ F d v) (e : flatD d = true) : flatV v = true := by
  cases h <;> first | rfl | cases e
theorem eqF_of {K : Kt} {ρ : List Addr} {F : Hp} {d d' : D} {v v' : V} (h : RV K ρ F d v) (h' : RV K ρ F d' v') (e : flatD d = true) (e' : flatD d' = true) : eqV v v' = eqF d d' := by
  cases h with
  | non => cases h' with
    | non => rfl
    | bl => rfl
    | int => rfl
    | str => rfl
    | _ => exact Bool.noConfusion e'
  | bl => cases h' with
    | non => rfl
    | bl => rfl
    | int => rfl
    | str => rfl
    | _ => exact Bool.noConfusion e'
  | int => cases h' with
    | non => rfl
    | bl => rfl
    | int => rfl
    | str => rfl
    | _ => exact Bool.noConfusion e'
  | str => cases h' with
    | non => rfl
    | bl => rfl
    | int => rfl
    | str => rfl
    | _ => exact Bool.noConfusion e'
  | _ => exact Bool.noConfusion e
def inD (x : D) (ds : List D) : Bool := ds.any fun y => eqF y x
theorem inD_of {K : Kt} {ρ : List Addr} {F : Hp} {d : D} {v : V} (h : RV K ρ F d v) (e : flatD d = true) : ∀ {ds : List D} {vs : List V}, RVs K ρ F ds vs → ds.all flatD = true → vs.all flatV = true ∧ inV v vs = inD d ds
  | _, _, .nil, _ => ⟨rfl, rfl⟩
  | _, _, .cons h' r, f => by
    rw [List.all_cons, Bool.and_eq_true] at f
    obtain ⟨q1, q2⟩ := inD_of h e r f.2
    refine ⟨by rw [List.all_cons, flat_of h' f.1, q1]; rfl, ?_⟩
    unfold inV inD at q2 ⊢
    rw [List.any_cons, List.any_cons, eqF_of h' h f.1 e, q2]
/-- one sign -/
def sign1 (x : Str) : Option Nat := match x.cps.toList with
  | [c] => some c
  | _ => none
def gIn (neg : Bool) : F2 := fun cs x y => match x, y with
  | .str s, .str z => match sign1 s with
    | some c => .ok (.bl (if neg then !decide (c ∈ z.cps.toList) else decide (c ∈ z.cps.toList))) cs
    | none => .no
  | x, y => match seqOf cs y with
    | some ds => if flatD x && ds.all flatD then .ok (.bl (if neg then !inD x ds else inD x ds)) cs else .no
    | none => .no
theorem sign1_eq {x : Str} {c : Nat} (h : sign1 x = some c) : x = ⟨#[c]⟩ := by
  unfold sign1 at h
  obtain ⟨⟨l⟩⟩ := x
  cases l with
  | nil => cases h
  | cons a l =>
    cases l with
    | nil => cases h; rfl
    | cons b l => cases h
theorem in_of {neg : Bool} {ρ : List Addr} {F : Hp} {st : S} {σ : St} {H : Hp} {x y : D} {v w : V} {Q : VK} (r : Rel G ρ F st σ H) (h1 : RV G.K ρ F x v) (h2 : RV G.K ρ F y w) (p : Post RV G W ρ F st.env σ Q (gIn neg st.cs x y)) :
    (∃ (c : Nat) (z : Str), v = .str ⟨#[c]⟩ ∧ w = .str z ∧ Q (.bl (if neg then !decide (c ∈ z.cps.toList) else decide (c ∈ z.cps.toList))) H) ∨ rIn G.K.K neg v w H Q := by
  unfold gIn at p
  split at p
  · cases h1; cases h2
    rename_i s z
    cases e : sign1 s with
    | none => simp only [e] at p; exact p.elim
    | some c =>
      simp only [e] at p
      have := sign1_eq e
      subst this
      exact .inl ⟨c, z, rfl, rfl, p.here r (.bl _)⟩
  · cases e : seqOf st.cs y with
    | none => simp only [e] at p; exact p.elim
    | some ds =>
      simp only [e] at p
      by_cases c : (flatD x && ds.all flatD) = true
      · simp only [c, if_true] at p
        obtain ⟨a2, ws, rfl, s2, r2⟩ := seq_read r h2 e
        rw [Bool.and_eq_true] at c
        obtain ⟨q1, q2⟩ := inD_of h1 c.1 r2 c.2
        refine .inr ⟨a2, ws, rfl, s2, flat_of h1 c.1, q1, ?_⟩
        rw [q2]
        exact p.here r (.bl _)
      · simp only [c, if_false] at p
        exact p.elim
end
end VL
namespace VL
open PySem L2
section
variable {X : Cx} {G : Gx} {W : WX} {a b c e : Expr} {es : List Expr} {fa fb fc : Ex} {pos : Pos}
abbrev Ax := S → Out (List D)
def aNil : Ax := fun st => .ok [] st.cs
def aCons (f : Ex) (g : Ax) : Ax := fun st => (f st).bind fun x c1 => (g ⟨st.env, c1⟩).bind fun xs c2 => .ok (x :: xs) c2
theorem da_nil : PA X [] (tAs G W aNil) := pa_nil.impV fun σ H Q ⟨ρ, F, st, r, p⟩ => p.here r .nil
theorem da_cons {g : Ax} (h : PE X e (tE G W fa)) (hr : PA X es (tAs G W g)) (hs : starEach (e :: es) X.env = (false, eval e X.env) :: starEach es X.env := by rfl) : PA X (e :: es) (tAs G W (aCons fa g)) :=
  (pa_cons h hr hs).impV fun σ H Q ⟨ρ, F, st, r, p⟩ => seqX r p fun ρ1 F1 H1 x c1 v x1 r1 rv1 p1 => seqX (st := ⟨st.env, c1⟩) r1 p1 fun ρ2 F2 H2 xs c2 vs x2 r2 rv2 p2 => p2.here (st := ⟨st.env, c2⟩) r2 (.cons (rv1.ext x2) rv2)
def eTup (g : Ax) : Ex := fun st => (g st).bind fun xs c1 => if xs.length ≤ 16777216 then .ok (.tup xs) c1 else .no
theorem de_tup {g : Ax} {x1} (h : PA X es (tAs G W g)) : PE X (.Tuple es x1 pos) (tE G W (eTup g)) :=
  (pe_tup h).impV fun σ H Q ⟨ρ, F, st, r, p⟩ => seqX r p fun ρ1 F1 H1 xs c1 vs x1 r1 rv1 p1 => by
    by_cases c : xs.length ≤ 16777216
    · simp only [c, if_true] at p1
      refine ⟨line_of (by rw [← rv1.length]; exact c), fun q hq => ?_⟩
      obtain ⟨x2, r2⟩ := r1.fresh (o := .tup vs) hq
      exact p1 _ _ _ _ x2 r2 (.tup (SqT.of upd_same) (rv1.ext x2))
    · simp only [c, if_false] at p1
      exact p1.elim
/-- a list that stays as it is -/
def eLst (g : Ax) : Ex := fun st => (g st).bind fun xs c1 => if xs.length ≤ 16777216 then .ok (.lst xs) c1 else .no
theorem de_lst {g : Ax} (h : PA X es (tAs G W g)) : PE X (.List es pos) (tE G W (eLst g)) :=
  (pe_lst h).impV fun σ H Q ⟨ρ, F, st, r, p⟩ => seqX r p fun ρ1 F1 H1 xs c1 vs x1 r1 rv1 p1 => by
    by_cases c : xs.length ≤ 16777216
    · simp only [c, if_true] at p1
      refine ⟨line_of (by rw [← rv1.length]; exact c), fun q hq => ?_⟩
      obtain ⟨x2, r2⟩ := r1.fresh (o := .lst vs) hq
      exact p1 _ _ _ _ x2 r2 (.lst upd_same (rv1.ext x2))
    · simp only [c, if_false] at p1
      exact p1.elim
/-- a new own cell -/
def newCell (ds : List D) (cs : List Cell) : Out D := .ok (.loc cs.length) (cs ++ [.lst ds])
theorem newCell_of {ρ : List Addr} {F : Hp} {st : S} {σ : St} {H : Hp} {ds : List D} {vs : List V} {q : Addr} {Q : VK} (r : Rel G ρ F st σ H) (rv : RVs G.K ρ F ds vs) (hq : H q = none) (p : Post RV G W ρ F st.env σ Q (newCell ds st.cs)) : Q (.ref q) (upd H q (.lst vs)) := by
  have y : Ext ρ F (ρ ++ [q]) F := ⟨List.prefix_append _ _, Same.refl _⟩
  obtain ⟨x2, r2⟩ := r.cellNew (p := q) (o := .lst vs) (c := .lst ds) hq ⟨vs, upd_same, rv.ext y⟩
  refine p _ _ _ _ x2 r2 (.loc ?_)
  rw [← r.cl, List.getElem?_append_right (Nat.le_refl _), Nat.sub_self]
  rfl
def eLoc (g : Ax) : Ex := fun st => (g st).bind fun xs c1 => if xs.length ≤ 16777216 then newCell xs c1 else .no
theorem de_loc {g : Ax} (h : PA X es (tAs G W g)) : PE X (.List es pos) (tE G W (eLoc g)) :=
  (pe_lst h).impV fun σ H Q ⟨ρ, F, st, r, p⟩ => seqX r p fun ρ1 F1 H1 xs c1 vs x1 r1 rv1 p1 => by
    by_cases c : xs.length ≤ 16777216
    · simp only [c, if_true] at p1
      exact ⟨line_of (by rw [← rv1.length]; exact c), fun q hq => newCell_of (st := ⟨st.env, c1⟩) r1 rv1 hq p1⟩
    · simp only [c, if_false] at p1
      exact p1.elim
def gIx : F2 := fun cs x y => match x, y with
  | .str z, .int i => if z.length ≤ 16777216 then (match atI z.cps.toList i with
    | some c => .ok (.str ⟨#[c]⟩) cs
    | none => .no) else .no
  | x, .int i => match seqOf cs x with
    | some ds => (match atI ds i with
      | some d => .ok d cs
      | none => .no)
    | none => .no
  | _, _ => .no
theorem atI_rel {K : Kt} {ρ : List Addr} {F : Hp} {ds : List D} {vs : List V} {i : Int} {d : D} (r : RVs K ρ F ds vs) (h : atI ds i = some d) : ∃ v, atI vs i = some v ∧ RV K ρ F d v := by
  unfold atI at h ⊢
  rw [← r.length]
  cases q : ixN ds.length i with
  | none => rw [q] at h; cases h
  | some j =>
    rw [q] at h
    exact r.get h
theorem v2_ix : V2 G W (rIx G.K.K) gIx := by
  intro ρ F st σ H x y v w Q r h1 h2 p
  unfold gIx at p
  split at p
  · cases h1; cases h2
    rename_i z i
    by_cases c : z.length ≤ 16777216
    · simp only [c, if_true] at p
      cases q : atI z.cps.toList i with
      | none => simp only [q] at p; exact p.elim
      | some k =>
        simp only [q] at p
        exact .inr (.inr ⟨_, _, k, rfl, rfl, line_of c, q, p.here r (.str _)⟩)
    · simp only [c, if_false] at p
      exact p.elim
  · cases h2
    rename_i i _
    cases q : seqOf st.cs x with
    | none => simp only [q] at p; exact p.elim
    | some ds =>
      simp only [q] at p
      cases q2 : atI ds i with
      | none => simp only [q2] at p; exact p.elim
      | some d =>
        simp only [q2] at p
        obtain ⟨a2, ws, rfl, s2, r2⟩ := seq_read r h1 q
        obtain ⟨u, e1, e2⟩ := atI_rel r2 q2
        rcases s2 with s2 | s2
        · exact .inl ⟨_, _, _, u, rfl, rfl, s2, e1, p.here r e2⟩
        · exact .inr (.inl ⟨_, _, _, u, rfl, rfl, s2, e1, p.here r e2⟩)
  · exact p.elim
theorem de_ix (hK : X.K = G.K.K) (ha : PE X a (tE G W fa)) (hb : PE X b (tE G W fb)) (hs : PlainIx b := by intro _ _; rfl) : PE X (.Subscript a b pos) (tE G W (eOp gIx fa fb)) := by
  refine (pe_ix ix_seq ha hb hs).impV (tOp_of ?_)
  rw [hK]
  exact v2_ix
def cutD (xs : List D) (lo hi : Option Int) : List D := (xs.drop (HT.sIx xs.length 0 lo)).take (HT.sIx xs.length xs.length hi - HT.sIx xs.length 0 lo)
theorem cut_rel {K : Kt} {ρ : List Addr} {F : Hp} {ds : List D} {vs : List V} {lo hi : Option Int} (r : RVs K ρ F ds vs) : RVs K ρ F (cutD ds lo hi) (cutV vs lo hi) := by
  unfold cutD cutV
  rw [r.length]
  exact (r.drop _).take _
def RO (_ : Kt) (_ : List Addr) (_ : Hp) (a b : Option Int) : Prop := a = b
abbrev tOs := @tX (Option Int) (Option Int) RO
abbrev Ox := S → Out (Option Int)
def oNone : Ox := fun st => .ok none st.cs
def oSome (f : Ex) : Ox := fun st => (f st).bind fun x c1 => match x with
  | .int i => .ok (some i) c1
  | _ => .no
theorem _root_.L2.PO.impV {X : Cx} {e : Option Expr} {t t' : TO} (h : PO X e t) (m : ∀ σ H Q, t' σ H Q → t σ H Q) : PO X e t' := ⟨fun pins s σ H Q I hw => h.run pins s σ H Q I (m _ _ _ hw)⟩
theorem do_none : PO X none (tOs G W oNone) := po_none.impV fun σ H Q ⟨ρ, F, st, r, p⟩ => p.here r rfl
theorem do_some (h : PE X e (tE G W fa)) : PO X (some e) (tOs G W (oSome fa)) := (po_some h).impV fun σ H Q ⟨ρ, F, st, r, p⟩ => seqX r p fun ρ1 F1 H1 x c1 v x1 r1 rv1 p1 => by
  cases rv1 <;> first
    | exact ⟨_, rfl, p1.here (st := ⟨st.env, c1⟩) r1 rfl⟩
    | exact p1.elim
/-- a slice; new: an own cell of a list's -/
def gSl (own : Bool) (cs : List Cell) (x : D) (lo hi : Option Int) : Out D := match x with
  | .str z => if z.length ≤ 16777216 then .ok (.str (cutS z lo hi)) cs else .no
  | .tup xs => .ok (.tup (cutD xs lo hi)) cs
  | x => match lstOf cs x with
    | some xs => if own then newCell (cutD xs lo hi) cs else .ok (.lst (cutD xs lo hi)) cs
    | none => .no
def eSl (own : Bool) (f : Ex) (l h : Ox) : Ex := fun st => (f st).bind fun x c1 => (l ⟨st.env, c1⟩).bind fun lo c2 => (h ⟨st.env, c2⟩).bind fun hi c3 => gSl own c3 x lo hi
def rSlAny (K : PySem.W.Frag) : V → Option Int → Option Int → Hp → VK → Prop := fun x lo hi H Q => rSlS x lo hi H Q ∨ (rSlA K x lo hi H Q ∨ rSlL K x lo hi H Q)
theorem sl_any : SlR X (rSlAny X.K) := SlR.or sl_str (SlR.or sl_tupA sl_list)
theorem sl_of {own : Bool} {ρ : List Addr} {F : Hp} {st : S} {σ : St} {H : Hp} {x : D} {v : V} {lo hi : Option Int} {Q : VK} (r : Rel G ρ F st σ H) (h1 : RV G.K ρ F x v) (p : Post RV G W ρ F st.env σ Q (gSl own st.cs x lo hi)) : rSlAny G.K.K v lo hi H Q := by
  unfold gSl at p
  split at p
  · cases h1
    rename_i z
    by_cases c : z.length ≤ 16777216
    · simp only [c, if_true] at p
      exact .inl ⟨_, rfl, line_of c, p.here r (.str _)⟩
    · simp only [c, if_false] at p
      exact p.elim
  · rename_i xs
    obtain ⟨a2, ws, rfl, s2, r2⟩ := tup_read r h1 rfl
    refine .inr (.inl ⟨a2, ws, rfl, s2, fun hw => ?_, fun hw q hq => ?_⟩)
    · have e1 : cutD xs lo hi = xs := by
        unfold cutD
        rw [r2.length, hw.1, hw.2, List.drop_zero, Nat.sub_zero, ← r2.length, List.take_length]
      rw [e1] at p
      exact p.here r h1
    · obtain ⟨x2, r3⟩ := r.fresh (o := .tup (cutV ws lo hi)) hq
      exact p _ _ _ _ x2 r3 (.tup (SqT.of upd_same) ((cut_rel r2).ext x2))
  · cases q : lstOf st.cs x with
    | none => simp only [q] at p; exact p.elim
    | some xs =>
      simp only [q] at p
      obtain ⟨a2, ws, rfl, s2, r2⟩ := lst_read r h1 q
      refine .inr (.inr ⟨a2, ws, rfl, s2, fun q hq => ?_⟩)
      cases own with
      | true =>
        exact newCell_of r (cut_rel r2) hq p
      | false =>
        obtain ⟨x2, r3⟩ := r.fresh (o := .lst (cutV ws lo hi)) hq
        exact p _ _ _ _ x2 r3 (.lst upd_same ((cut_rel r2).ext x2))
theorem de_slice {own : Bool} {lo hi : Option Expr} {fl fh : Ox} {p2 : Pos} (hK : X.K = G.K.K) (ha : PE X a (tE G W fa)) (hl : PO X lo (tOs G W fl)) (hh : PO X hi (tOs G W fh)) : PE X (.Subscript a (.Slice lo hi none p2) pos) (tE G W (eSl own fa fl fh)) :=
  (pe_slice sl_any ha hl hh).impV fun σ H Q ⟨ρ, F, st, r, p⟩ => seqX r p fun ρ1 F1 H1 x c1 v x1 r1 rv1 p1 => seqX (R := RO) (st := ⟨st.env, c1⟩) r1 p1 fun ρ2 F2 H2 lo c2 lo' x2 r2 e2 p2 => seqX (R := RO) (st := ⟨st.env, c2⟩) r2 p2 fun ρ3 F3 H3 hi c3 hi' x3 r3 e3 p3 => by
    have e2 : lo = lo' := e2
    have e3 : hi = hi' := e3
    subst e2 e3
    rw [hK]
    exact sl_of (st := ⟨st.env, c3⟩) r3 ((rv1.ext x2).ext x3) p3
/-- xs[::-1] -/
def gRev (cs : List Cell) (x : D) : Out D := match lstOf cs x with
  | some xs => .ok (.lst xs.reverse) cs
  | none => .no
def gRevLoc (cs : List Cell) (x : D) : Out D := match lstOf cs x with
  | some xs => newCell xs.reverse cs
  | none => .no
theorem de_rev {k : Nat} {p1 p2 p3 : Pos} (hK : X.K = G.K.K) (ha : PE X a (tE G W fa)) : PE X (.Subscript a (.Slice none none (some (.UnaryOp .USub (.Constant (.int 1) k p1) p2)) p3) pos) (tE G W (eUn gRev fa)) :=
  (pe_revL ha).impV fun σ H Q ⟨ρ, F, st, r, p⟩ => seqX r p fun ρ1 F1 H1 x c1 v x1 r1 rv1 p1 => by
    unfold gRev at p1
    cases q : lstOf c1 x with
    | none => simp only [q] at p1; exact p1.elim
    | some xs =>
      simp only [q] at p1
      obtain ⟨a2, ws, rfl, s2, r2⟩ := lst_read (st := ⟨st.env, c1⟩) r1 rv1 q
      rw [hK]
      refine ⟨a2, ws, rfl, s2, fun q hq => ?_⟩
      obtain ⟨x2, r3⟩ := r1.fresh (o := .lst ws.reverse) hq
      exact p1 _ _ _ _ x2 r3 (.lst upd_same (r2.reverse.ext x2))
def truD (cs : List Cell) : D → Option Bool
  | .non => some false
  | .bl b => some b
  | .int i => some (i != 0)
  | .str y => if y.length ≤ 16777216 then some ((y.length : Int) != 0) else none
  | d => (seqOf cs d).map fun xs => !xs.isEmpty
theorem isEmpty_len {α β : Type} {xs : List α} {ys : List β} (h : xs.length = ys.length) : xs.isEmpty = ys.isEmpty := by
  cases xs <;> cases ys <;> simp_all
theorem tru_of {ρ : List Addr} {F : Hp} {st : S} {σ : St} {H : Hp} {x : D} {v : V} {k : Bool} (r : Rel G ρ F st σ H) (h : RV G.K ρ F x v) (e : truD st.cs x = some k) : TruV G.K.K v H k := by
  have main : ∀ {y : D}, RV G.K ρ F y v → (seqOf st.cs y).map (fun xs => !xs.isEmpty) = some k → TruV G.K.K v H k := fun {y} hy e => by
    cases q : seqOf st.cs y with
    | none => rw [q] at e; cases e
    | some xs =>
      rw [q] at e
      cases e
      obtain ⟨a2, ws, rfl, s2, r2⟩ := seq_read r hy q
      rcases s2 with s2 | s2
      · exact .inl ⟨ws, s2, by show (!xs.isEmpty) = _; rw [isEmpty_len r2.length]⟩
      · exact .inr (.inl ⟨ws, s2, by show (!xs.isEmpty) = _; rw [isEmpty_len r2.length]⟩)
  cases h with
  | non => exact (Option.some.inj e).symm
  | bl b => exact (Option.some.inj e).symm
  | int i => exact (Option.some.inj e).symm
  | str y =>
    unfold truD at e
    by_cases c : y.length ≤ 16777216
    · simp only [c, if_true] at e
      exact ⟨line_of c, (Option.some.inj e).symm⟩
    · simp only [c, if_false] at e
      cases e
  | tup h1 h2 => exact main (.tup h1 h2) e
  | lst h1 h2 => exact main (.lst h1 h2) e
  | frl h1 h2 => exact main (.frl h1 h2) e
  | obj h1 h2 h3 => cases e
  | dct h1 h2 h3 => cases e
  | dcn => cases e
  | exn => cases e
  | ex0 => cases e
  | btp h1 h2 h3 => exact main (.btp h1 h2 h3) e
  | cls C => cases e
  | loc h1 => exact main (.loc h1) e
abbrev Tx := S → Out Bool
def tTru (f : Ex) : Tx := fun st => (f st).bind fun x c1 => match truD c1 x with
  | some k => .ok k c1
  | none => .no
theorem truStep {ρ : List Addr} {F : Hp} {st : S} {σ : St} {H : Hp} {x : D} {v : V} {β γ : Type} {R : Kt → List Addr → Hp → β → γ → Prop} {Q : γ → Hp → Prop} {kk : Bool → Out β} (r : Rel G ρ F st σ H) (h : RV G.K ρ F x v)
    (p : Post R G W ρ F st.env σ Q (match truD st.cs x with
      | some k => kk k
      | none => .no)) : ∃ k, TruV G.K.K v H k ∧ Post R G W ρ F st.env σ Q (kk k) := by
  cases q : truD st.cs x with
  | none => simp only [q] at p; exact p.elim
  | some k =>
    simp only [q] at p
    exact ⟨k, tru_of r h q, p⟩
def tAnd' (f g : Tx) : Tx := fun st => (f st).bind fun k c1 => if k then g ⟨st.env, c1⟩ else .ok false c1
def tOr' (f g : Tx) : Tx := fun st => (f st).bind fun k c1 => if k then .ok true c1 else g ⟨st.env, c1⟩
def tNot' (f : Tx) : Tx := fun st => (f st).bind fun k c1 => .ok (!k) c1
theorem _root_.L2.PW.impV {X : Cx} {e : Expr} {t t' : TT} (h : PW X e t) (m : ∀ σ H Q, t' σ H Q → t σ H Q) : PW X e t' := ⟨fun wh pins s σ H Q I hw => h.run wh pins s σ H Q I (m _ _ _ hw)⟩
variable {f g : Tx} {rest : List Expr}
theorem tX_of {α β : Type} {R : Kt → List Addr → Hp → α → β → Prop} {ρ : List Addr} {F : Hp} {st : S} {σ : St} {H : Hp} {f : S → Out α} {Q : β → Hp → Prop} (r : Rel G ρ F st σ H) (p : Post R G W ρ F st.env σ Q (f st)) : tX R G W f σ H Q := ⟨ρ, F, st, r, p⟩
theorem dw_and1 (ha : PT X a (tTs G W f)) : PW X (.BoolOp .And [a] pos) (tTs G W f) := pw_and1 ha
theorem dw_or1 (ha : PT X a (tTs G W f)) : PW X (.BoolOp .Or [a] pos) (tTs G W f) := pw_or1 ha
theorem dw_and (ha : PT X a (tTs G W f)) (hb : PW X (.BoolOp .And (b :: rest) pos) (tTs G W g)) : PW X (.BoolOp .And (a :: b :: rest) pos) (tTs G W (tAnd' f g)) :=
  (pw_and ha hb).impV fun σ H Q ⟨ρ, F, st, r, p⟩ => seqX (R := RB) r p fun ρ1 F1 H1 k c1 k' x1 r1 e p1 => by
    have e : k = k' := e
    subst e
    cases k with
    | true =>
      rw [if_pos rfl] at p1 ⊢
      exact tX_of (st := ⟨st.env, c1⟩) r1 p1
    | false =>
      rw [if_neg (by decide)] at p1 ⊢
      exact p1.here (st := ⟨st.env, c1⟩) r1 rfl
theorem dw_or (ha : PT X a (tTs G W f)) (hb : PW X (.BoolOp .Or (b :: rest) pos) (tTs G W g)) : PW X (.BoolOp .Or (a :: b :: rest) pos) (tTs G W (tOr' f g)) :=
  (pw_or ha hb).impV fun σ H Q ⟨ρ, F, st, r, p⟩ => seqX (R := RB) r p fun ρ1 F1 H1 k c1 k' x1 r1 e p1 => by
    have e : k = k' := e
    subst e
    cases k with
    | true =>
      rw [if_pos rfl] at p1 ⊢
      exact p1.here (st := ⟨st.env, c1⟩) r1 rfl
    | false =>
      rw [if_neg (by decide)] at p1 ⊢
      exact tX_of (st := ⟨st.env, c1⟩) r1 p1
theorem dt_w (h : PW X a (tTs G W f)) : PT X a (tTs G W f) := h.pt
def eIf (t : Tx) (fa fb : Ex) : Ex := fun st => (t st).bind fun k c1 => if k then fa ⟨st.env, c1⟩ else fb ⟨st.env, c1⟩
theorem de_if (hc : PT X c (tTs G W f)) (ha : PE X a (tE G W fa)) (hb : PE X b (tE G W fb)) : PE X (.IfExp c a b pos) (tE G W (eIf f fa fb)) :=
  (pe_ifExp hc ha hb).impV fun σ H Q ⟨ρ, F, st, r, p⟩ => seqX (R := RB) r p fun ρ1 F1 H1 k c1 k' x1 r1 e p1 => by
    have e : k = k' := e
    subst e
    cases k with
    | true =>
      rw [if_pos rfl] at p1 ⊢
      exact tX_of (st := ⟨st.env, c1⟩) r1 p1
    | false =>
      rw [if_neg (by decide)] at p1 ⊢
      exact tX_of (st := ⟨st.env, c1⟩) r1 p1
/-- x and y, x or y, not x as values -/
def eAnd (fa fb : Ex) : Ex := fun st => (fa st).bind fun x c1 => match truD c1 x with
  | some k => if k then fb ⟨st.env, c1⟩ else .ok x c1
  | none => .no
def eOr (fa fb : Ex) : Ex := fun st => (fa st).bind fun x c1 => match truD c1 x with
  | some k => if k then .ok x c1 else fb ⟨st.env, c1⟩
  | none => .no
def eNot (fa : Ex) : Ex := fun st => (fa st).bind fun x c1 => match truD c1 x with
  | some k => .ok (.bl (!k)) c1
  | none => .no
theorem de_one {op} (h : PE X a (tE G W fa)) : PE X (.BoolOp op [a] pos) (tE G W fa) := pe_one h
theorem de_and (hK : X.K = G.K.K) (ha : PE X a (tE G W fa)) (hb : PE X (.BoolOp .And (b :: rest) pos) (tE G W fb)) : PE X (.BoolOp .And (a :: b :: rest) pos) (tE G W (eAnd fa fb)) :=
  (pe_andT ha hb).impV fun σ H Q ⟨ρ, F, st, r, p⟩ => seqX r p fun ρ1 F1 H1 x c1 v x1 r1 rv1 p1 => by
    obtain ⟨k, t, p2⟩ := truStep (st := ⟨st.env, c1⟩) (kk := fun k => if k then fb ⟨st.env, c1⟩ else .ok x c1) r1 rv1 p1
    rw [hK]
    refine ⟨k, t, ?_⟩
    cases k with
    | true => exact tX_of (st := ⟨st.env, c1⟩) r1 p2
    | false => exact p2.here (st := ⟨st.env, c1⟩) r1 rv1
def lookD (f : Str) : List Str → List D → Option D
  | k :: ks, d :: ds => if f = k then some d else lookD f ks ds
  | _, _ => none
def gFldC (cn : Nat) (f : Str) : F1 := fun cs x => match x with
  | .obj C ks ds => if C = cn then (match lookD f ks ds with
    | some d => .ok d cs
    | none => .no) else .no
  | .loc n => (match cs[n]? with
    | some (.ins C ks ds) => if C = cn then (match lookD f ks ds with
      | some d => .ok d cs
      | none => .no) else .no
    | _ => .no)
  | _ => .no
end
end VL
namespace VL
open PySem L2
inductive SOut where
  | nx (st : S) | rt (d : D) (st : S) | bk (st : S) | ct (st : S) | ex (e : Exn) (st : S) | no
def SPost (G : Gx) (W : WX) (ρ : List Addr) (F : Hp) (E : Ends) : SOut → Prop
  | .nx st => ∀ ρ' F' σ' H', Ext ρ F ρ' F' → Rel G ρ' F' st σ' H' → E.nx σ' H'
  | .rt d st => ∀ ρ' F' σ' H' v, Ext ρ F ρ' F' → Rel G ρ' F' st σ' H' → RV G.K ρ' F' d v → E.rt v H'
  | .bk st => ∀ ρ' F' σ' H', Ext ρ F ρ' F' → Rel G ρ' F' st σ' H' → E.bk σ' H'
  | .ct st => ∀ ρ' F' σ' H', Ext ρ F ρ' F' → Rel G ρ' F' st σ' H' → E.ct σ' H'
  | .ex e st => ∀ ρ' F' σ' H' cls dx, Ext ρ F ρ' F' → Rel G ρ' F' st σ' H' → XAt G.K ρ' F' e cls dx → W cls dx σ' H'
  | .no => False
abbrev Sx := S → SOut
def tS (G : Gx) (W : WX) (f : Sx) : TS := fun E σ H => ∃ ρ F st, Rel G ρ F st σ H ∧ SPost G W ρ F E (f st)
section
variable {X : Cx} {G : Gx} {W : WX} {E : Ends} {ρ ρ' : List Addr} {F F' : Hp} {st : S} {σ : St} {H : Hp}
theorem SPost.ext (x : Ext ρ F ρ' F') : ∀ {o : SOut}, SPost G W ρ F E o → SPost G W ρ' F' E o
  | .nx _, h => fun ρ2 F2 s2 H2 y r => h ρ2 F2 s2 H2 (x.trans y) r
  | .rt _ _, h => fun ρ2 F2 s2 H2 v y r q => h ρ2 F2 s2 H2 v (x.trans y) r q
  | .bk _, h => fun ρ2 F2 s2 H2 y r => h ρ2 F2 s2 H2 (x.trans y) r
  | .ct _, h => fun ρ2 F2 s2 H2 y r => h ρ2 F2 s2 H2 (x.trans y) r
  | .ex _ _, h => fun ρ2 F2 s2 H2 c d y r q => h ρ2 F2 s2 H2 c d (x.trans y) r q
  | .no, h => h
def thenS {α : Type} (o : Out α) (env : List (Option D)) (k : α → S → SOut) : SOut := match o with
  | .ok a cs => k a ⟨env, cs⟩
  | .ex e cs => .ex e ⟨env, cs⟩
  | .no => .no
theorem seqS {α β : Type} {R : Kt → List Addr → Hp → α → β → Prop} {f : S → Out α} {k : α → S → SOut} {Q' : β → Hp → Prop} (r : Rel G ρ F st σ H) (p : SPost G W ρ F E (thenS (f st) st.env k))
    (h : ∀ ρ' F' H' a cs v, Ext ρ F ρ' F' → Rel G ρ' F' ⟨st.env, cs⟩ σ H' → R G.K ρ' F' a v → SPost G W ρ' F' E (k a ⟨st.env, cs⟩) → Q' v H') : tX R G W f σ H Q' := by
  refine ⟨ρ, F, st, r, ?_⟩
  cases e : f st with
  | ok a cs =>
    rw [e] at p
    exact fun ρ' F' H' v x r' rv => h ρ' F' H' a cs v x r' rv (SPost.ext x p)
  | ex e' cs =>
    rw [e] at p
    exact fun ρ' F' H' c d x r' q => p ρ' F' σ H' c d x r' q
  | no =>
    rw [e] at p
    exact p
theorem tS_of {f : Sx} (r : Rel G ρ F st σ H) (p : SPost G W ρ F E (f st)) : tS G W f E σ H := ⟨ρ, F, st, r, p⟩
variable {a b c e : Expr} {s : Stmt} {ss : List Stmt} {f g : Sx} {fa fb : Ex} {t : Tx} {pos : Pos}
def sSeq (f g : Sx) : Sx := fun st => match f st with
  | .nx st' => g st'
  | o => o
def sNil : Sx := fun st => .nx st
theorem ds_nil : PSs X [] (tS G W sNil) := pss_nil.impV fun D σ H ⟨ρ, F, st, r, p⟩ => p ρ F σ H Ext.refl r
theorem ds_one (h : PS X s (tS G W f)) : PSs X [s] (tS G W f) := pss_one h
theorem ds_cons (h : PS X s (tS G W f)) (h2 : PSs X ss (tS G W g)) : PSs X (s :: ss) (tS G W (sSeq f g)) := (pss_cons h h2).impV fun D σ H ⟨ρ, F, st, r, p⟩ => by
  refine ⟨ρ, F, st, r, ?_⟩
  unfold sSeq at p
  cases q : f st with
  | nx st' =>
    rw [q] at p
    exact fun ρ' F' σ' H' x r' => tS_of r' (SPost.ext x p)
  | rt d st' => rw [q] at p; exact p
  | bk st' => rw [q] at p; exact p
  | ct st' => rw [q] at p; exact p
  | ex e' st' => rw [q] at p; exact p
  | no => rw [q] at p; exact p
def sBrk : Sx := fun st => .bk st
def sCnt : Sx := fun st => .ct st
def sExpr (f : Ex) : Sx := fun st => thenS (f st) st.env fun _ st' => .nx st'
theorem ds_expr (h : PE X e (tE G W fa)) (hs : swapsWith e none pos.line X.env = pure false := by rfl) : PS X (.Expr e pos) (tS G W (sExpr fa)) :=
  (ps_expr h hs).impV fun D σ H ⟨ρ, F, st, r, p⟩ => seqS (f := fa) r p fun ρ1 F1 H1 x c1 v x1 r1 rv1 p1 => p1 ρ1 F1 σ H1 Ext.refl r1
def sRet (f : Ex) : Sx := fun st => thenS (f st) st.env fun d st' => .rt d st'
theorem ds_ret (h : PE X e (tE G W fa)) : PS X (.Return (some e) pos) (tS G W (sRet fa)) :=
  (ps_ret h).impV fun D σ H ⟨ρ, F, st, r, p⟩ => seqS (f := fa) r p fun ρ1 F1 H1 x c1 v x1 r1 rv1 p1 => p1 ρ1 F1 σ H1 v Ext.refl r1 rv1
def sIf (t : Tx) (f g : Sx) : Sx := fun st => thenS (t st) st.env fun k st' => if k then f st' else g st'
theorem ds_if {A B : List Stmt} (hc : PT X c (tTs G W t)) (ha : PSs X A (tS G W f)) (hb : PSs X B (tS G W g)) : PS X (.If c A B pos) (tS G W (sIf t f g)) :=
  (ps_if hc ha hb).impV fun D σ H ⟨ρ, F, st, r, p⟩ => seqS (R := RB) (f := t) r p fun ρ1 F1 H1 k c1 k' x1 r1 e p1 => by
    have e : k = k' := e
    subst e
    cases k with
    | true => exact tS_of r1 p1
    | false => exact tS_of r1 p1
abbrev Gt := D → S → Option S
abbrev Gts := List D → S → Option S
def gNm (i : Nat) : Gt := fun d st => some ⟨st.env.set i (some d), st.cs⟩
def gsNil : Gts := fun ds st => match ds with
  | [] => some st
  | _ => none
def gsCons (g : Gt) (gs : Gts) : Gts := fun ds st => match ds with
  | d :: r => (g d st).bind (gs r)
  | [] => none
def gTp (n : Nat) (gs : Gts) : Gt := fun d st => match d with
  | .tup ds => if ds.length = n then gs ds st else none
  | _ => none
/-- σ' is σ but at the slots sl -/
def But (sl : List Nat) (σ σ' : St) : Prop := σ'.length = σ.length ∧ ∀ j : Nat, j ∉ sl → σ'[j]? = σ[j]?
theorem But.refl {sl : List Nat} {σ : St} : But sl σ σ := ⟨rfl, fun _ _ => rfl⟩
theorem But.set {i : Nat} {σ : St} {v : Option V} : But [i] σ (σ.set i v) := ⟨List.length_set, fun j hj => List.getElem?_set_ne (fun z => hj (by rw [z]; exact List.mem_singleton.mpr rfl))⟩
theorem But.trans {s1 s2 : List Nat} {σ σ1 σ2 : St} (a : But s1 σ σ1) (b : But s2 σ1 σ2) : But (s1 ++ s2) σ σ2 :=
  ⟨b.1.trans a.1, fun j hj => (b.2 j fun z => hj (List.mem_append_right _ z)).trans (a.2 j fun z => hj (List.mem_append_left _ z))⟩
def tG (G : Gx) (sl : List Nat) (g : Gt) : TG := fun v σ H Q => ∃ ρ F st d st', Rel G ρ F st σ H ∧ RV G.K ρ F d v ∧ g d st = some st' ∧ ∀ σ', Rel G ρ F st' σ' H → But sl σ σ' → Q σ' H
def tGs (G : Gx) (sl : List Nat) (g : Gts) : TGs := fun vs σ H Q => ∃ ρ F st ds st', Rel G ρ F st σ H ∧ RVs G.K ρ F ds vs ∧ g ds st = some st' ∧ ∀ σ', Rel G ρ F st' σ' H → But sl σ σ' → Q σ' H
theorem _root_.L2.PG.impV {X : Cx} {e : Expr} {t t' : TG} (h : PG X e t) (m : ∀ v σ H Q, t' v σ H Q → t v σ H Q) : PG X e t' := ⟨fun pins s σ H v u Q I r hw => h.run pins s σ H v u Q I r (m _ _ _ _ hw)⟩
theorem _root_.L2.PGs.impV {X : Cx} {e : List Expr} {t t' : TGs} (h : PGs X e t) (m : ∀ v σ H Q, t' v σ H Q → t v σ H Q) : PGs X e t' := ⟨fun pins s σ H v u Q I r hw => h.run pins s σ H v u Q I r (m _ _ _ _ hw)⟩
variable {es : List Expr} {i : Nat} {x : Str}
theorem dg_name (hN : X.N.Nodup) (hi : X.N[i]? = some x := by rfl) (hx : Loc X.env.scope x := by first | exact Or.inl rfl | exact Or.inr rfl) (hf : X.fn x = true ∨ X.env.scope.names.lookup x = some .local := by first | exact .inl rfl | exact .inr rfl) : PG X (.Name x pos) (tG G [i] (gNm i)) :=
  (pg_name (i := i) hN hi hx hf).impV fun v σ H Q ⟨ρ, F, st, d, st', r, rv, e, q⟩ => by
    cases e
    exact q _ (r.slot rv) But.set
theorem dgs_nil : PGs X [] (tGs G [] gsNil) := pgs_nil.impV fun v σ H Q ⟨ρ, F, st, ds, st', r, rv, e, q⟩ => by
  cases rv with
  | nil => cases e; exact ⟨rfl, q _ r But.refl⟩
  | cons => cases e
theorem dgs_cons {s1 s2 : List Nat} {g : Gt} {gs : Gts} (h : PG X e (tG G s1 g)) (h2 : PGs X es (tGs G s2 gs)) (hs : (assignEach (e :: es) X.env).map (·.2) = assign e X.env :: (assignEach es X.env).map (·.2) := by rfl) : PGs X (e :: es) (tGs G (s1 ++ s2) (gsCons g gs)) :=
  (pgs_cons h h2 hs).impV fun v σ H Q ⟨ρ, F, st, ds, st', r, rv, e, q⟩ => by
    cases rv with
    | nil => cases e
    | @cons d ds v vs h1 h3 =>
      refine ⟨v, vs, rfl, ?_⟩
      have e : (g d st).bind (gs ds) = some st' := e
      cases q1 : g d st with
      | none => rw [q1] at e; cases e
      | some st1 =>
        rw [q1] at e
        exact ⟨ρ, F, st, d, st1, r, h1, q1, fun σ1 r1 b1 => ⟨ρ, F, st1, ds, st', r1, h3, e, fun σ2 r2 b2 => q σ2 r2 (b1.trans b2)⟩⟩
theorem dg_tup {n k : Nat} {sl : List Nat} {gs : Gts} (hK : X.K = G.K.K) (hc : X.calm = true) (h : PGs X es (tGs G sl gs)) (hn : (assignEach es X.env).length = n := by rfl) (hst : (assignEach es X.env).findIdx? (·.1) = none := by rfl) : PG X (.Tuple es k pos) (tG G sl (gTp n gs)) :=
  (pg_tup hc h hn hst).impV fun v σ H Q ⟨ρ, F, st, d, st', r, rv, e, q⟩ => by
    unfold gTp at e
    cases rv with
    | @tup a vs ds h1 h2 =>
      simp only at e
      by_cases c : ds.length = n
      · rw [if_pos c] at e
        rw [hK]
        exact ⟨a, vs, rfl, sqT_same r.fz h1, by rw [← h2.length]; exact c, ρ, F, st, ds, st', r, h2, e, q⟩
      · rw [if_neg c] at e
        cases e
    | _ => cases e
def asg (g : Gt) (d : D) (st : S) : SOut := match g d st with
  | some st' => .nx st'
  | none => .no
def sAsg (f : Ex) (g : Gt) : Sx := fun st => thenS (f st) st.env (asg g)
theorem asg_of {sl : List Nat} {g : Gt} {d : D} {v : V} (r : Rel G ρ F st σ H) (rv : RV G.K ρ F d v) (p : SPost G W ρ F E (asg g d st)) : tG G sl g v σ H E.nx := by
  unfold asg at p
  cases q : g d st with
  | none => rw [q] at p; exact p.elim
  | some st' =>
    rw [q] at p
    exact ⟨ρ, F, st, d, st', r, rv, q, fun σ' r' _ => p ρ F σ' H Ext.refl r'⟩
theorem ds_set {pos' : Pos} (hN : X.N.Nodup) (h : PE X e (tE G W fa)) (hi : X.N[i]? = some x := by rfl) (hx : Loc X.env.scope x := by first | exact Or.inl rfl | exact Or.inr rfl) (hs : swapsWith e (some (.Name x pos')) pos.line X.env = pure false := by rfl) (hf : X.fn x = true ∨ X.env.scope.names.lookup x = some .local := by first | exact .inl rfl | exact .inr rfl) : PS X (.Assign [.Name x pos'] e pos) (tS G W (sAsg fa (gNm i))) :=
  (ps_set (i := i) hN hi hx h hs hf).impV fun D σ H ⟨ρ, F, st, r, p⟩ => seqS (f := fa) r p fun ρ1 F1 H1 x c1 v x1 r1 rv1 p1 => p1 ρ1 F1 _ H1 Ext.refl (r1.slot rv1)
theorem ds_asg {tg : Expr} {sl : List Nat} {g : Gt} (h : PE X e (tE G W fa)) (hg : PG X tg (tG G sl g)) (hs : swapsWithSole [tg] e pos.line X.env = pure false := by rfl) (hw : swappedStores [tg] e X.env = pure none := by rfl) (h1 : (assignEach [tg] X.env).map (·.2) = [assign tg X.env] := by rfl) : PS X (.Assign [tg] e pos) (tS G W (sAsg fa g)) :=
  (ps_asg h hg hs hw h1).impV fun D σ H ⟨ρ, F, st, r, p⟩ => seqS (f := fa) r p fun ρ1 F1 H1 x c1 v x1 r1 rv1 p1 => asg_of r1 rv1 p1
/-- a, b = x, y -/
def sPar (is : List Nat) (g : Ax) : Sx := fun st => thenS (g st) st.env fun ds st' => match is, ds with
  | [i, j], [d, e] => .nx ⟨(st'.env.set i (some d)).set j (some e), st'.cs⟩
  | [i, j, k], [d, e, f] => .nx ⟨((st'.env.set i (some d)).set j (some e)).set k (some f), st'.cs⟩
  | _, _ => .no
theorem ds_par {j : Nat} {y : Str} {px py pt : Pos} {kt k2 pt2} {ga : Ax} (hc : X.calm = true) (hN : X.N.Nodup) (ha : PA X [a, b] (tAs G W ga)) (hij : i ≠ j) (hi : X.N[i]? = some x := by rfl) (hj : X.N[j]? = some y := by rfl)
    (hx : X.env.scope.names.lookup x = some .local := by rfl) (hy : X.env.scope.names.lookup y = some .local := by rfl)
    (hw : swappedStores [.Tuple [.Name x px, .Name y py] kt pt] (.Tuple [a, b] k2 pt2) X.env = pure (some [x, y]) := by rfl)
    (hs : swapsWithSole [.Tuple [.Name x px, .Name y py] kt pt] (.Tuple [a, b] k2 pt2) pos.line X.env = pure false := by rfl) :
    PS X (.Assign [.Tuple [.Name x px, .Name y py] kt pt] (.Tuple [a, b] k2 pt2) pos) (tS G W (sPar [i, j] ga)) :=
  (ps_par hc hN hi hj hij hx hy ha hw hs).impV fun D σ H ⟨ρ, F, st, r, p⟩ => seqS (R := RVs) (f := ga) r p fun ρ1 F1 H1 ds c1 vs x1 r1 rv1 p1 => by
    cases rv1 with
    | nil => exact p1.elim
    | cons h1 rv1 =>
      cases rv1 with
      | nil => exact p1.elim
      | cons h2 rv1 =>
        cases rv1 with
        | nil => exact ⟨_, _, rfl, p1 ρ1 F1 _ H1 Ext.refl ((r1.slot h1).slot h2)⟩
        | cons h3 rv1 => exact p1.elim
theorem ds_par3 {j l : Nat} {y z : Str} {px py pz pt : Pos} {kt k2 pt2} {ga : Ax} (hc : X.calm = true) (hN : X.N.Nodup) (ha : PA X [a, b, c] (tAs G W ga)) (hij : i ≠ j) (hil : i ≠ l) (hjl : j ≠ l) (hi : X.N[i]? = some x := by rfl) (hj : X.N[j]? = some y := by rfl) (hl : X.N[l]? = some z := by rfl)
    (hx : X.env.scope.names.lookup x = some .local := by rfl) (hy : X.env.scope.names.lookup y = some .local := by rfl) (hz : X.env.scope.names.lookup z = some .local := by rfl)
    (hw : swappedStores [.Tuple [.Name x px, .Name y py, .Name z pz] kt pt] (.Tuple [a, b, c] k2 pt2) X.env = pure (some [x, y, z]) := by rfl)
    (hs : swapsWithSole [.Tuple [.Name x px, .Name y py, .Name z pz] kt pt] (.Tuple [a, b, c] k2 pt2) pos.line X.env = pure false := by rfl) :
    PS X (.Assign [.Tuple [.Name x px, .Name y py, .Name z pz] kt pt] (.Tuple [a, b, c] k2 pt2) pos) (tS G W (sPar [i, j, l] ga)) :=
  (ps_par3 hc hN hi hj hl hij hil hjl hx hy hz ha hw hs).impV fun D σ H ⟨ρ, F, st, r, p⟩ => seqS (R := RVs) (f := ga) r p fun ρ1 F1 H1 ds c1 vs x1 r1 rv1 p1 => by
    cases rv1 with
    | nil => exact p1.elim
    | cons h1 rv1 =>
      cases rv1 with
      | nil => exact p1.elim
      | cons h2 rv1 =>
        cases rv1 with
        | nil => exact p1.elim
        | cons h3 rv1 =>
          cases rv1 with
          | nil => exact ⟨_, _, _, rfl, p1 ρ1 F1 _ H1 Ext.refl (((r1.slot h1).slot h2).slot h3)⟩
          | cons h4 rv1 => exact p1.elim
/-- x += e, x -= e of ints -/
def sAug (i : Nat) (g : Int → Int → Int) (f : Ex) : Sx := fun st => match st.env[i]? with
  | some (some (.int k)) => thenS (f st) st.env fun d st' => match d with
    | .int j => .nx ⟨st'.env.set i (some (.int (g k j))), st'.cs⟩
    | _ => .no
  | _ => .no
theorem ds_aug {op : Operator} {g : Int → Int → Int} {pos' : Pos} (hN : X.N.Nodup) (h : PE X e (tE G W fa)) (ho : PIp X op (ipI g)) (hi : X.N[i]? = some x := by rfl) (hx : Loc X.env.scope x := by first | exact Or.inl rfl | exact Or.inr rfl) (hf : X.fn x = true ∨ X.env.scope.names.lookup x = some .local := by first | exact .inl rfl | exact .inr rfl) :
    PS X (.AugAssign (.Name x pos') op e pos) (tS G W (sAug i g fa)) :=
  (ps_aug (i := i) hN hi hx h ho hf).impV fun D σ H ⟨ρ, F, st, r, p⟩ => by
    unfold sAug at p
    split at p
    · rename_i k q
      obtain ⟨v, e1, e2⟩ := r.env i _ q
      cases e2
      refine ⟨_, e1, seqS (f := fa) r p fun ρ1 F1 H1 d c1 w x1 r1 rv1 p1 => ?_⟩
      cases rv1 with
      | int j => exact ⟨_, _, rfl, rfl, p1 ρ1 F1 _ H1 Ext.refl (r1.slot (.int _))⟩
      | _ => exact p1.elim
    · exact p.elim
end
end VL
namespace VL
open PySem L2
/-- J gives ds, one after the other, as long as keep holds of the cells -/
def Wk (G : Gx) (ρ0 : List Addr) (F0 : Hp) (J : It) (ds : List D) (keep : List Cell → Bool) : Prop :=
  ∀ (ρ : List Addr) (F : Hp) (st : S) (σ : St) (H : Hp) (i : Nat), Ext ρ0 F0 ρ F → Rel G ρ F st σ H → keep st.cs = true →
    (∀ d, ds[i]? = some d → J.go i H ∧ ∀ x H', J.yld i H x H' → ∃ ρ' F', Ext ρ F ρ' F' ∧ ρ' = ρ ∧ (∀ b o, H b = some o → H' b = some o) ∧ Rel G ρ' F' st σ H' ∧ RV G.K ρ' F' d x) ∧ (i = ds.length → J.stop i H)
abbrev Walk := List D × (List Cell → Bool)
abbrev Ix := S → Out Walk
def tI (G : Gx) (W : WX) (src : Ix) : TI := fun σ H R => ∃ ρ F st, Rel G ρ F st σ H ∧ (match src st with
  | .ok w cs => ∀ ρ' F' H' J, Ext ρ F ρ' F' → Rel G ρ' F' ⟨st.env, cs⟩ σ H' → Wk G ρ' F' J w.1 w.2 → R J H'
  | .ex e cs => ∀ ρ' F' H' cls dx, Ext ρ F ρ' F' → Rel G ρ' F' ⟨st.env, cs⟩ σ H' → XAt G.K ρ' F' e cls dx → W cls dx σ H'
  | .no => False)
def keepAll : List Cell → Bool := fun _ => true
section
variable {X : Cx} {G : Gx} {W : WX} {ρ : List Addr} {F : Hp} {st : S} {σ : St} {H : Hp} {tg e : Expr} {es : List Expr} {fa : Ex} {pos : Pos}
theorem _root_.L2.PI.impV {X : Cx} {tg e : Expr} {t t' : TI} (h : PI X tg e t) (m : ∀ σ H R, t' σ H R → t σ H R) : PI X tg e t' := ⟨fun pins s σ H R I hw => h.run pins s σ H R I (m _ _ _ hw)⟩
theorem tI_of {α β : Type} {R : Kt → List Addr → Hp → α → β → Prop} {f : S → Out α} {k : α → List Cell → Out Walk} {Q : It → Hp → Prop} {Q' : β → Hp → Prop} (r : Rel G ρ F st σ H)
    (p : match (f st).bind k with
      | .ok w cs => ∀ ρ' F' H' J, Ext ρ F ρ' F' → Rel G ρ' F' ⟨st.env, cs⟩ σ H' → Wk G ρ' F' J w.1 w.2 → Q J H'
      | .ex e cs => ∀ ρ' F' H' cls dx, Ext ρ F ρ' F' → Rel G ρ' F' ⟨st.env, cs⟩ σ H' → XAt G.K ρ' F' e cls dx → W cls dx σ H'
      | .no => False)
    (h : ∀ ρ' F' H' a cs v, Ext ρ F ρ' F' → Rel G ρ' F' ⟨st.env, cs⟩ σ H' → R G.K ρ' F' a v → (∀ w, k a cs = .ok w cs → ∀ J, Wk G ρ' F' J w.1 w.2 → Q J H') → (k a cs ≠ .no) → Q' v H') (hk : ∀ a cs, (∃ w, k a cs = .ok w cs) ∨ k a cs = .no) : tX R G W f σ H Q' := by
  refine ⟨ρ, F, st, r, ?_⟩
  cases e : f st with
  | ok a cs =>
    rw [e] at p
    have p : match k a cs with
      | .ok w cs => ∀ ρ' F' H' J, Ext ρ F ρ' F' → Rel G ρ' F' ⟨st.env, cs⟩ σ H' → Wk G ρ' F' J w.1 w.2 → Q J H'
      | .ex e cs => ∀ ρ' F' H' cls dx, Ext ρ F ρ' F' → Rel G ρ' F' ⟨st.env, cs⟩ σ H' → XAt G.K ρ' F' e cls dx → W cls dx σ H'
      | .no => False := p
    rcases hk a cs with ⟨w, hw⟩ | hw
    · rw [hw] at p
      refine fun ρ' F' H' v x r' rv => h ρ' F' H' a cs v x r' rv (fun w' hw' J wk => ?_) (fun z => by rw [hw] at z; cases z)
      rw [hw] at hw'
      cases hw'
      exact p ρ' F' H' J x r' wk
    · rw [hw] at p
      exact p.elim
  | ex e' cs => rw [e] at p; exact p
  | no => rw [e] at p; exact p
theorem wk_list {a : Addr} {ds : List D} {vs : List V} (hs : SqL G.K.K F a vs) (rv : RVs G.K ρ F ds vs) : Wk G ρ F (Itl G.K.K a) ds keepAll := fun ρ1 F1 st1 σ1 H1 i x r _ => by
  have hs1 : SqL G.K.K H1 a vs := r.fz.seq (x.fz.seq hs)
  refine ⟨fun d e => ?_, fun e => ⟨vs, hs1, ?_⟩⟩
  · obtain ⟨v, e1, e2⟩ := (rv.ext x).get e
    exact ⟨⟨vs, v, hs1, e1⟩, fun y H' ⟨e3, e4⟩ => by
      subst e3
      have := e4 vs hs1
      rw [e1] at this
      cases this
      exact ⟨ρ1, F1, Ext.refl, rfl, fun _ _ h => h, r, e2⟩⟩
  · rw [← rv.length, e]
    exact Nat.le_refl _
theorem wk_tup {a : Addr} {ds : List D} {vs : List V} (hs : SqT G.K.K F a vs) (rv : RVs G.K ρ F ds vs) : Wk G ρ F (Itt G.K.K a) ds keepAll := fun ρ1 F1 st1 σ1 H1 i x r _ => by
  have hs1 : SqT G.K.K H1 a vs := sqT_same r.fz (sqT_same x.fz hs)
  refine ⟨fun d e => ?_, fun e => ⟨vs, hs1, ?_⟩⟩
  · obtain ⟨v, e1, e2⟩ := (rv.ext x).get e
    exact ⟨⟨vs, v, hs1, e1⟩, fun y H' ⟨e3, e4⟩ => by
      subst e3
      have := e4 vs hs1
      rw [e1] at this
      cases this
      exact ⟨ρ1, F1, Ext.refl, rfl, fun _ _ h => h, r, e2⟩⟩
  · rw [← rv.length, e]
    exact Nat.le_refl _
/-- for over a frozen list -/
def iL (f : Ex) : Ix := fun st => (f st).bind fun x c1 => match x with
  | .lst ds => .ok (ds, keepAll) c1
  | .frl ds => .ok (ds, keepAll) c1
  | _ => .no
theorem di_list (hK : X.K = G.K.K) (h : PE X e (tE G W fa)) : PI X tg e (tI G W (iL fa)) := (pi_list h).impV fun σ H R ⟨ρ, F, st, r, p⟩ => by
  refine tI_of (R := RV) r p (fun ρ1 F1 H1 x c1 v x1 r1 rv1 q hn => ?_) (fun x c1 => ?_)
  · rw [hK]
    cases rv1 with
    | lst h1 h2 => exact ⟨_, rfl, ⟨_, SqL.of (r1.fz _ _ h1)⟩, q _ rfl _ (wk_list (SqL.of h1) h2)⟩
    | frl h1 h2 => exact ⟨_, rfl, ⟨_, r1.fz.seq h1⟩, q _ rfl _ (wk_list h1 h2)⟩
    | _ => exact absurd rfl hn
  · cases x <;> first | exact .inl ⟨_, rfl⟩ | exact .inr rfl
/-- for over a tuple -/
def iT (f : Ex) : Ix := fun st => (f st).bind fun x c1 => match x with
  | .tup ds => .ok (ds, keepAll) c1
  | .btp ds => .ok (ds, keepAll) c1
  | _ => .no
theorem di_tup (hK : X.K = G.K.K) (h : PE X e (tE G W fa)) : PI X tg e (tI G W (iT fa)) := (pi_tup h).impV fun σ H R ⟨ρ, F, st, r, p⟩ => by
  refine tI_of (R := RV) r p (fun ρ1 F1 H1 x c1 v x1 r1 rv1 q hn => ?_) (fun x c1 => ?_)
  · rw [hK]
    cases rv1 with
    | tup h1 h2 => exact ⟨_, rfl, ⟨_, sqT_same r1.fz h1⟩, q _ rfl _ (wk_tup h1 h2)⟩
    | btp h1 _ h2 => exact ⟨_, rfl, ⟨_, sqT_same r1.fz (.inl (.inr ⟨_, h1⟩))⟩, q _ rfl _ (wk_tup (.inl (.inr ⟨_, h1⟩)) h2)⟩
    | _ => exact absurd rfl hn
  · cases x <;> first | exact .inl ⟨_, rfl⟩ | exact .inr rfl
/-- range(n), range(a, b) -/
def rangeD (lo : Int) (n : Nat) : List D := (List.range n).map fun i => .int (lo + (i : Nat))
theorem wk_range {lo : Int} {n : Nat} : Wk G ρ F (Itr lo n) (rangeD lo n) keepAll := fun ρ1 F1 st1 σ1 H1 i x r _ => by
  refine ⟨fun d e => ?_, fun e => ?_⟩
  · unfold rangeD at e
    rw [List.getElem?_map] at e
    by_cases c : i < n
    · rw [List.getElem?_range c] at e
      cases e
      refine ⟨c, fun y H' ⟨e3, e4⟩ => ?_⟩
      subst e3 e4
      exact ⟨ρ1, F1, Ext.refl, rfl, fun _ _ h => h, r, .int _⟩
    · rw [List.getElem?_eq_none_iff.mpr (by rw [List.length_range]; omega)] at e
      cases e
  · unfold rangeD at e
    rw [List.length_map, List.length_range] at e
    show n ≤ i
    omega
def iR1 (g : Ax) : Ix := fun st => (g st).bind fun xs c1 => match xs with
  | [.int j] => if decide (-(2 ^ 62) ≤ j) && decide (j < 2 ^ 62) then .ok (rangeD 0 j.toNat, keepAll) c1 else .no
  | _ => .no
theorem di_range1 {a : Expr} {g : Ax} {p pos : Pos} (hg : Gl X "range") (hm : X.mg "range" = none) (ha : PA X [a] (tAs G W g)) (hs : starEach [a] X.env = [(false, eval a X.env)] := by rfl) : PI X tg (.Call (.Name "range" p) [a] [] pos) (tI G W (iR1 g)) :=
  (pi_range1 hg hm ha hs).impV fun σ H R ⟨ρ, F, st, r, p⟩ => by
    refine tI_of (R := RVs) r p (fun ρ1 F1 H1 xs c1 v x1 r1 rv1 q hn => ?_) (fun xs c1 => ?_)
    · split at hn
      · rename_i j
        by_cases c : (decide (-(2 ^ 62) ≤ j) && decide (j < 2 ^ 62)) = true
        · have q := q (rangeD 0 j.toNat, keepAll) (by simp only [c, if_true]) _ wk_range
          simp only [Bool.and_eq_true, decide_eq_true_eq] at c
          cases rv1 with
          | cons h1 h2 =>
            cases h1
            cases h2
            exact ⟨j, rfl, c.1, c.2, q⟩
        · simp only [c, if_false] at hn
          exact absurd rfl hn
      · exact absurd rfl hn
    · split
      · split
        · exact .inl ⟨_, rfl⟩
        · exact .inr rfl
      · exact .inr rfl
def iR2 (g : Ax) : Ix := fun st => (g st).bind fun xs c1 => match xs with
  | [.int i, .int j] => if decide (-(2 ^ 62) ≤ i) && decide (i < 2 ^ 62) && decide (-(2 ^ 62) ≤ j) && decide (j < 2 ^ 62) then .ok (rangeD i (j - i).toNat, keepAll) c1 else .no
  | _ => .no
theorem di_range2 {a b : Expr} {g : Ax} {p pos : Pos} (hg : Gl X "range") (hm : X.mg "range" = none) (ha : PA X [a, b] (tAs G W g)) (hs : starEach [a, b] X.env = [(false, eval a X.env), (false, eval b X.env)] := by rfl) (hs2 : starEach [b] X.env = [(false, eval b X.env)] := by rfl) : PI X tg (.Call (.Name "range" p) [a, b] [] pos) (tI G W (iR2 g)) :=
  (pi_range2 hg hm ha hs hs2).impV fun σ H R ⟨ρ, F, st, r, p⟩ => by
    refine tI_of (R := RVs) r p (fun ρ1 F1 H1 xs c1 v x1 r1 rv1 q hn => ?_) (fun xs c1 => ?_)
    · split at hn
      · rename_i i j
        by_cases c : (decide (-(2 ^ 62) ≤ i) && decide (i < 2 ^ 62) && decide (-(2 ^ 62) ≤ j) && decide (j < 2 ^ 62)) = true
        · have q := q (rangeD i (j - i).toNat, keepAll) (by simp only [c, if_true]) _ wk_range
          simp only [Bool.and_eq_true, decide_eq_true_eq] at c
          cases rv1 with
          | cons h1 h2 =>
            cases h1
            cases h2 with
            | cons h1 h2 =>
              cases h1
              cases h2
              exact ⟨i, j, rfl, ⟨c.1.1.1, c.1.1.2, c.1.2, c.2⟩, q⟩
        · simp only [c, if_false] at hn
          exact absurd rfl hn
      · exact absurd rfl hn
    · split
      · split
        · exact .inl ⟨_, rfl⟩
        · exact .inr rfl
      · exact .inr rfl
/-- enumerate of a frozen list -/
def enumD (ds : List D) : List D := ds.mapIdx fun i d => .tup [.int (i : Nat), d]
theorem wk_enum {a : Addr} {ds : List D} {vs : List V} (hs : SqL G.K.K F a vs) (rv : RVs G.K ρ F ds vs) : Wk G ρ F (Ite G.K.K a) (enumD ds) keepAll := fun ρ1 F1 st1 σ1 H1 i x r _ => by
  have hs1 : SqL G.K.K H1 a vs := r.fz.seq (x.fz.seq hs)
  refine ⟨fun d e => ?_, fun e => ⟨vs, hs1, ?_⟩⟩
  · unfold enumD at e
    rw [List.getElem?_mapIdx] at e
    cases q : ds[i]? with
    | none => rw [q] at e; cases e
    | some d0 =>
      rw [q] at e
      cases e
      obtain ⟨v, e1, e2⟩ := (rv.ext x).get q
      refine ⟨⟨vs, v, hs1, e1⟩, fun y H' ⟨T, u, e3, e4, e5, e6⟩ => ?_⟩
      have := e6 vs hs1
      rw [e1] at this
      cases this
      subst e3 e5
      obtain ⟨x2, r2⟩ := r.fresh (o := .tup [.int (i : Nat), v]) e4
      exact ⟨ρ1, _, x2, rfl, same_upd' e4, r2, .tup (SqT.of upd_same) (.cons (.int _) (.cons (e2.ext x2) .nil))⟩
  · unfold enumD at e
    rw [List.length_mapIdx] at e
    rw [← rv.length]
    omega
def iEn (g : Ax) : Ix := fun st => (g st).bind fun xs c1 => match xs with
  | [.lst ds] => .ok (enumD ds, keepAll) c1
  | [.frl ds] => .ok (enumD ds, keepAll) c1
  | _ => .no
theorem di_enum {g : Ax} {p pos tpos : Pos} {elts : List Expr} {kk : Nat} (hK : X.K = G.K.K) (hg : Gl X "enumerate") (hm : X.mg "enumerate" = none) (ha : PA X [e] (tAs G W g)) (hs : starEach [e] X.env = [(false, eval e X.env)] := by rfl) :
    PI X (.Tuple elts kk tpos) (.Call (.Name "enumerate" p) [e] [] pos) (tI G W (iEn g)) :=
  (pi_enum hg hm ha hs).impV fun σ H R ⟨ρ, F, st, r, p⟩ => by
    refine tI_of (R := RVs) r p (fun ρ1 F1 H1 xs c1 v x1 r1 rv1 q hn => ?_) (fun xs c1 => ?_)
    · rw [hK]
      split at hn
      · cases rv1 with
        | cons h1 h2 =>
          cases h2
          cases h1 with
          | lst h1 h2 => exact ⟨_, _, rfl, SqL.of (r1.fz _ _ h1), q _ rfl _ (wk_enum (SqL.of h1) h2)⟩
      · cases rv1 with
        | cons h1 h2 =>
          cases h2
          cases h1 with
          | frl h1 h2 => exact ⟨_, _, rfl, r1.fz.seq h1, q _ rfl _ (wk_enum h1 h2)⟩
      · exact absurd rfl hn
    · split <;> first | exact .inl ⟨_, rfl⟩ | exact .inr rfl
def forL (g : Gt) (body : Sx) (keep : List Cell → Bool) : List D → S → SOut
  | [], st => if keep st.cs then .nx st else .no
  | d :: ds, st => if keep st.cs then (match g d st with
    | some st1 => (match body st1 with
      | .nx st2 => forL g body keep ds st2
      | .ct st2 => forL g body keep ds st2
      | .bk st2 => .nx st2
      | o => o)
    | none => .no) else .no
def sFor (src : Ix) (g : Gt) (body : Sx) : Sx := fun st => thenS (src st) st.env fun w st' => forL g body w.2 w.1 st'
theorem ds_for {body : List Stmt} {src : Ix} {sl : List Nat} {g : Gt} {f : Sx} (hp : PassesOwn (model X.prog X.w) X.A X.env X.xe) (hc : X.calm = true) (hi : PI X tg e (tI G W src)) (hg : PG X tg (tG G sl g)) (hb : PSs X body (tS G W f)) (hs : ∀ x, foldedSetIterable e X.env x = pure x := by intro _; rfl) :
    PS X (.For tg e body [] pos) (tS G W (sFor src g f)) := (ps_for hp hc hi hg hb hs).impV fun D σ H ⟨ρ, F, st, r, p⟩ => by
  refine ⟨ρ, F, st, r, ?_⟩
  unfold sFor at p
  cases q : src st with
  | no => rw [q] at p; exact p
  | ex e' cs =>
    rw [q] at p
    exact fun ρ' F' H' c d x r' xa => p ρ' F' σ H' c d x r' xa
  | ok w cs =>
    rw [q] at p
    obtain ⟨ds, keep⟩ := w
    intro ρ' F' H' J x r' wk
    refine ⟨fun i m σ1 H1 => ∃ ρ1 F1 st1, Ext ρ' F' ρ1 F1 ∧ Rel G ρ1 F1 st1 σ1 H1 ∧ i + m = ds.length ∧ SPost G W ρ1 F1 D (forL g f keep (ds.drop i) st1), ⟨ds.length, ρ', F', _, Ext.refl, r', Nat.zero_add _, SPost.ext x p⟩, ?_⟩
    rintro i m σ1 H1 ⟨ρ1, F1, st1, x1, r1, em, p1⟩
    cases hd : ds.drop i with
    | nil =>
      rw [hd] at p1
      unfold forL at p1
      have hi : i = ds.length := by
        have := List.drop_eq_nil_iff.mp hd
        omega
      by_cases hk : keep st1.cs = true
      · rw [if_pos hk] at p1
        exact .inl ⟨(wk ρ1 F1 st1 σ1 H1 i x1 r1 hk).2 hi, p1 ρ1 F1 σ1 H1 Ext.refl r1⟩
      · rw [if_neg hk] at p1
        exact p1.elim
    | cons d rest =>
      rw [hd] at p1
      unfold forL at p1
      have hi : ds[i]? = some d := by
        have := List.getElem?_drop (xs := ds) (i := i) (j := 0)
        rw [hd, Nat.add_zero] at this
        exact this.symm
      have hr : ds.drop (i + 1) = rest := by
        rw [← List.drop_drop, hd]; rfl
      by_cases hk : keep st1.cs = true
      · rw [if_pos hk] at p1
        obtain ⟨go, yl⟩ := (wk ρ1 F1 st1 σ1 H1 i x1 r1 hk).1 d hi
        refine .inr ⟨go, fun σ2 H2 => ∃ ρ2 F2 st2, Ext ρ' F' ρ2 F2 ∧ Rel G ρ2 F2 st2 σ2 H2 ∧ SPost G W ρ2 F2 D (forL g f keep rest st2), fun σ2 H2 ⟨ρ2, F2, st2, x2, r2, p2⟩ => ⟨m - 1, ?_, ρ2, F2, st2, x2, r2, ?_, by rw [hr]; exact p2⟩, fun y H2 hy => ?_⟩
        · have := (List.getElem?_eq_some_iff.mp hi).1
          omega
        · have := (List.getElem?_eq_some_iff.mp hi).1
          omega
        · obtain ⟨ρ3, F3, x3, _, _, r3, rv3⟩ := yl y H2 hy
          have p3 := SPost.ext x3 p1
          cases q3 : g d st1 with
          | none => simp only [q3] at p3; exact p3.elim
          | some st3 =>
            simp only [q3] at p3
            refine ⟨ρ3, F3, st1, d, st3, r3, rv3, q3, fun σ4 r4 _ => ⟨ρ3, F3, st3, r4, ?_⟩⟩
            cases q4 : f st3 with
            | nx st4 =>
              simp only [q4] at p3
              exact fun ρ5 F5 σ5 H5 x5 r5 => ⟨ρ5, F5, st4, (x1.trans x3).trans x5, r5, SPost.ext x5 p3⟩
            | ct st4 =>
              simp only [q4] at p3
              exact fun ρ5 F5 σ5 H5 x5 r5 => ⟨ρ5, F5, st4, (x1.trans x3).trans x5, r5, SPost.ext x5 p3⟩
            | bk st4 =>
              simp only [q4] at p3
              exact p3
            | rt d4 st4 => simp only [q4] at p3; exact p3
            | ex e4 st4 => simp only [q4] at p3; exact p3
            | no => simp only [q4] at p3; exact p3
      · rw [if_neg hk] at p1
        exact p1.elim
def whL (t : Tx) (body : Sx) : Nat → S → SOut
  | 0, _ => .no
  | n + 1, st => thenS (t st) st.env fun k st1 => if k then (match body st1 with
    | .nx st2 => whL t body n st2
    | .ct st2 => whL t body n st2
    | .bk st2 => .nx st2
    | o => o) else .nx st1
def sWhile (fuel : S → Nat) (t : Tx) (body : Sx) : Sx := fun st => whL t body (fuel st) st
theorem ds_while {c : Expr} {body : List Stmt} {fuel : S → Nat} {t : Tx} {f : Sx} (hp : PassesOwn (model X.prog X.w) X.A X.env X.xe) (hc : PT X c (tTs G W t)) (hb : PSs X body (tS G W f)) : PS X (.While c body [] pos) (tS G W (sWhile fuel t f)) :=
  (ps_while hp hc hb).impV fun D σ H ⟨ρ, F, st, r, p⟩ => by
    refine ⟨fun m σ1 H1 => ∃ ρ1 F1 st1, Rel G ρ1 F1 st1 σ1 H1 ∧ SPost G W ρ1 F1 D (whL t f m st1), ⟨fuel st, ρ, F, st, r, p⟩, ?_⟩
    rintro m σ1 H1 ⟨ρ1, F1, st1, r1, p1⟩
    cases m with
    | zero => exact p1.elim
    | succ n =>
      unfold whL at p1
      refine seqS (R := RB) (f := t) r1 p1 fun ρ2 F2 H2 k c2 k' x2 r2 e p2 => ?_
      have e : k = k' := e
      subst e
      cases k with
      | false => exact p2 ρ2 F2 σ1 H2 Ext.refl r2
      | true =>
        rw [if_pos rfl]
        rw [if_pos rfl] at p2
        refine ⟨fun σ3 H3 => ∃ ρ3 F3 st3, Rel G ρ3 F3 st3 σ3 H3 ∧ SPost G W ρ3 F3 D (whL t f n st3), fun σ3 H3 h3 => ⟨n, Nat.lt_succ_self n, h3⟩, ρ2, F2, _, r2, ?_⟩
        cases q4 : f ⟨st1.env, c2⟩ with
        | nx st4 =>
          simp only [q4] at p2
          exact fun ρ5 F5 σ5 H5 x5 r5 => ⟨ρ5, F5, st4, r5, SPost.ext x5 p2⟩
        | ct st4 =>
          simp only [q4] at p2
          exact fun ρ5 F5 σ5 H5 x5 r5 => ⟨ρ5, F5, st4, r5, SPost.ext x5 p2⟩
        | bk st4 => simp only [q4] at p2; exact p2
        | rt d4 st4 => simp only [q4] at p2; exact p2
        | ex e4 st4 => simp only [q4] at p2; exact p2
        | no => simp only [q4] at p2; exact p2
end
end VL
namespace VL
open PySem L2
/-- nothing is raised -/
abbrev W0 : WX := fun _ _ _ _ => False
def wipeD (env : List (Option D)) : List Nat → List (Option D)
  | [] => env
  | v :: vs => (wipeD env vs).set v none
theorem wipeD_length (env : List (Option D)) : ∀ vs : List Nat, (wipeD env vs).length = env.length
  | [] => rfl
  | v :: vs => by unfold wipeD; rw [List.length_set, wipeD_length env vs]
theorem wipeD_some {env : List (Option D)} {i : Nat} {x : D} : ∀ {vs : List Nat}, (wipeD env vs)[i]? = some (some x) → env[i]? = some (some x) ∧ i ∉ vs
  | [], h => ⟨h, by simp⟩
  | v :: vs, h => by
    unfold wipeD at h
    by_cases hi : v = i
    · subst hi
      by_cases hv : v < (wipeD env vs).length
      · rw [List.getElem?_set_self hv] at h; cases h
      · rw [List.getElem?_eq_none (by simpa using hv)] at h; cases h
    · rw [List.getElem?_set_ne hi] at h
      obtain ⟨h1, h2⟩ := wipeD_some h
      exact ⟨h1, by simp only [List.mem_cons, not_or]; exact ⟨fun e => hi e.symm, h2⟩⟩
theorem wipe_get {σ : St} {j : Nat} : ∀ {vs : List Nat}, (wipe σ vs)[j]? = if j ∈ vs then (if j < σ.length then some none else none) else σ[j]?
  | [] => by simp [wipe]
  | v :: vs => by
    unfold wipe
    by_cases hj : v = j
    · subst hj
      rw [if_pos List.mem_cons_self]
      by_cases hv : v < σ.length
      · rw [if_pos hv, List.getElem?_set_self (by rw [wipe_length]; exact hv)]
      · rw [if_neg hv, List.getElem?_eq_none (by rw [List.length_set, wipe_length]; omega)]
    · rw [List.getElem?_set_ne hj, wipe_get (vs := vs)]
      by_cases h : j ∈ vs
      · rw [if_pos h, if_pos (List.mem_cons_of_mem _ h)]
      · rw [if_neg h, if_neg (fun z => (List.mem_cons.mp z).elim (fun e => hj e.symm) h)]
theorem wipe_but {vs sl : List Nat} {σ σ' : St} (h : But sl (wipe σ vs) σ') (hs : ∀ i ∈ sl, i ∈ vs) : wipe σ' vs = wipe σ vs := by
  have hl : σ'.length = σ.length := by rw [h.1, wipe_length]
  refine List.ext_getElem? fun j => ?_
  rw [wipe_get, wipe_get]
  by_cases hj : j ∈ vs
  · rw [if_pos hj, if_pos hj, hl]
  · rw [if_neg hj, if_neg hj, h.2 j (fun z => hj (hs j z)), wipe_get, if_neg hj]
section
variable {X : Cx} {G : Gx} {ρ ρ' : List Addr} {F F' : Hp} {st : S} {σ σ' : St} {H H' : Hp}
theorem Rel.wiped (r : Rel G ρ F st σ H) (vs : List Nat) : Rel G ρ F ⟨wipeD st.env vs, st.cs⟩ (wipe σ vs) H :=
  ⟨by show (wipeD st.env vs).length = _; rw [wipeD_length, wipe_length, r.len], fun i d e => by
    obtain ⟨h1, h2⟩ := wipeD_some e
    obtain ⟨v, e1, e2⟩ := r.env i d h1
    exact ⟨v, by rw [wipe_get, if_neg h2]; exact e1, e2⟩, r.cl, r.cell, r.nd, r.fz, r.sep, r.fr, r.own, r.new, r.old, r.a0⟩
/-- back to elder slots -/
theorem Rel.back {env env' : List (Option D)} {cs cs' : List Cell} (r : Rel G ρ F ⟨env, cs⟩ σ H) (x : Ext ρ F ρ' F') (r' : Rel G ρ' F' ⟨env', cs'⟩ σ' H') : Rel G ρ' F' ⟨env, cs'⟩ σ H' :=
  ⟨r.len, fun i d e => let ⟨v, e1, e2⟩ := r.env i d e; ⟨v, e1, e2.ext x⟩, r'.cl, r'.cell, r'.nd, r'.fz, r'.sep, r'.fr, r'.own, r'.new, r'.old, r'.a0⟩
end
/-- one more than the last own cell that is named; 0 if there is none -/
def mxN (a b : Nat) : Nat := Nat.add a (Nat.sub b a)
def mx (d : D) : Nat := D.rec (motive_1 := fun _ => Nat) (motive_2 := fun _ => Nat) 0 (fun _ => 0) (fun _ => 0) (fun _ => 0) (fun _ i => i) (fun _ i => i) (fun _ i => i) (fun _ _ _ i => i) (fun _ _ i => i) (fun _ i => i) (fun _ _ i j => mxN i j) (fun _ _ _ i => i) (fun _ => 0) (fun m => Nat.succ m) 0 (fun _ _ i j => mxN i j) d
def mxs (ds : List D) : Nat := D.rec_1 (motive_1 := fun _ => Nat) (motive_2 := fun _ => Nat) 0 (fun _ => 0) (fun _ => 0) (fun _ => 0) (fun _ i => i) (fun _ i => i) (fun _ i => i) (fun _ _ _ i => i) (fun _ _ i => i) (fun _ i => i) (fun _ _ i j => mxN i j) (fun _ _ _ i => i) (fun _ => 0) (fun m => Nat.succ m) 0 (fun _ _ i j => mxN i j) ds
def leN (a n : Nat) : Bool := Nat.rec true (fun k _ => Nat.ble (Nat.succ k) n) a
theorem leN_eq {a n : Nat} : leN a n = decide (a ≤ n) := by
  cases a with
  | zero =>
    show true = _
    simp
  | succ k =>
    show Nat.ble (k + 1) n = _
    rw [Bool.eq_iff_iff, Nat.ble_eq, decide_eq_true_eq]
theorem leN_max {a b n : Nat} : leN (mxN a b) n = (leN a n && leN b n) := by
  rw [leN_eq, leN_eq, leN_eq, Bool.eq_iff_iff, Bool.and_eq_true, decide_eq_true_eq, decide_eq_true_eq, decide_eq_true_eq]
  show a + (b - a) ≤ n ↔ _
  omega
def below (n : Nat) (d : D) : Bool := leN (mx d) n
def belows (n : Nat) (ds : List D) : Bool := leN (mxs ds) n
theorem below_non {n : Nat} : below n (.non) = true := rfl
theorem below_bl {n : Nat} {b : Bool} : below n (.bl b) = true := rfl
theorem below_int {n : Nat} {i : Int} : below n (.int i) = true := rfl
theorem below_str {n : Nat} {x : Str} : below n (.str x) = true := rfl
theorem below_tup {n : Nat} {ds : List D} : below n (.tup ds) = belows n ds := rfl
theorem below_lst {n : Nat} {ds : List D} : below n (.lst ds) = belows n ds := rfl
theorem below_frl {n : Nat} {ds : List D} : below n (.frl ds) = belows n ds := rfl
theorem below_obj {n : Nat} {C : Nat} {ks : List Str} {ds : List D} : below n (.obj C ks ds) = belows n ds := rfl
theorem below_dct {n : Nat} {ks : List Key} {ds : List D} : below n (.dct ks ds) = belows n ds := rfl
theorem below_btp {n : Nat} {ds : List D} : below n (.btp ds) = belows n ds := rfl
theorem below_dcn {n : Nat} {ks : List D} {ds : List D} : below n (.dcn ks ds) = (belows n ks && belows n ds) := leN_max
theorem below_exn {n : Nat} {C : Nat} {ks : List Str} {ds : List D} : below n (.exn C ks ds) = belows n ds := rfl
theorem below_cls {n : Nat} {C : Nat} : below n (.cls C) = true := rfl
theorem below_loc {n : Nat} {m : Nat} : below n (.loc m) = decide (m < n) := leN_eq
theorem belows_nil {n : Nat} : belows n [] = true := rfl
theorem belows_cons {n : Nat} {d : D} {r : List D} : belows n (d :: r) = (below n d && belows n r) := leN_max
def belowC (n : Nat) : Cell → Bool
  | .lst ds => belows n ds
  | .dk _ ds => belows n ds
  | .ins _ _ ds => belows n ds
  | .tbl _ _ => true
  | .dn ks ds => belows n ks && belows n ds
mutual
theorem RV.cut {K : Kt} {ρ : List Addr} {F F' : Hp} {n : Nat} (s : Same F F') : ∀ {d : D} {v : V}, RV K ρ F d v → below n d = true → RV K (ρ.take n) F' d v
  | _, _, .non, _ => .non
  | _, _, .bl b, _ => .bl b
  | _, _, .int i, _ => .int i
  | _, _, .str x, _ => .str x
  | _, _, .tup h r, e => .tup (sqT_same s h) (RVs.cut s r (by simpa [below_non, below_bl, below_int, below_str, below_tup, below_lst, below_frl, below_obj, below_dct, below_btp, below_dcn, below_exn, below_cls, below_loc] using e))
  | _, _, .lst h r, e => .lst (s _ _ h) (RVs.cut s r (by simpa [below_non, below_bl, below_int, below_str, below_tup, below_lst, below_frl, below_obj, below_dct, below_btp, below_dcn, below_exn, below_cls, below_loc] using e))
  | _, _, .frl h r, e => .frl (s.seq h) (RVs.cut s r (by simpa [below_non, below_bl, below_int, below_str, below_tup, below_lst, below_frl, below_obj, below_dct, below_btp, below_dcn, below_exn, below_cls, below_loc] using e))
  | _, _, .obj h l r, e => .obj (s _ _ h) l (RVs.cut s r (by simpa [below_non, below_bl, below_int, below_str, below_tup, below_lst, below_frl, below_obj, below_dct, below_btp, below_dcn, below_exn, below_cls, below_loc] using e))
  | _, _, .dct h l r, e => .dct (s _ _ h) l (RVs.cut s r (by simpa [below_non, below_bl, below_int, below_str, below_tup, below_lst, below_frl, below_obj, below_dct, below_btp, below_dcn, below_exn, below_cls, below_loc] using e))
  | _, _, .dcn h n o k r, e => by
    simp only [below_non, below_bl, below_int, below_str, below_tup, below_lst, below_frl, below_obj, below_dct, below_btp, below_dcn, below_exn, below_cls, below_loc, Bool.and_eq_true] at e
    exact .dcn (s _ _ h) n o (RVs.cut s k e.1) (RVs.cut s r e.2)
  | _, _, .exn h1 h2 l r, e => .exn (s _ _ h1) (s _ _ h2) l (RVs.cut s r (by simpa [below_non, below_bl, below_int, below_str, below_tup, below_lst, below_frl, below_obj, below_dct, below_btp, below_dcn, below_exn, below_cls, below_loc] using e))
  | _, _, .ex0 h, _ => .ex0 (s _ _ h)
  | _, _, .btp h l r, e => .btp (s _ _ h) l (RVs.cut s r (by simpa [below_non, below_bl, below_int, below_str, below_tup, below_lst, below_frl, below_obj, below_dct, below_btp, below_dcn, below_exn, below_cls, below_loc] using e))
  | _, _, .cls C, _ => .cls C
  | _, _, .loc h, e => .loc (by
    simp only [below_non, below_bl, below_int, below_str, below_tup, below_lst, below_frl, below_obj, below_dct, below_btp, below_dcn, below_exn, below_cls, below_loc, decide_eq_true_eq] at e
    rw [List.getElem?_take_of_lt e]
    exact h)
theorem RVs.cut {K : Kt} {ρ : List Addr} {F F' : Hp} {n : Nat} (s : Same F F') : ∀ {ds : List D} {vs : List V}, RVs K ρ F ds vs → belows n ds = true → RVs K (ρ.take n) F' ds vs
  | _, _, .nil, _ => .nil
  | _, _, .cons h r, e => by
    simp only [belows_nil, belows_cons, Bool.and_eq_true] at e
    exact .cons (RV.cut s h e.1) (RVs.cut s r e.2)
end
theorem CellAt.cut {K : Kt} {ρ : List Addr} {F F' H : Hp} {a : Addr} {n : Nat} (s : Same F F') : ∀ {c : Cell}, CellAt K ρ F H a c → belowC n c = true → CellAt K (ρ.take n) F' H a c
  | .lst _, ⟨_, h, r⟩, e => ⟨_, h, r.cut s e⟩
  | .dk _ _, ⟨_, h, l, r⟩, e => ⟨_, h, l, r.cut s e⟩
  | .ins _ _ _, ⟨_, _, h, l, r⟩, e => ⟨_, _, h, l, r.cut s e⟩
  | .tbl _ _, ⟨z, _, h, t, c⟩, _ => ⟨z, _, h, t, fun pos cv q => (c pos cv q).imp fun b ⟨w1, w2⟩ => ⟨w1, s _ _ w2⟩⟩
  | .dn _ _, ⟨_, _, _, h, n, o, k, r⟩, e => by
    have e : (belows _ _ && belows _ _) = true := e
    rw [Bool.and_eq_true] at e
    exact ⟨_, _, _, h, n, o, k.cut s e.1, r.cut s e.2⟩
/-- the last own cell, a list, becomes a frozen one: its place leaves the cells -/
theorem Rel.freeze {G : Gx} {ρ0 ρ : List Addr} {F0 F : Hp} {env0 env : List (Option D)} {cs0 cs : List Cell} {ds : List D} {σ0 σ : St} {H0 H : Hp} {a : Addr} {n : Nat} (r0 : Rel G ρ0 F0 ⟨env0, cs0⟩ σ0 H0) (hn : n = cs0.length) (x : Ext ρ0 F0 ρ F)
    (r : Rel G ρ F ⟨env, cs ++ [.lst ds]⟩ σ H) (hl : cs.length = n) (ha : ρ[n]? = some a) (b1 : belows n ds = true) (b2 : cs.all (belowC n) = true) :
    ∃ F', Ext ρ0 F0 ρ0 F' ∧ Rel G ρ0 F' ⟨env0, cs⟩ σ0 H ∧ RV G.K ρ0 F' (.lst ds) (.ref a) := by
  have hρ : ρ.take n = ρ0 := by
    obtain ⟨t, rfl⟩ := x.pre
    rw [hn, ← show ρ0.length = cs0.length from r0.cl, List.take_left]
  obtain ⟨vs, h1, h2⟩ := r.cell n (.lst ds) a (by
    show (cs ++ [Cell.lst ds])[n]? = _
    rw [List.getElem?_append_right (by omega), hl, Nat.sub_self]; rfl) ha
  have hm : a ∈ ρ := List.mem_of_getElem? ha
  have hFa : F a = none := r.sep a hm
  have s1 : Same F (upd F a (.lst vs)) := same_upd' hFa
  have hlen : ρ.length = n + 1 := by rw [show ρ.length = (cs ++ [Cell.lst ds]).length from r.cl, List.length_append, hl]; rfl
  have hna : a ∉ ρ0 := fun z => by
    rw [← hρ] at z
    obtain ⟨i, hi, e⟩ := List.getElem_of_mem z
    rw [List.length_take] at hi
    have hin : i < n := by omega
    rw [List.getElem_take] at e
    obtain ⟨h3, h3'⟩ := List.getElem?_eq_some_iff.mp ha
    have := (List.getElem_inj r.nd).mp (e.trans h3'.symm)
    omega
  have hA : a ∉ G.A0 := fun z => hna (r0.a0.subset z)
  have hH0 : G.H0 a = none := (r.own a hm).resolve_left hA
  refine ⟨upd F a (.lst vs), ⟨List.prefix_refl _, x.fz.trans s1⟩, ⟨r0.len, fun i d e => ?_, ?_, fun i c b e1 e2 => ?_, r0.nd, fun b o e => ?_, fun b hb => ?_, r.fr, fun b hb => r.own b (x.pre.subset hb), fun b o e => ?_, r.old.trans s1, r0.a0⟩, ?_⟩
  · obtain ⟨v, e1, e2⟩ := r0.env i d e
    exact ⟨v, e1, e2.ext ⟨List.prefix_refl _, x.fz.trans s1⟩⟩
  · show ρ0.length = cs.length
    rw [hl, hn]; exact r0.cl
  · have e1 : cs[i]? = some c := e1
    have hi : i < cs.length := (List.getElem?_eq_some_iff.mp e1).1
    have e3 : ρ[i]? = some b := x.at e2
    have := r.cell i c b (by show (cs ++ [Cell.lst ds])[i]? = _; rw [List.getElem?_append_left hi]; exact e1) e3
    have q := this.cut (n := n) s1 (List.all_eq_true.mp b2 c (List.mem_of_getElem? e1))
    rw [hρ] at q
    exact q
  · by_cases hb : b = a
    · subst hb
      rw [upd_same] at e
      cases e
      exact h1
    · rw [upd_ne hb] at e
      exact r.fz b o e
  · rw [upd_ne (show b ≠ a from fun z => hna (by rw [← z]; exact hb))]
    exact r.sep b (x.pre.subset hb)
  · by_cases hb : b = a
    · subst hb
      exact .inr hH0
    · rw [upd_ne hb] at e
      exact r.new b o e
  · have q := h2.cut (n := n) s1 b1
    rw [hρ] at q
    exact .lst upd_same q
/-- the list is made in the cell n -/
def lcL (g : Gt) (t : Tx) (f : Ex) (keep : List Cell → Bool) (env : List (Option D)) (n : Nat) : List D → List Cell → Option (List Cell)
  | [], cs => if keep cs then some cs else none
  | d :: ds, cs => if keep cs then (match g d ⟨env, cs⟩ with
    | some st1 => (match t st1 with
      | .ok true c2 => (match f ⟨st1.env, c2⟩ with
        | .ok y c3 => (match c3[n]? with
          | some (.lst acc) => if acc.length < 16777216 then lcL g t f keep env n ds (c3.set n (.lst (acc ++ [y]))) else none
          | _ => none)
        | _ => none)
      | .ok false c2 => lcL g t f keep env n ds c2
      | _ => none)
    | none => none) else none
/-- split off the last cell -/
def lastCell (cs : List Cell) : Option (List Cell × List D) := match cs.reverse with
  | .lst ds :: r => some (r.reverse, ds)
  | _ => none
theorem lastCell_eq {cs c1 : List Cell} {ds : List D} (h : lastCell cs = some (c1, ds)) : cs = c1 ++ [.lst ds] := by
  unfold lastCell at h
  split at h
  · rename_i es r e
    cases h
    rw [← List.reverse_reverse cs, e, List.reverse_cons]
  · cases h
/-- a comprehension's list, frozen -/
def eLc (src : Ix) (g : Gt) (t : Tx) (f : Ex) (vs : List Nat) : Ex := fun st => (src st).bind fun w c1 => match lcL g t f w.2 (wipeD st.env vs) c1.length w.1 (c1 ++ [.lst []]) with
  | some c2 => (match lastCell c2 with
    | some (c3, ds) => if c3.length = c1.length ∧ belows c1.length ds = true ∧ c3.all (belowC c1.length) = true then .ok (.lst ds) c3 else .no
    | none => .no)
  | none => .no
section
variable {X : Cx} {G : Gx} {W : WX} {tg iter elt : Expr} {ifs : List Expr}
theorem lc_of {src : Ix} {sl vs : List Nat} {g : Gt} {t : Tx} {f : Ex} (hsl : ∀ i ∈ sl, i ∈ vs) {k : S → Walk → List Cell → List Cell → Out D} {σ : St} {H : Hp} {Q : VK} {ρ : List Addr} {F : Hp} {st : S} (r : Rel G ρ F st σ H)
    (p : Post RV G W ρ F st.env σ Q ((src st).bind fun w c1 => match lcL g t f w.2 (wipeD st.env vs) c1.length w.1 (c1 ++ [.lst []]) with
      | some c2 => k st w c1 c2
      | none => .no))
    (fin : ∀ (w : Walk) (c1 c2 : List Cell) (ρ1 : List Addr) (F1 H1 : Hp) (ρ2 : List Addr) (F2 H2 : Hp) (a : Addr), Ext ρ F ρ1 F1 → Rel G ρ1 F1 ⟨st.env, c1⟩ σ H1 → Ext (ρ1 ++ [a]) F1 ρ2 F2 → Rel G ρ2 F2 ⟨st.env, c2⟩ σ H2 → ρ1.length = c1.length → Post RV G W ρ F st.env σ Q (k st w c1 c2) → Q (.ref a) H2) :
    tLc (tI G W src) (tG G sl g) (tTs G W0 t) (tE G W0 f) vs σ H Q := by
  refine ⟨ρ, F, st, r, ?_⟩
  cases q : src st with
  | no => rw [q] at p; exact p
  | ex e' cs =>
    rw [q] at p
    exact fun ρ' F' H' c d x r' xa => p ρ' F' H' c d x r' xa
  | ok w c1 =>
    rw [q] at p
    have p : Post RV G W ρ F st.env σ Q (match lcL g t f w.2 (wipeD st.env vs) c1.length w.1 (c1 ++ [.lst []]) with
      | some c2 => k st w c1 c2
      | none => .no) := p
    cases q2 : lcL g t f w.2 (wipeD st.env vs) c1.length w.1 (c1 ++ [.lst []]) with
    | none => rw [q2] at p; exact p.elim
    | some c2 =>
    rw [q2] at p
    obtain ⟨ds, keep⟩ := w
    have q2 : lcL g t f keep (wipeD st.env vs) c1.length ds (c1 ++ [.lst []]) = some c2 := q2
    intro ρ1 F1 H1 J x1 r1 wk D hD
    have hl1 : ρ1.length = c1.length := r1.cl
    have y0 : Ext ρ1 F1 (ρ1 ++ [D]) F1 := ⟨List.prefix_append _ _, Same.refl _⟩
    obtain ⟨_, r2⟩ := r1.cellNew (p := D) (o := .lst []) (c := .lst []) hD ⟨[], upd_same, .nil⟩
    refine ⟨fun i m H2 => ∃ ρ2 F2 cs, Ext (ρ1 ++ [D]) F1 ρ2 F2 ∧ Rel G ρ2 F2 ⟨st.env, cs⟩ σ H2 ∧ i + m = ds.length ∧ lcL g t f keep (wipeD st.env vs) c1.length (ds.drop i) cs = some c2, ⟨ds.length, ρ1 ++ [D], F1, _, Ext.refl, r2, Nat.zero_add _, q2⟩, ?_⟩
    rintro i m H2 ⟨ρ2, F2, cs, x2, r2, em, e2⟩
    cases hd : ds.drop i with
    | nil =>
      rw [hd] at e2
      unfold lcL at e2
      have hi : i = ds.length := by
        have := List.drop_eq_nil_iff.mp hd
        omega
      by_cases hk : keep cs = true
      · rw [if_pos hk] at e2
        cases e2
        exact .inl ⟨(wk ρ2 F2 _ σ H2 i (y0.trans x2) r2 hk).2 hi, fin _ _ _ _ _ _ _ _ _ _ x1 r1 x2 r2 hl1 p⟩
      · rw [if_neg hk] at e2
        cases e2
    | cons d rest =>
      rw [hd] at e2
      unfold lcL at e2
      have hi : ds[i]? = some d := by
        have := List.getElem?_drop (xs := ds) (i := i) (j := 0)
        rw [hd, Nat.add_zero] at this
        exact this.symm
      have hr : ds.drop (i + 1) = rest := by
        rw [← List.drop_drop, hd]; rfl
      by_cases hk : keep cs = true
      · rw [if_pos hk] at e2
        obtain ⟨go, yl⟩ := (wk ρ2 F2 _ σ H2 i (y0.trans x2) r2 hk).1 d hi
        refine .inr ⟨go, fun H3 => ∃ ρ3 F3 cs3, Ext (ρ1 ++ [D]) F1 ρ3 F3 ∧ Rel G ρ3 F3 ⟨st.env, cs3⟩ σ H3 ∧ lcL g t f keep (wipeD st.env vs) c1.length rest cs3 = some c2, fun H3 ⟨ρ3, F3, cs3, x3, r3, e3⟩ => ⟨m - 1, ?_, ρ3, F3, cs3, x3, r3, ?_, by rw [hr]; exact e3⟩, fun y H3 hy => ?_⟩
        · have := (List.getElem?_eq_some_iff.mp hi).1
          omega
        · have := (List.getElem?_eq_some_iff.mp hi).1
          omega
        · obtain ⟨ρ3, F3, x3, _, _, r3, rv3⟩ := yl y H3 hy
          have x23 := x2.trans x3
          cases q3 : g d ⟨wipeD st.env vs, cs⟩ with
          | none => simp only [q3] at e2; cases e2
          | some st1 =>
            simp only [q3] at e2
            refine ⟨ρ3, F3, _, d, st1, r3.wiped vs, rv3, q3, fun σ4 r4 b4 => ⟨wipe_but b4 hsl, ρ3, F3, st1, r4, ?_⟩⟩
            cases q4 : t st1 with
            | no => simp only [q4] at e2; cases e2
            | ex _ _ => simp only [q4] at e2; cases e2
            | ok b c4 =>
              intro ρ5 F5 H5 b' x5 r5 eb
              have eb : b = b' := eb
              subst eb
              cases b with
              | false =>
                simp only [q4] at e2
                exact ⟨ρ5, F5, c4, x23.trans x5, r3.back x5 r5, e2⟩
              | true =>
                simp only [q4] at e2
                rw [if_pos rfl]
                refine ⟨ρ5, F5, _, r5, ?_⟩
                cases q6 : f ⟨st1.env, c4⟩ with
                | no => simp only [q6] at e2; cases e2
                | ex _ _ => simp only [q6] at e2; cases e2
                | ok z c6 =>
                  simp only [q6] at e2
                  intro ρ7 F7 H7 v x7 r7 rv7
                  cases q7 : c6[c1.length]? with
                  | none => simp only [q7] at e2; cases e2
                  | some c0 =>
                    cases c0 with
                    | dk _ _ => simp only [q7] at e2; cases e2
                    | dn _ _ => simp only [q7] at e2; cases e2
                    | tbl _ _ => simp only [q7] at e2; cases e2
                    | ins _ _ _ => simp only [q7] at e2; cases e2
                    | lst acc =>
                      simp only [q7] at e2
                      by_cases hz : acc.length < 16777216
                      · rw [if_pos hz] at e2
                        have x27 := (x23.trans x5).trans x7
                        have hat : ρ7[c1.length]? = some D := x27.at (by
                          rw [← hl1, List.getElem?_append_right (Nat.le_refl _), Nat.sub_self]; rfl)
                        obtain ⟨ws, h8, h9⟩ := r7.cell _ _ _ q7 hat
                        refine ⟨ws, h8, by rw [← h9.length, sizeLine_eq]; exact hz, ρ7, F7, _, x27, ?_, e2⟩
                        have r8 := r3.back (x5.trans x7) r7
                        exact r8.cellSet (c := .lst (acc ++ [z])) hat ⟨_, upd_same, h9.append (RVs.one rv7)⟩
                      · rw [if_neg hz] at e2
                        cases e2
      · rw [if_neg hk] at e2
        cases e2
variable {scope : Scope} {own : List (Str × Nat)} {pos : Pos} {src : Ix} {sl : List Nat} {g : Gt} {t : Tx} {f : Ex}
theorem eLc_of (hsl : ∀ i ∈ sl, i ∈ own.map (·.2)) : ∀ σ H Q, tE G W (eLc src g t f (own.map (·.2))) σ H Q → tLc (tI G W src) (tG G sl g) (tTs G W0 t) (tE G W0 f) (own.map (·.2)) σ H Q := fun σ H Q ⟨ρ, F, st, r, p⟩ =>
  lc_of hsl (k := fun _ _ c1 c2 => match lastCell c2 with
    | some (c3, ds) => if c3.length = c1.length ∧ belows c1.length ds = true ∧ c3.all (belowC c1.length) = true then .ok (.lst ds) c3 else .no
    | none => .no) r p fun w c1 c2 ρ1 F1 H1 ρ2 F2 H2 a x1 r1 x2 r2 hl p2 => by
    cases q : lastCell c2 with
    | none => simp only [q] at p2; exact p2.elim
    | some z =>
      obtain ⟨c3, ds⟩ := z
      simp only [q] at p2
      have e := lastCell_eq q
      subst e
      by_cases c : c3.length = c1.length ∧ belows c1.length ds = true ∧ c3.all (belowC c1.length) = true
      · rw [if_pos c] at p2
        have y0 : Ext ρ1 F1 (ρ1 ++ [a]) F1 := ⟨List.prefix_append _ _, Same.refl _⟩
        obtain ⟨F', x3, r3, rv3⟩ := Rel.freeze (a := a) r1 rfl (y0.trans x2) r2 c.1 (x2.at (by rw [← hl, List.getElem?_append_right (Nat.le_refl _), Nat.sub_self]; rfl)) c.2.1 c.2.2
        exact p2 ρ1 F' H2 _ (x1.trans x3) r3 rv3
      · rw [if_neg c] at p2
        exact p2.elim
theorem de_lc (hc : X.calm = true) (hN : X.N.Nodup) (hi : PI X tg iter (tI G W src)) (ok : BlkOk X.N X.env.scope scope own) (hsl : ∀ i ∈ sl, i ∈ own.map (·.2))
    (hg : ∀ (s : Shared) (H : Hp) (C : Addr) (cl : List (Str × Addr)) (fp : List Addr), PG (X.blk s H scope (compEnvC scope cl C X.env) fp) tg (tG G sl g)) (ht : ∀ (s : Shared) (H : Hp) (C : Addr) (cl : List (Str × Addr)) (fp : List Addr), PTs (X.blk s H scope (compEnvC scope cl C X.env) fp) ifs (tTs G W0 t))
    (he : ∀ (s : Shared) (H : Hp) (C : Addr) (cl : List (Str × Addr)) (fp : List Addr), PE (X.blk s H scope (compEnvC scope cl C X.env) fp) elt (tE G W0 f)) (hs : ∀ x, foldedSetIterable iter X.env x = pure x := by intro _; rfl) :
    PE X (.ListComp elt [⟨tg, iter, ifs, 0⟩] scope pos) (tE G W (eLc src g t f (own.map (·.2)))) := (pe_lc hc hN hi ok hg ht he hs).impV (eLc_of hsl)
def tTrue : Tx := fun st => .ok true st.cs
theorem dts_nil : PTs X [] (tTs G W tTrue) := ⟨fun pins s σ H Q I ⟨ρ, F, st, r, p⟩ => pts_nil.run pins s σ H Q I (p.here r rfl)⟩
theorem dts_one {c : Expr} (h : PT X c (tTs G W t)) : PTs X [c] (tTs G W t) := pts_one h
end
end VL
namespace VL
open PySem L2
abbrev Fn := List D → List Cell → Out D
/-- the entry's facts: what is handed in and the cells that may be changed -/
def OPost (G : Gx) (Q : VK) (E : XK) : Out D → Prop
  | .ok d cs => ∀ ρ F H v, Ext G.A0 G.F0 ρ F → Rel G ρ F ⟨[], cs⟩ [] H → RV G.K ρ F d v → Q v H
  | .ex e cs => ∀ ρ F H cls dx, Ext G.A0 G.F0 ρ F → Rel G ρ F ⟨[], cs⟩ [] H → XAt G.K ρ F e cls dx → E cls dx H
  | .no => False
def spF (K : Kt) (n : Nat) (fn : Fn) : Sp := fun vs H Q E => ∃ (ρ0 : List Addr) (F0 : Hp) (ds : List D) (cs : List Cell), Rel ⟨K, H, F0, ρ0⟩ ρ0 F0 ⟨[], cs⟩ [] H ∧ RVs K ρ0 F0 ds vs ∧ ds.length = n ∧ OPost ⟨K, H, F0, ρ0⟩ Q E (fn ds cs)
theorem spF_len {K : Kt} {n : Nat} {fn : Fn} {vs : List V} {H : Hp} {Q : VK} {E : XK} (h : spF K n fn vs H Q E) : vs.length = n := by
  obtain ⟨ρ0, F0, ds, cs, _, r, e, _⟩ := h
  rw [← r.length, e]
def startD (n : Nat) (ds : List D) : List (Option D) := ds.map some ++ List.replicate (n - ds.length) none
/-- a body as a function; its own cells stay -/
def runF (n : Nat) (body : Sx) : Fn := fun ds cs => match body ⟨startD n ds, cs⟩ with
  | .rt d st => .ok d st.cs
  | .nx st => .ok .non st.cs
  | .ex e st => .ex e st.cs
  | _ => .no
theorem start_rel {G : Gx} {ρ : List Addr} {F H : Hp} {cs : List Cell} {ds : List D} {vs : List V} {N : List Str} (r : Rel G ρ F ⟨[], cs⟩ [] H) (rv : RVs G.K ρ F ds vs) : Rel G ρ F ⟨startD N.length ds, cs⟩ (start N vs) H := by
  refine ⟨?_, fun i d e => ?_, r.cl, r.cell, r.nd, r.fz, r.sep, r.fr, r.own, r.new, r.old, r.a0⟩
  · show (startD N.length ds).length = _
    unfold startD L2.start
    rw [List.length_append, List.length_append, List.length_map, List.length_map, List.length_replicate, List.length_replicate, rv.length]
  · have e : (startD N.length ds)[i]? = some (some d) := e
    unfold startD at e
    unfold L2.start
    by_cases hi : i < ds.length
    · rw [List.getElem?_append_left (by rw [List.length_map]; exact hi), List.getElem?_map] at e
      cases q : ds[i]? with
      | none => rw [q] at e; cases e
      | some d' =>
        rw [q] at e
        cases e
        obtain ⟨v, e1, e2⟩ := rv.get q
        refine ⟨v, ?_, e2⟩
        rw [List.getElem?_append_left (by rw [List.length_map, ← rv.length]; exact hi), List.getElem?_map, e1]
        rfl
    · rw [List.getElem?_append_right (by rw [List.length_map]; omega), List.getElem?_replicate] at e
      split at e <;> cases e
theorem Rel.noenv {G : Gx} {ρ : List Addr} {F H : Hp} {st : S} {σ : St} (r : Rel G ρ F st σ H) : Rel G ρ F ⟨[], st.cs⟩ [] H :=
  ⟨rfl, fun i d e => by simp at e, r.cl, r.cell, r.nd, r.fz, r.sep, r.fr, r.own, r.new, r.old, r.a0⟩
section
variable {P : Program} {w : World} {K : Kt} {mg : Str → Option Value} {base : Heap}
theorem body_of {N : List Str} {body : Sx} {vs : List V} {H : Hp} {Q : VK} {E : XK} {ps : Nat} (h : spF K ps (runF N.length body) vs H Q E) :
    ∃ G : Gx, G.K = K ∧ tS G (fun cls d _ H' => E cls d H') body { nx := fun _ H' => Q .non H', rt := Q } (start N vs) H := by
  obtain ⟨ρ0, F0, ds, cs, r, rv, _, p⟩ := h
  refine ⟨⟨K, H, F0, ρ0⟩, rfl, ρ0, F0, _, start_rel r rv, ?_⟩
  unfold runF at p
  cases q : body ⟨startD N.length ds, cs⟩ with
  | nx st => rw [q] at p; exact fun ρ F σ H x r' => p ρ F H .non x r'.noenv .non
  | rt d st => rw [q] at p; exact fun ρ F σ H v x r' rv' => p ρ F H v x r'.noenv rv'
  | ex e st => rw [q] at p; exact fun ρ F σ H c d x r' xa => p ρ F H c d x r'.noenv xa
  | bk st => rw [q] at p; exact p.elim
  | ct st => rw [q] at p; exact p.elim
  | no => rw [q] at p; exact p.elim
end
section
variable {X : Cx} {G : Gx} {W : WX} {ρ : List Addr} {F : Hp} {st : S} {σ : St} {H : Hp} {e : Expr} {es : List Expr} {g : Ax} {pos : Pos}
/-- what a call leaves, seen from the caller -/
theorem Rel.after {ρ' : List Addr} {F' H' : Hp} {cs' : List Cell} (r : Rel G ρ F st σ H) (x : Ext ρ F ρ' F') (r' : Rel ⟨G.K, H, F, ρ⟩ ρ' F' ⟨[], cs'⟩ [] H') : Rel G ρ' F' ⟨st.env, cs'⟩ σ H' := by
  have old : ∀ a, a ∈ ρ → a ∈ G.A0 ∨ G.H0 a = none := r.own
  refine ⟨r.len, fun i d e => ?_, r'.cl, r'.cell, r'.nd, r'.fz, r'.sep, fun a o e1 e2 => ?_, fun a ha => ?_, fun a o e1 => ?_, r.old.trans x.fz, r.a0.trans x.pre⟩
  · obtain ⟨v, e1, e2⟩ := r.env i d e
    exact ⟨v, e1, e2.ext x⟩
  · refine r'.fr a o (r.fr a o e1 e2) fun z => ?_
    rcases old a z with q | q
    · exact e2 q
    · rw [q] at e1; cases e1
  · rcases r'.own a ha with q | q
    · exact old a q
    · exact .inr (r.free0 q)
  · rcases r'.new a o e1 with q | q
    · exact r.new a o q
    · exact .inr (r.free0 q)
theorem Rel.entry (r : Rel G ρ F st σ H) : Rel ⟨G.K, H, F, ρ⟩ ρ F ⟨[], st.cs⟩ [] H :=
  ⟨rfl, fun i d e => by simp at e, r.cl, r.cell, r.nd, r.fz, r.sep, fun _ _ h _ => h, fun _ h => .inl h, fun _ _ h => .inl h, Same.refl _, List.prefix_refl _⟩
def eCallAll (fn : Fn) (g : Ax) : Ex := fun st => (g st).bind fun ds c1 => fn ds c1
theorem callAll_of {fn : Fn} {ds : List D} {vs : List V} {Q : VK} {n : Nat} (r : Rel G ρ F st σ H) (rv : RVs G.K ρ F ds vs) (hn : ds.length = n) (p : Post RV G W ρ F st.env σ Q (fn ds st.cs)) : spF G.K n fn vs H Q (WE W σ) := by
  refine ⟨ρ, F, ds, st.cs, r.entry, rv, hn, ?_⟩
  cases q : fn ds st.cs with
  | ok d cs' => rw [q] at p; exact fun ρ' F' H' v x r' rv' => p ρ' F' H' v x (r.after x r') rv'
  | ex e cs' => rw [q] at p; exact fun ρ' F' H' c d x r' xa => p ρ' F' H' c d x (r.after x r') xa
  | no => rw [q] at p; exact p
/-- the cells from n on are lent as frozen lists -/
def lendD (n : Nat) (cs : List Cell) : D → D
  | .loc m => if m < n then .loc m else (match cs[m]? with
    | some (.lst ds) => .lst ds
    | _ => .loc m)
  | d => d
def noLst (d : D) : Bool := D.rec (motive_1 := fun _ => Bool) (motive_2 := fun _ => Bool) true (fun _ => true) (fun _ => true) (fun _ => true) (fun _ i => i) (fun _ _ => false) (fun _ _ => false) (fun _ _ _ i => i) (fun _ _ i => i) (fun _ i => i) (fun _ _ i j => i && j) (fun _ _ _ i => i) (fun _ => true) (fun _ => true) true (fun _ _ i j => i && j) d
def noLsts (ds : List D) : Bool := D.rec_1 (motive_1 := fun _ => Bool) (motive_2 := fun _ => Bool) true (fun _ => true) (fun _ => true) (fun _ => true) (fun _ i => i) (fun _ _ => false) (fun _ _ => false) (fun _ _ _ i => i) (fun _ _ i => i) (fun _ i => i) (fun _ _ i j => i && j) (fun _ _ _ i => i) (fun _ => true) (fun _ => true) true (fun _ _ i j => i && j) ds
theorem noLst_non : noLst (.non) = true := rfl
theorem noLst_bl {b : Bool} : noLst (.bl b) = true := rfl
theorem noLst_int {i : Int} : noLst (.int i) = true := rfl
theorem noLst_str {x : Str} : noLst (.str x) = true := rfl
theorem noLst_tup {ds : List D} : noLst (.tup ds) = noLsts ds := rfl
theorem noLst_lst {ds : List D} : noLst (.lst ds) = false := rfl
theorem noLst_frl {ds : List D} : noLst (.frl ds) = false := rfl
theorem noLst_obj {C : Nat} {ks : List Str} {ds : List D} : noLst (.obj C ks ds) = noLsts ds := rfl
theorem noLst_dct {ks : List Key} {ds : List D} : noLst (.dct ks ds) = noLsts ds := rfl
theorem noLst_btp {ds : List D} : noLst (.btp ds) = noLsts ds := rfl
theorem noLst_dcn {ks : List D} {ds : List D} : noLst (.dcn ks ds) = (noLsts ks && noLsts ds) := rfl
theorem noLst_exn {C : Nat} {ks : List Str} {ds : List D} : noLst (.exn C ks ds) = noLsts ds := rfl
theorem noLst_cls {C : Nat} : noLst (.cls C) = true := rfl
theorem noLst_loc {m : Nat} : noLst (.loc m) = true := rfl
theorem noLsts_nil : noLsts [] = true := rfl
theorem noLsts_cons {d : D} {r : List D} : noLsts (d :: r) = (noLst d && noLsts r) := rfl
def noLstC : Cell → Bool
  | .lst ds => noLsts ds
  | .dk _ ds => noLsts ds
  | .dn ks ds => noLsts ks && noLsts ds
  | .ins _ _ ds => noLsts ds
  | .tbl _ _ => true
/-- a call that is handed the first n cells -/
def callV (n : Nat) (fn : Fn) (ds : List D) (cs : List Cell) : Out D :=
  if n ≤ cs.length ∧ belows n (ds.map (lendD n cs)) = true ∧ (cs.take n).all (belowC n) = true then
    match fn (ds.map (lendD n cs)) (cs.take n) with
    | .ok d cs' => if cs'.length = n ∧ (belows n ds = true ∨ (noLst d = true ∧ cs'.all noLstC = true)) then .ok d (cs' ++ cs.drop n) else .no
    | .ex e cs' => if cs'.length = n ∧ (belows n ds = true ∨ (noLsts e.ds = true ∧ cs'.all noLstC = true)) then .ex e (cs' ++ cs.drop n) else .no
    | .no => .no
  else .no
/-- the heap that is lent: the lists among the cells from n on are frozen -/
def lentF (ρ : List Addr) (n : Nat) (F H : Hp) : Hp := fun a => if a ∈ ρ.drop n then (match H a with
  | some (.lst vs) => some (.lst vs)
  | _ => none) else F a
/-- .. and taken back -/
def backF (ρ : List Addr) (n : Nat) (F' : Hp) : Hp := fun a => if a ∈ ρ.drop n then none else F' a
section
variable {n : Nat} {F' H' : Hp}
theorem drop_mem {a : Addr} (h : a ∈ ρ.drop n) : a ∈ ρ := List.mem_of_mem_drop h
theorem Rel.sameLent (r : Rel G ρ F st σ H) : Same F (lentF ρ n F H) := fun a o e => by
  unfold lentF
  by_cases h : a ∈ ρ.drop n
  · rw [r.sep a (drop_mem h)] at e; cases e
  · rw [if_neg h]; exact e
theorem lent_same (r : Rel G ρ F st σ H) : Same (lentF ρ n F H) H := fun a o e => by
  unfold lentF at e
  by_cases h : a ∈ ρ.drop n
  · rw [if_pos h] at e
    cases q : H a with
    | none => rw [q] at e; cases e
    | some u =>
      rw [q] at e
      cases u <;> first | cases e <;> rfl | cases e
  · rw [if_neg h] at e
    exact r.fz a o e
theorem take_drop_ne {a : Addr} (nd : ρ.Nodup) (h1 : a ∈ ρ.take n) (h2 : a ∈ ρ.drop n) : False := by
  have := List.take_append_drop n ρ
  rw [← this] at nd
  exact (List.nodup_append.mp nd).2.2 a h1 a h2 rfl
/-- the entry of such a call -/
theorem Rel.entryN (r : Rel G ρ F st σ H) (hn : n ≤ st.cs.length) (hb : (st.cs.take n).all (belowC n) = true) : Rel ⟨G.K, H, lentF ρ n F H, ρ.take n⟩ (ρ.take n) (lentF ρ n F H) ⟨[], st.cs.take n⟩ [] H := by
  refine ⟨rfl, fun i d e => by simp at e, ?_, fun i c a e1 e2 => ?_, r.nd.sublist (List.take_sublist _ _), lent_same r, fun a ha => ?_, fun _ _ h _ => h, fun _ h => .inl h, fun _ _ h => .inl h, Same.refl _, List.prefix_refl _⟩
  · show (ρ.take n).length = (st.cs.take n).length
    rw [List.length_take, List.length_take, r.cl]
  · have e1 : (st.cs.take n)[i]? = some c := e1
    have hi : i < n := by
      have := (List.getElem?_eq_some_iff.mp e1).1
      rw [List.length_take] at this
      omega
    have q := r.cell i c a (by rw [← List.getElem?_take_of_lt hi]; exact e1) (by rw [← List.getElem?_take_of_lt hi]; exact e2)
    exact q.cut r.sameLent (List.all_eq_true.mp hb c (List.mem_of_getElem? e1))
  · unfold lentF
    rw [if_neg fun z => take_drop_ne r.nd ha z]
    exact r.sep a (List.mem_of_mem_take ha)
theorem lend_rel (r : Rel G ρ F st σ H) : ∀ {ds : List D} {vs : List V}, RVs G.K ρ F ds vs → belows n (ds.map (lendD n st.cs)) = true → RVs G.K (ρ.take n) (lentF ρ n F H) (ds.map (lendD n st.cs)) vs
  | _, _, .nil, _ => .nil
  | d :: ds, v :: vs, .cons h t, e => by
    rw [List.map_cons] at e ⊢
    simp only [belows_nil, belows_cons, Bool.and_eq_true] at e
    refine .cons ?_ (lend_rel r t e.2)
    have e := e.1
    cases h with
    | @loc m a h =>
      unfold lendD at e ⊢
      simp only at e ⊢
      by_cases c : m < n
      · rw [if_pos c] at e ⊢
        exact .loc (by rw [List.getElem?_take_of_lt c]; exact h)
      · rw [if_neg c] at e ⊢
        cases q : st.cs[m]? with
        | none => simp only [q, below_non, below_bl, below_int, below_str, below_tup, below_lst, below_frl, below_obj, below_dct, below_btp, below_dcn, below_exn, below_cls, below_loc, decide_eq_true_eq] at e; exact absurd e c
        | some c0 =>
          cases c0 with
          | lst es =>
            simp only [q, below_non, below_bl, below_int, below_str, below_tup, below_lst, below_frl, below_obj, below_dct, below_btp, below_dcn, below_exn, below_cls, below_loc] at e ⊢
            obtain ⟨vs, h1, h2⟩ := r.cell m _ _ q h
            have hm : a ∈ ρ.drop n := by
              refine List.mem_of_getElem? (i := m - n) ?_
              rw [List.getElem?_drop, Nat.add_sub_cancel' (by omega)]
              exact h
            refine .lst ?_ (h2.cut r.sameLent e)
            unfold lentF
            rw [if_pos hm, h1]
          | dk _ _ => simp only [q, below_non, below_bl, below_int, below_str, below_tup, below_lst, below_frl, below_obj, below_dct, below_btp, below_dcn, below_exn, below_cls, below_loc, decide_eq_true_eq] at e; exact absurd e c
          | dn _ _ => simp only [q, below_non, below_bl, below_int, below_str, below_tup, below_lst, below_frl, below_obj, below_dct, below_btp, below_dcn, below_exn, below_cls, below_loc, decide_eq_true_eq] at e; exact absurd e c
          | tbl _ _ => simp only [q, below_non, below_bl, below_int, below_str, below_tup, below_lst, below_frl, below_obj, below_dct, below_btp, below_dcn, below_exn, below_cls, below_loc, decide_eq_true_eq] at e; exact absurd e c
          | ins _ _ _ => simp only [q, below_non, below_bl, below_int, below_str, below_tup, below_lst, below_frl, below_obj, below_dct, below_btp, below_dcn, below_exn, below_cls, below_loc, decide_eq_true_eq] at e; exact absurd e c
    | non => exact .non
    | bl b => exact .bl b
    | int i => exact .int i
    | str x => exact .str x
    | tup h1 h2 => exact RV.cut r.sameLent (.tup h1 h2) e
    | lst h1 h2 => exact RV.cut r.sameLent (.lst h1 h2) e
    | frl h1 h2 => exact RV.cut r.sameLent (.frl h1 h2) e
    | obj h1 h2 h3 => exact RV.cut r.sameLent (.obj h1 h2 h3) e
    | dct h1 h2 h3 => exact RV.cut r.sameLent (.dct h1 h2 h3) e
    | dcn h1 h2 h3 h4 h5 => exact RV.cut r.sameLent (.dcn h1 h2 h3 h4 h5) e
    | exn h1 h2 h3 h4 => exact RV.cut r.sameLent (.exn h1 h2 h3 h4) e
    | ex0 h1 => exact RV.cut r.sameLent (.ex0 h1) e
    | btp h1 h2 h3 => exact RV.cut r.sameLent (.btp h1 h2 h3) e
    | cls C => exact .cls C
/-- what is frozen behind the call and is no lent list stays behind -/
theorem lent_back {Fl : Hp} (r : Rel G ρ F st σ H) (hf : ∀ a o, Fl a = some o → lentF ρ n F H a = some o ∨ H a = none) {a : Addr} {o : HO} (e : Fl a = some o) (hno : ∀ vs, o ≠ .lst vs) : backF ρ n Fl a = some o := by
  unfold backF
  by_cases h : a ∈ ρ.drop n
  · rcases hf a o e with q | q
    · unfold lentF at q
      rw [if_pos h] at q
      cases z : H a with
      | none => rw [z] at q; cases q
      | some u =>
        rw [z] at q
        cases u <;> first | (cases q; exact absurd rfl (hno _)) | cases q
    · exact absurd (drop_mem h) (r.free q)
  · rw [if_neg h]; exact e
mutual
theorem RV.lentBack {Fl : Hp} (r : Rel G ρ F st σ H) (hf : ∀ a o, Fl a = some o → lentF ρ n F H a = some o ∨ H a = none) : ∀ {d : D} {v : V}, RV G.K (ρ.take n) Fl d v → noLst d = true → RV G.K ρ (backF ρ n Fl) d v
  | _, _, .non, _ => .non
  | _, _, .bl b, _ => .bl b
  | _, _, .int i, _ => .int i
  | _, _, .str x, _ => .str x
  | _, _, .tup h t, e => .tup (by
      rcases h with (h | ⟨o, h⟩) | h
      · exact .inl (.inl (lent_back r hf h fun vs z => nomatch z))
      · exact .inl (.inr ⟨o, lent_back r hf h fun vs z => nomatch z⟩)
      · exact .inr h) (RVs.lentBack r hf t (by simpa [noLst_non, noLst_bl, noLst_int, noLst_str, noLst_tup, noLst_lst, noLst_frl, noLst_obj, noLst_dct, noLst_btp, noLst_dcn, noLst_exn, noLst_cls, noLst_loc] using e))
  | _, _, .lst _ _, e => by simp [noLst_non, noLst_bl, noLst_int, noLst_str, noLst_tup, noLst_lst, noLst_frl, noLst_obj, noLst_dct, noLst_btp, noLst_dcn, noLst_exn, noLst_cls, noLst_loc] at e
  | _, _, .frl _ _, e => by simp [noLst_non, noLst_bl, noLst_int, noLst_str, noLst_tup, noLst_lst, noLst_frl, noLst_obj, noLst_dct, noLst_btp, noLst_dcn, noLst_exn, noLst_cls, noLst_loc] at e
  | _, _, .obj h l t, e => .obj (lent_back r hf h fun vs z => nomatch z) l (RVs.lentBack r hf t (by simpa [noLst_non, noLst_bl, noLst_int, noLst_str, noLst_tup, noLst_lst, noLst_frl, noLst_obj, noLst_dct, noLst_btp, noLst_dcn, noLst_exn, noLst_cls, noLst_loc] using e))
  | _, _, .dct h l t, e => .dct (lent_back r hf h fun vs z => nomatch z) l (RVs.lentBack r hf t (by simpa [noLst_non, noLst_bl, noLst_int, noLst_str, noLst_tup, noLst_lst, noLst_frl, noLst_obj, noLst_dct, noLst_btp, noLst_dcn, noLst_exn, noLst_cls, noLst_loc] using e))
  | _, _, .dcn h n o k t, e => by
    simp only [noLst_non, noLst_bl, noLst_int, noLst_str, noLst_tup, noLst_lst, noLst_frl, noLst_obj, noLst_dct, noLst_btp, noLst_dcn, noLst_exn, noLst_cls, noLst_loc, Bool.and_eq_true] at e
    exact .dcn (lent_back r hf h fun vs z => nomatch z) n o (RVs.lentBack r hf k e.1) (RVs.lentBack r hf t e.2)
  | _, _, .exn h1 h2 l t, e => .exn (lent_back r hf h1 fun vs z => by unfold exo at z; cases z) (lent_back r hf h2 fun vs z => by unfold exd at z; cases z) l (RVs.lentBack r hf t (by simpa [noLst_non, noLst_bl, noLst_int, noLst_str, noLst_tup, noLst_lst, noLst_frl, noLst_obj, noLst_dct, noLst_btp, noLst_dcn, noLst_exn, noLst_cls, noLst_loc] using e))
  | _, _, .ex0 h, _ => .ex0 (lent_back r hf h fun vs z => by unfold exo at z; cases z)
  | _, _, .btp h l t, e => .btp (lent_back r hf h fun vs z => nomatch z) l (RVs.lentBack r hf t (by simpa [noLst_non, noLst_bl, noLst_int, noLst_str, noLst_tup, noLst_lst, noLst_frl, noLst_obj, noLst_dct, noLst_btp, noLst_dcn, noLst_exn, noLst_cls, noLst_loc] using e))
  | _, _, .cls C, _ => .cls C
  | _, _, .loc h, _ => .loc (by
      obtain ⟨h1, h2⟩ := List.getElem?_eq_some_iff.mp h
      rw [List.length_take] at h1
      rw [List.getElem?_take_of_lt (by omega)] at h
      exact h)
theorem RVs.lentBack {Fl : Hp} (r : Rel G ρ F st σ H) (hf : ∀ a o, Fl a = some o → lentF ρ n F H a = some o ∨ H a = none) : ∀ {ds : List D} {vs : List V}, RVs G.K (ρ.take n) Fl ds vs → noLsts ds = true → RVs G.K ρ (backF ρ n Fl) ds vs
  | _, _, .nil, _ => .nil
  | _, _, .cons h t, e => by
    simp only [noLsts_nil, noLsts_cons, Bool.and_eq_true] at e
    exact .cons (RV.lentBack r hf h e.1) (RVs.lentBack r hf t e.2)
end
theorem cellLentBack {Fl : Hp} {a : Addr} (r : Rel G ρ F st σ H) (hf : ∀ a o, Fl a = some o → lentF ρ n F H a = some o ∨ H a = none) : ∀ {c : Cell}, CellAt G.K (ρ.take n) Fl H' a c → noLstC c = true → CellAt G.K ρ (backF ρ n Fl) H' a c
  | .lst _, ⟨_, h, t⟩, e => ⟨_, h, RVs.lentBack r hf t e⟩
  | .dk _ _, ⟨_, h, l, t⟩, e => ⟨_, h, l, RVs.lentBack r hf t e⟩
  | .dn _ _, ⟨_, _, _, h, n, o, k, t⟩, e => by
    have e : (noLsts _ && noLsts _) = true := e
    rw [Bool.and_eq_true] at e
    exact ⟨_, _, _, h, n, o, RVs.lentBack r hf k e.1, RVs.lentBack r hf t e.2⟩
  | .ins _ _ _, ⟨_, _, h, l, t⟩, e => ⟨_, _, h, l, RVs.lentBack r hf t e⟩
  | .tbl _ _, ⟨z, _, h, t, c⟩, _ => ⟨z, _, h, t, fun pos cv q => (c pos cv q).imp fun b ⟨w1, w2⟩ => ⟨w1, lent_back r hf w2 fun vs z => by unfold LamX.CodeO at z; cases z⟩⟩
/-- behind the call: the caller's state again; ok: cells and value can be read without what was lent -/
theorem Rel.afterN {Fl : Hp} {ρ' : List Addr} {cs' : List Cell} (r : Rel G ρ F st σ H) (hn : n ≤ st.cs.length) (x : Ext (ρ.take n) (lentF ρ n F H) ρ' Fl) (r' : Rel ⟨G.K, H, lentF ρ n F H, ρ.take n⟩ ρ' Fl ⟨[], cs'⟩ [] H') (hl : cs'.length = n)
    (hc : ∀ c a, c ∈ cs' → CellAt G.K (ρ.take n) Fl H' a c → CellAt G.K ρ (backF ρ n Fl) H' a c) :
    ρ' = ρ.take n ∧ Ext ρ F ρ (backF ρ n Fl) ∧ Rel G ρ (backF ρ n Fl) ⟨st.env, cs' ++ st.cs.drop n⟩ σ H' := by
  have eρ : ρ' = ρ.take n := by
    obtain ⟨t, ht⟩ := x.pre
    have hlen : ρ'.length = n := by rw [show ρ'.length = cs'.length from r'.cl, hl]
    have : t = [] := by
      have := congrArg List.length ht
      rw [List.length_append, List.length_take, hlen, r.cl] at this
      exact List.length_eq_zero_iff.mp (by omega)
    rw [← ht, this, List.append_nil]
  subst eρ
  have hsF : Same F (backF ρ n Fl) := fun a o e => by
    unfold backF
    rw [if_neg fun z => by rw [r.sep a (drop_mem z)] at e; cases e]
    exact x.fz a o (r.sameLent a o e)
  have y : Ext ρ F ρ (backF ρ n Fl) := ⟨List.prefix_refl _, hsF⟩
  have hsH : Same (backF ρ n Fl) H' := fun a o e => by
    unfold backF at e
    by_cases h : a ∈ ρ.drop n
    · rw [if_pos h] at e; cases e
    · rw [if_neg h] at e
      exact r'.fz a o e
  have keepD : ∀ a ∈ ρ.drop n, H' a = H a := fun a ha => by
    obtain ⟨o, e⟩ := r.inρ (drop_mem ha)
    rw [e]
    exact r'.fr a o e fun z => take_drop_ne r.nd z ha
  refine ⟨rfl, y, ⟨r.len, fun i d e => ?_, ?_, fun i c a e1 e2 => ?_, r.nd, hsH, fun a ha => ?_, fun a o e1 e2 => ?_, r.own, fun a o e => ?_, r.old.trans hsF, r.a0⟩⟩
  · obtain ⟨v, e1, e2⟩ := r.env i d e
    exact ⟨v, e1, e2.ext y⟩
  · show ρ.length = (cs' ++ st.cs.drop n).length
    rw [List.length_append, List.length_drop, hl, r.cl]
    omega
  · have e1 : (cs' ++ st.cs.drop n)[i]? = some c := e1
    by_cases hi : i < n
    · rw [List.getElem?_append_left (by rw [hl]; exact hi)] at e1
      exact hc c a (List.mem_of_getElem? e1) (r'.cell i c a e1 (by rw [List.getElem?_take_of_lt hi]; exact e2))
    · rw [List.getElem?_append_right (by rw [hl]; omega), hl, List.getElem?_drop, Nat.add_sub_cancel' (by omega)] at e1
      have hm : a ∈ ρ.drop n := by
        refine List.mem_of_getElem? (i := i - n) ?_
        rw [List.getElem?_drop, Nat.add_sub_cancel' (by omega)]
        exact e2
      exact (r.cell i c a e1 e2).ext y (keepD a hm)
  · unfold backF
    by_cases h : a ∈ ρ.drop n
    · rw [if_pos h]
    · rw [if_neg h]
      have : a ∈ ρ.take n := by
        rw [← List.take_append_drop n ρ] at ha
        exact (List.mem_append.mp ha).resolve_right h
      exact r'.sep a this
  · refine r'.fr a o (r.fr a o e1 e2) fun z => ?_
    rcases r.own a (List.mem_of_mem_take z) with q | q
    · exact e2 q
    · rw [q] at e1; cases e1
  · unfold backF at e
    by_cases h : a ∈ ρ.drop n
    · rw [if_pos h] at e; cases e
    · rw [if_neg h] at e
      rcases r'.new a o e with q | q
      · have q : lentF ρ n F H a = some o := q
        unfold lentF at q
        rw [if_neg h] at q
        exact r.new a o q
      · exact .inr (r.free0 q)
end
section
variable {n m k : Nat} {fn : Fn} {Q : VK} {ds : List D} {vs : List V}
theorem below_cell_mono {c : Cell} {K : Kt} {ρ : List Addr} {F H : Hp} {a : Addr} (h : CellAt K (ρ.take n) F H a c) : CellAt K ρ F H a c := h.ext ⟨List.take_prefix _ _, Same.refl _⟩ rfl
/-- nothing is lent: the entry with F itself -/
theorem Rel.entryP (r : Rel G ρ F st σ H) (hb : (st.cs.take n).all (belowC n) = true) : Rel ⟨G.K, H, F, ρ.take n⟩ (ρ.take n) F ⟨[], st.cs.take n⟩ [] H := by
  refine ⟨rfl, fun i d e => by simp at e, ?_, fun i c a e1 e2 => ?_, r.nd.sublist (List.take_sublist _ _), r.fz, fun a ha => r.sep a (List.mem_of_mem_take ha), fun _ _ h _ => h, fun _ h => .inl h, fun _ _ h => .inl h, Same.refl _, List.prefix_refl _⟩
  · show (ρ.take n).length = (st.cs.take n).length
    rw [List.length_take, List.length_take, r.cl]
  · have e1 : (st.cs.take n)[i]? = some c := e1
    have hi : i < n := by
      have := (List.getElem?_eq_some_iff.mp e1).1
      rw [List.length_take] at this
      omega
    have q := r.cell i c a (by rw [← List.getElem?_take_of_lt hi]; exact e1) (by rw [← List.getElem?_take_of_lt hi]; exact e2)
    exact q.cut (Same.refl _) (List.all_eq_true.mp hb c (List.mem_of_getElem? e1))
theorem lend_below : ∀ {ds : List D} {cs : List Cell}, belows n ds = true → ds.map (lendD n cs) = ds
  | [], _, _ => rfl
  | d :: ds, cs, e => by
    simp only [belows_nil, belows_cons, Bool.and_eq_true] at e
    rw [List.map_cons, lend_below e.2]
    congr 1
    cases d with
    | loc m =>
      have h := e.1
      simp only [below_non, below_bl, below_int, below_str, below_tup, below_lst, below_frl, below_obj, below_dct, below_btp, below_dcn, below_exn, below_cls, below_loc, decide_eq_true_eq] at h
      unfold lendD
      simp only [h, if_true]
    | _ => rfl
theorem Rel.afterP {Fl : Hp} {ρ' : List Addr} {cs' : List Cell} {H' : Hp} (r : Rel G ρ F st σ H) (hn : n ≤ st.cs.length) (x : Ext (ρ.take n) F ρ' Fl) (r' : Rel ⟨G.K, H, F, ρ.take n⟩ ρ' Fl ⟨[], cs'⟩ [] H') (hl : cs'.length = n) :
    ρ' = ρ.take n ∧ Ext ρ F ρ Fl ∧ Rel G ρ Fl ⟨st.env, cs' ++ st.cs.drop n⟩ σ H' := by
  have eρ : ρ' = ρ.take n := by
    obtain ⟨t, ht⟩ := x.pre
    have hlen : ρ'.length = n := by rw [show ρ'.length = cs'.length from r'.cl, hl]
    have : t = [] := by
      have := congrArg List.length ht
      rw [List.length_append, List.length_take, hlen, r.cl] at this
      exact List.length_eq_zero_iff.mp (by omega)
    rw [← ht, this, List.append_nil]
  subst eρ
  have y : Ext ρ F ρ Fl := ⟨List.prefix_refl _, x.fz⟩
  have keepD : ∀ a ∈ ρ.drop n, H' a = H a := fun a ha => by
    obtain ⟨o, e⟩ := r.inρ (drop_mem ha)
    rw [e]
    exact r'.fr a o e fun z => take_drop_ne r.nd z ha
  refine ⟨rfl, y, ⟨r.len, fun i d e => ?_, ?_, fun i c a e1 e2 => ?_, r.nd, r'.fz, fun a ha => ?_, fun a o e1 e2 => ?_, r.own, fun a o e => ?_, r.old.trans x.fz, r.a0⟩⟩
  · obtain ⟨v, e1, e2⟩ := r.env i d e
    exact ⟨v, e1, e2.ext y⟩
  · show ρ.length = (cs' ++ st.cs.drop n).length
    rw [List.length_append, List.length_drop, hl, r.cl]
    omega
  · have e1 : (cs' ++ st.cs.drop n)[i]? = some c := e1
    by_cases hi : i < n
    · rw [List.getElem?_append_left (by rw [hl]; exact hi)] at e1
      exact below_cell_mono (r'.cell i c a e1 (by rw [List.getElem?_take_of_lt hi]; exact e2))
    · rw [List.getElem?_append_right (by rw [hl]; omega), hl, List.getElem?_drop, Nat.add_sub_cancel' (by omega)] at e1
      have hm : a ∈ ρ.drop n := by
        refine List.mem_of_getElem? (i := i - n) ?_
        rw [List.getElem?_drop, Nat.add_sub_cancel' (by omega)]
        exact e2
      exact (r.cell i c a e1 e2).ext y (keepD a hm)
  · cases q : Fl a with
    | none => rfl
    | some o =>
      rcases r'.new a o q with z | z
      · have z : F a = some o := z
        rw [r.sep a ha] at z; cases z
      · exact absurd ha (r.free z)
  · refine r'.fr a o (r.fr a o e1 e2) fun z => ?_
    rcases r.own a (List.mem_of_mem_take z) with q | q
    · exact e2 q
    · rw [q] at e1; cases e1
  · rcases r'.new a o e with q | q
    · exact r.new a o q
    · exact .inr (r.free0 q)
theorem callV_of (r : Rel G ρ F st σ H) (rv : RVs G.K ρ F ds vs) (hm : ds.length = m) (p : Post RV G W ρ F st.env σ Q (callV n fn ds st.cs)) : spF G.K m fn vs H Q (WE W σ) := by
  unfold callV at p
  by_cases c : n ≤ st.cs.length ∧ belows n (ds.map (lendD n st.cs)) = true ∧ (st.cs.take n).all (belowC n) = true
  · rw [if_pos c] at p
    obtain ⟨hn, hb, hc⟩ := c
    by_cases hbe : belows n ds = true
    · rw [lend_below hbe] at p
      refine ⟨ρ.take n, F, ds, st.cs.take n, r.entryP hc, rv.cut (Same.refl _) hbe, hm, ?_⟩
      cases q : fn ds (st.cs.take n) with
      | no => rw [q] at p; exact p
      | ok d cs' =>
        rw [q] at p
        by_cases hl : cs'.length = n
        · simp only [hl, hbe, true_and, true_or, if_true] at p
          intro ρ' F' H' v x r' rv'
          obtain ⟨e, y, r2⟩ := r.afterP hn x r' hl
          subst e
          exact p ρ F' H' v y r2 (rv'.ext ⟨List.take_prefix _ _, Same.refl _⟩)
        · simp only [hl, false_and, if_false] at p
          exact p.elim
      | ex e cs' =>
        rw [q] at p
        by_cases hl : cs'.length = n
        · simp only [hl, hbe, true_and, true_or, if_true] at p
          intro ρ' F' H' cls dx x r' xa
          obtain ⟨e, y, r2⟩ := r.afterP hn x r' hl
          subst e
          exact p ρ F' H' cls dx y r2 (xa.ext ⟨List.take_prefix _ _, Same.refl _⟩)
        · simp only [hl, false_and, if_false] at p
          exact p.elim
    · refine ⟨ρ.take n, lentF ρ n F H, ds.map (lendD n st.cs), st.cs.take n, r.entryN hn hc, lend_rel r rv hb, by rw [List.length_map]; exact hm, ?_⟩
      cases q : fn (ds.map (lendD n st.cs)) (st.cs.take n) with
      | no => rw [q] at p; exact p
      | ok d cs' =>
        rw [q] at p
        have p : Post RV G W ρ F st.env σ Q (if cs'.length = n ∧ (belows n ds = true ∨ (noLst d = true ∧ cs'.all noLstC = true)) then .ok d (cs' ++ st.cs.drop n) else .no) := p
        by_cases hl : cs'.length = n ∧ noLst d = true ∧ cs'.all noLstC = true
        · simp only [hl, hbe, true_and, and_self, or_true, if_true] at p
          intro ρ' F' H' v x r' rv'
          have hf : ∀ a o, F' a = some o → lentF ρ n F H a = some o ∨ H a = none := r'.new
          obtain ⟨e, y, r2⟩ := r.afterN hn x r' hl.1 fun c a hc2 h2 => cellLentBack r hf h2 (List.all_eq_true.mp hl.2.2 c hc2)
          subst e
          exact p ρ _ H' v y r2 (RV.lentBack r hf rv' hl.2.1)
        · rw [if_neg (by rintro ⟨z1, z2⟩; exact hl ⟨z1, z2.resolve_left hbe⟩)] at p
          exact p.elim
      | ex e cs' =>
        rw [q] at p
        have p : Post RV G W ρ F st.env σ Q (if cs'.length = n ∧ (belows n ds = true ∨ (noLsts e.ds = true ∧ cs'.all noLstC = true)) then .ex e (cs' ++ st.cs.drop n) else .no) := p
        by_cases hl : cs'.length = n ∧ noLsts e.ds = true ∧ cs'.all noLstC = true
        · simp only [hl, hbe, true_and, and_self, or_true, if_true] at p
          intro ρ' F' H' cls dx x r' xa
          have hf : ∀ a o, F' a = some o → lentF ρ n F H a = some o ∨ H a = none := r'.new
          obtain ⟨e', y, r2⟩ := r.afterN hn x r' hl.1 fun c a hc2 h2 => cellLentBack r hf h2 (List.all_eq_true.mp hl.2.2 c hc2)
          subst e'
          exact p ρ _ H' cls dx y r2 (xa.imp (fun _ _ z => lent_back r hf z (fun vs z => nomatch z)) fun _ z => RVs.lentBack r hf z hl.2.1)
        · rw [if_neg (by rintro ⟨z1, z2⟩; exact hl ⟨z1, z2.resolve_left hbe⟩)] at p
          exact p.elim
  · rw [if_neg c] at p
    exact p.elim
/-- f(..) -/
def eCall (n : Nat) (fn : Fn) (g : Ax) : Ex := fun st => (g st).bind fun ds c1 => callV n fn ds c1
variable {f : Addr} {fd : FuncData} {ps : List Str} {x : Str} {p : Pos}
theorem de_call {n : Nat} (hK : G.K.K = X.K) (tk : Takes X W) (hF : FnOk X.prog X.w X.K X.mg X.base (L2.CX X.prog X.w) k f fd ps (spF G.K ps.length fn)) (hr : Room k X.A) (hg : Gl X x) (hm : X.mg x = some (.ref f)) (hk : PySem.W.keepIn X.K (.ref f) = true) (hb : Binds X.K fd ps [])
    (ha : PA X (e :: es) (tAs G W g)) (hlen : ∀ st ds c1, g st = .ok ds c1 → ds.length = ps.length) (hdb : (x == ("__debug__" : Str)) = false := by decide) (he : starEach (e :: es) X.env = (false, eval e X.env) :: starEach es X.env := by rfl) (hpl : (backTo pos (starEach es X.env)).any (·.1) = false := by rfl) :
    PE X (.Call (.Name x p) (e :: es) [] pos) (tE G W (eCall n fn g)) :=
  (pe_callS hF hr hg hm hk hb (fun σ => passAt tk σ) ha hdb he hpl).impV fun σ H Q ⟨ρ, F, st, r, p⟩ => by
    unfold eCall at p
    cases q : g st with
    | no => rw [q] at p; exact p.elim
    | ex e' cs => rw [q] at p; exact ⟨ρ, F, st, r, by rw [q]; exact p⟩
    | ok ds c1 =>
      rw [q] at p
      have p : Post RV G W ρ F st.env σ Q (callV n fn ds c1) := p
      refine ⟨ρ, F, st, r, ?_⟩
      rw [q]
      exact fun ρ1 F1 H1 vs x1 r1 rv1 => callV_of (st := ⟨st.env, c1⟩) r1 rv1 (hlen _ _ _ q) (Post.ext x1 p)
theorem de_callAll (hK : G.K.K = X.K) (tk : Takes X W) (hF : FnOk X.prog X.w X.K X.mg X.base (L2.CX X.prog X.w) k f fd ps (spF G.K ps.length fn)) (hr : Room k X.A) (hg : Gl X x) (hm : X.mg x = some (.ref f)) (hk : PySem.W.keepIn X.K (.ref f) = true) (hb : Binds X.K fd ps [])
    (ha : PA X (e :: es) (tAs G W g)) (hlen : ∀ st ds c1, g st = .ok ds c1 → ds.length = ps.length) (hdb : (x == ("__debug__" : Str)) = false := by decide) (he : starEach (e :: es) X.env = (false, eval e X.env) :: starEach es X.env := by rfl) (hpl : (backTo pos (starEach es X.env)).any (·.1) = false := by rfl) :
    PE X (.Call (.Name x p) (e :: es) [] pos) (tE G W (eCallAll fn g)) :=
  (pe_callS hF hr hg hm hk hb (fun σ => passAt tk σ) ha hdb he hpl).impV fun σ H Q ⟨ρ, F, st, r, p⟩ => by
    unfold eCallAll at p
    cases q : g st with
    | no => rw [q] at p; exact p.elim
    | ex e' cs => rw [q] at p; exact ⟨ρ, F, st, r, by rw [q]; exact p⟩
    | ok ds c1 =>
      rw [q] at p
      have p : Post RV G W ρ F st.env σ Q (fn ds c1) := p
      refine ⟨ρ, F, st, r, ?_⟩
      rw [q]
      exact fun ρ1 F1 H1 vs x1 r1 rv1 => callAll_of (st := ⟨st.env, c1⟩) r1 rv1 (hlen _ _ _ q) (Post.ext x1 p)
end
end
end VL
namespace VL
open PySem L2
/-- what leaves the def: an own list, opened -/
def outD (n : Nat) (cs : List Cell) (d : D) : Option D := match d with
  | .loc m => if m < n then some (.loc m) else (match cs[m]? with
    | some (.lst ds) => if belows n ds then some (.lst ds) else none
    | _ => none)
  | d => if below n d then some d else none
def trimF (fn : Fn) : Fn := fun ds cs => match fn ds cs with
  | .ok d cs' => if (cs'.take cs.length).all (belowC cs.length) then (match outD cs.length cs' d with
    | some d' => .ok d' (cs'.take cs.length)
    | none => .no) else .no
  | .ex e cs' => if (cs'.take cs.length).all (belowC cs.length) && belows cs.length e.ds then .ex e (cs'.take cs.length) else .no
  | .no => .no
/-- the cells behind n become frozen -/
theorem Rel.trim {G : Gx} {ρ : List Addr} {F : Hp} {st : S} {σ : St} {H : Hp} (r : Rel G ρ F st σ H) (hn : G.A0.length ≤ st.cs.length) (hb : (st.cs.take G.A0.length).all (belowC G.A0.length) = true) (x : Ext G.A0 G.F0 ρ F) :
    Same F (lentF ρ G.A0.length F H) ∧ Ext G.A0 G.F0 G.A0 (lentF ρ G.A0.length F H) ∧ Rel G G.A0 (lentF ρ G.A0.length F H) ⟨[], st.cs.take G.A0.length⟩ [] H := by
  have eρ : ρ.take G.A0.length = G.A0 := by
    obtain ⟨t, ht⟩ := x.pre
    rw [← ht, List.take_left]
  have hs := r.sameLent (n := G.A0.length)
  have e := r.entryN hn hb
  refine ⟨hs, ⟨List.prefix_refl _, x.fz.trans hs⟩, ⟨rfl, fun i d e => by simp at e, ?_, fun i c a e1 e2 => ?_, ?_, e.fz, fun a ha => ?_, r.fr, fun a ha => .inl ha, fun a o q => ?_, x.fz.trans hs, List.prefix_refl _⟩⟩
  · have := e.cl
    rw [eρ] at this
    exact this
  · have := e.cell i c a e1 (by rw [eρ]; exact e2)
    rw [eρ] at this
    exact this
  · have := e.nd
    rw [eρ] at this
    exact this
  · exact e.sep a (by rw [eρ]; exact ha)
  · unfold lentF at q
    by_cases h : a ∈ ρ.drop G.A0.length
    · rcases r.own a (drop_mem h) with z | z
      · exact (take_drop_ne r.nd (by rw [eρ]; exact z) h).elim
      · exact .inr z
    · rw [if_neg h] at q
      exact r.new a o q
theorem trim_of {K : Kt} {n : Nat} {fn : Fn} (vs : List V) (H : Hp) (Q : VK) (E : XK) (h : spF K n (trimF fn) vs H Q E) : spF K n fn vs H Q E := by
  obtain ⟨ρ0, F0, ds, cs, r, rv, hl, p⟩ := h
  refine ⟨ρ0, F0, ds, cs, r, rv, hl, ?_⟩
  have hc : ρ0.length = cs.length := r.cl
  unfold trimF at p
  cases q : fn ds cs with
  | no => rw [q] at p; exact p
  | ex e cs' =>
    rw [q] at p
    simp only at p
    by_cases c : ((cs'.take cs.length).all (belowC cs.length) && belows cs.length e.ds) = true
    · rw [if_pos c] at p
      rw [Bool.and_eq_true] at c
      intro ρ F H' cls dx x r' xa
      have hle : ρ0.length ≤ cs'.length := by
        have := x.pre.length_le
        rw [show ρ.length = cs'.length from r'.cl] at this
        exact this
      obtain ⟨s1, x1, r1⟩ := r'.trim hle (by show (cs'.take ρ0.length).all (belowC ρ0.length) = true; rw [hc]; exact c.1) x
      have eρ : ρ.take cs.length = ρ0 := by
        obtain ⟨t, ht⟩ := x.pre
        have ht : ρ0 ++ t = ρ := ht
        rw [← ht, ← hc, List.take_left]
      refine p ρ0 _ H' cls dx x1 ?_ (xa.imp (fun _ _ z => s1 _ _ z) fun vs z => by
        have q7 := z.cut (n := cs.length) s1 c.2
        rw [eρ] at q7
        exact q7)
      rw [← hc]; exact r1
    · rw [if_neg c] at p
      exact p.elim
  | ok d cs' =>
    rw [q] at p
    simp only at p
    by_cases c : (cs'.take cs.length).all (belowC cs.length) = true
    · rw [if_pos c] at p
      cases q2 : outD cs.length cs' d with
      | none => rw [q2] at p; exact p.elim
      | some d' =>
        rw [q2] at p
        simp only at p
        intro ρ F H' v x r' rv'
        have hle : ρ0.length ≤ cs'.length := by
          have := x.pre.length_le
          rw [show ρ.length = cs'.length from r'.cl] at this
          exact this
        obtain ⟨s1, x1, r1⟩ := r'.trim hle (by show (cs'.take ρ0.length).all (belowC ρ0.length) = true; rw [hc]; exact c) x
        have eρ : ρ.take cs.length = ρ0 := by
          obtain ⟨t, ht⟩ := x.pre
          have ht : ρ0 ++ t = ρ := ht
          rw [← ht, ← hc, List.take_left]
        have r1' : Rel ⟨K, H, F0, ρ0⟩ ρ0 (lentF ρ ρ0.length F H') ⟨[], cs'.take cs.length⟩ [] H' := by rw [← hc]; exact r1
        refine p ρ0 _ H' v x1 r1' ?_
        have low : below cs.length d = true → d' = d → RV K ρ0 (lentF ρ ρ0.length F H') d' v := fun hb e => by
          subst e
          have := rv'.cut (n := cs.length) s1 hb
          rw [eρ] at this
          exact this
        cases d with
        | loc m =>
          unfold outD at q2
          simp only at q2
          by_cases hm : m < cs.length
          · rw [if_pos hm] at q2
            exact low (by simp [below_non, below_bl, below_int, below_str, below_tup, below_lst, below_frl, below_obj, below_dct, below_btp, below_dcn, below_exn, below_cls, below_loc, hm]) (Option.some.inj q2).symm
          · rw [if_neg hm] at q2
            cases q3 : cs'[m]? with
            | none => rw [q3] at q2; cases q2
            | some c0 =>
              rw [q3] at q2
              cases c0 with
              | lst es =>
                simp only at q2
                by_cases hb : belows cs.length es = true
                · rw [if_pos hb] at q2
                  cases q2
                  cases rv' with
                  | @loc _ a h =>
                    obtain ⟨ws, h1, h2⟩ := r'.cell m _ _ q3 h
                    have hmem : a ∈ ρ.drop ρ0.length := by
                      refine List.mem_of_getElem? (i := m - ρ0.length) ?_
                      rw [List.getElem?_drop, Nat.add_sub_cancel' (by omega)]
                      exact h
                    have q7 := h2.cut (n := cs.length) s1 hb
                    rw [eρ] at q7
                    refine .lst ?_ q7
                    unfold lentF
                    rw [if_pos hmem, h1]
                · rw [if_neg hb] at q2
                  cases q2
              | dk _ _ => cases q2
              | dn _ _ => cases q2
              | tbl _ _ => cases q2
              | ins _ _ _ => cases q2
        | _ =>
          unfold outD at q2
          simp only at q2
          split at q2
          · rename_i hb
            exact low hb (Option.some.inj q2).symm
          · cases q2
    · rw [if_neg c] at p
      exact p.elim
/-- another plain function: wherever it says something, fn says the same -/
theorem spF_ref {K : Kt} {n : Nat} {fn fn' : Fn} (hr : ∀ ds cs, fn' ds cs ≠ .no → fn ds cs = fn' ds cs) (vs : List V) (H : Hp) (Q : VK) (E : XK) (h : spF K n fn' vs H Q E) : spF K n fn vs H Q E := by
  obtain ⟨ρ0, F0, ds, cs, r, rv, hl, p⟩ := h
  refine ⟨ρ0, F0, ds, cs, r, rv, hl, ?_⟩
  by_cases c : fn' ds cs = .no
  · rw [c] at p; exact p.elim
  · rw [hr ds cs c]; exact p
section
variable {P : Program} {w : World} {K : Kt} {mg : Str → Option Value} {base : Heap} {CX : CXT} {k : Nat} {f : Addr} {fd : FuncData} {ps : List Str} {fn fn' : Fn} {n : Nat}
theorem fnTrim (F : FnOk P w K.K mg base CX k f fd ps (spF K n fn)) : FnOk P w K.K mg base CX k f fd ps (spF K n (trimF fn)) := F.imp trim_of
theorem fnRef (F : FnOk P w K.K mg base CX k f fd ps (spF K n fn)) (hr : ∀ ds cs, fn' ds cs ≠ .no → fn ds cs = fn' ds cs) : FnOk P w K.K mg base CX k f fd ps (spF K n fn') := F.imp (spF_ref hr)
end
section
variable {X : Cx} {G : Gx} {W : WX} {e a : Expr} {es : List Expr} {g : Ax} {pos p : Pos} {fa : Ex}
abbrev FB := List Cell → List D → Out D
def VN (G : Gx) (W : WX) (r : List V → Hp → VK → Prop) (h : FB) : Prop := ∀ (ρ : List Addr) (F : Hp) (st : S) (σ : St) (H : Hp) (ds : List D) (vs : List V) (Q : VK), Rel G ρ F st σ H → RVs G.K ρ F ds vs → Post RV G W ρ F st.env σ Q (h st.cs ds) → r vs H Q
def eB (h : FB) (g : Ax) : Ex := fun st => (g st).bind fun ds c1 => h c1 ds
theorem tCB_of {r : List V → Hp → VK → Prop} {h : FB} (hv : VN G W r h) : ∀ σ H Q, tE G W (eB h g) σ H Q → tCB r (tAs G W g) σ H Q := fun σ H Q ⟨ρ, F, st, r, p⟩ =>
  seqX r p fun ρ1 F1 H1 ds c1 vs x1 r1 rv1 p1 => hv ρ1 F1 ⟨st.env, c1⟩ σ H1 ds vs Q r1 rv1 p1
theorem de_callB {id : String} {x : Str} {r : List V → Hp → VK → Prop} {h : FB} (hc : CallR X (.builtin id) r) (hv : VN G W r h) (hg : Gl X x) (hm : X.mg x = none) (hb : bootBuiltins x = some (.builtin id)) (ha : PA X (e :: es) (tAs G W g)) (hn : x ≠ "__name__" := by decide) (hdb : (x == ("__debug__" : Str)) = false := by decide)
    (he : starEach (e :: es) X.env = (false, eval e X.env) :: starEach es X.env := by rfl) (hpl : (backTo pos (starEach es X.env)).any (·.1) = false := by rfl) : PE X (.Call (.Name x p) (e :: es) [] pos) (tE G W (eB h g)) := (pe_callB hc hg hm hb ha hn hdb he hpl).impV (tCB_of hv)
theorem de_callTy {T : String} {x : Str} {r : List V → Hp → VK → Prop} {h : FB} (hc : CallR X (.type T) r) (hv : VN G W r h) (hg : Gl X x) (hm : X.mg x = none) (hb : bootBuiltins x = some (.type T)) (ha : PA X (e :: es) (tAs G W g)) (hn : x ≠ "__name__" := by decide) (hdb : (x == ("__debug__" : Str)) = false := by decide)
    (he : starEach (e :: es) X.env = (false, eval e X.env) :: starEach es X.env := by rfl) (hpl : (backTo pos (starEach es X.env)).any (·.1) = false := by rfl) : PE X (.Call (.Name x p) (e :: es) [] pos) (tE G W (eB h g)) := (pe_callTy hc hg hm hb ha hn hdb he hpl).impV (tCB_of hv)
def hLen : FB := fun cs ds => match ds with
  | [.str z] => if z.length ≤ 16777216 then .ok (.int (z.length : Nat)) cs else .no
  | [d] => (match seqOf cs d with
    | some xs => .ok (.int (xs.length : Nat)) cs
    | none => .no)
  | _ => .no
theorem vn_len : VN G W (fun xs H Q => ∃ x n, xs = [x] ∧ LenV G.K.K x H n ∧ Q (.int n) H) hLen := by
  intro ρ F st σ H ds vs Q r rv p
  unfold hLen at p
  split at p
  · cases rv with
    | cons h1 h2 =>
      cases h2
      cases h1
      rename_i z
      by_cases c : z.length ≤ 16777216
      · rw [if_pos c] at p
        exact ⟨_, _, rfl, ⟨line_of c, rfl⟩, p.here r (.int _)⟩
      · rw [if_neg c] at p
        exact p.elim
  · rename_i d _
    cases rv with
    | cons h1 h2 =>
      cases h2
      cases q : seqOf st.cs d with
      | none => rw [q] at p; exact p.elim
      | some xs =>
        rw [q] at p
        obtain ⟨a2, ws, rfl, s2, r2⟩ := seq_read r h1 q
        refine ⟨_, ws.length, rfl, ?_, ?_⟩
        · rcases s2 with s2 | s2
          · exact .inl ⟨ws, s2, rfl⟩
          · exact .inr ⟨ws, s2, rfl⟩
        · rw [← r2.length]
          exact p.here r (.int _)
  · exact p.elim
theorem de_len (hK : X.K = G.K.K) (hg : Gl X "len") (hm : X.mg "len" = none) (ha : PA X (e :: es) (tAs G W g)) (he : starEach (e :: es) X.env = (false, eval e X.env) :: starEach es X.env := by rfl) (hpl : (backTo pos (starEach es X.env)).any (·.1) = false := by rfl) : PE X (.Call (.Name "len" p) (e :: es) [] pos) (tE G W (eB hLen g)) :=
  de_callB call_len (by rw [hK]; exact vn_len) hg hm PySem.boot_len ha (he := he) (hpl := hpl)
def hInt : FB := fun cs ds => match ds with
  | [.int i] => .ok (.int i) cs
  | [.bl b] => .ok (.int (if b then 1 else 0)) cs
  | _ => .no
theorem de_int1 (hg : Gl X "int") (hm : X.mg "int" = none) (ha : PA X (e :: es) (tAs G W g)) (he : starEach (e :: es) X.env = (false, eval e X.env) :: starEach es X.env := by rfl) (hpl : (backTo pos (starEach es X.env)).any (·.1) = false := by rfl) : PE X (.Call (.Name "int" p) (e :: es) [] pos) (tE G W (eB hInt g)) :=
  de_callTy call_int1 (by
    intro ρ F st σ H ds vs Q r rv p
    unfold hInt at p
    split at p
    · cases rv with
      | cons h1 h2 =>
        cases h2
        cases h1
        exact .inl ⟨_, rfl, p.here r (.int _)⟩
    · cases rv with
      | cons h1 h2 =>
        cases h2
        cases h1
        exact .inr ⟨_, rfl, p.here r (.int _)⟩
    · exact p.elim) hg hm (by decide +kernel) ha (he := he) (hpl := hpl)
def hAbs : FB := fun cs ds => match ds with
  | [.int i] => .ok (.int (if i < 0 then -i else i)) cs
  | _ => .no
theorem de_abs (hg : Gl X "abs") (hm : X.mg "abs" = none) (ha : PA X (e :: es) (tAs G W g)) (he : starEach (e :: es) X.env = (false, eval e X.env) :: starEach es X.env := by rfl) (hpl : (backTo pos (starEach es X.env)).any (·.1) = false := by rfl) : PE X (.Call (.Name "abs" p) (e :: es) [] pos) (tE G W (eB hAbs g)) :=
  de_callB call_abs (by
    intro ρ F st σ H ds vs Q r rv p
    unfold hAbs at p
    split at p
    · cases rv with
      | cons h1 h2 =>
        cases h2
        cases h1
        exact ⟨_, rfl, p.here r (.int _)⟩
    · exact p.elim) hg hm (by decide +kernel) ha (he := he) (hpl := hpl)
def hTuple : FB := fun cs ds => match ds with
  | [.tup xs] => .ok (.tup xs) cs
  | [.btp xs] => .ok (.btp xs) cs
  | [d] => (match lstOf cs d with
    | some xs => .ok (.tup xs) cs
    | none => .no)
  | _ => .no
theorem vn_tuple : VN G W (fun xs H Q => ∃ p ys, xs = [.ref p] ∧ ((SqL G.K.K H p ys ∧ ∀ l, H l = none → Q (.ref l) (upd H l (.tup ys))) ∨ (SqT G.K.K H p ys ∧ Q (.ref p) H))) hTuple := by
  intro ρ F st σ H ds vs Q r rv p
  unfold hTuple at p
  split at p
  · cases rv with
    | cons h1 h2 =>
      cases h2
      obtain ⟨a2, ws, rfl, s2, r2⟩ := tup_read r h1 rfl
      exact ⟨a2, ws, rfl, .inr ⟨s2, p.here r h1⟩⟩
  · cases rv with
    | cons h1 h2 =>
      cases h2
      have h1' := h1
      cases h1 with
      | btp g1 g2 g3 => exact ⟨_, _, rfl, .inr ⟨.inl (.inr ⟨_, r.fz _ _ g1⟩), p.here r h1'⟩⟩
  · rename_i d _ _
    cases rv with
    | cons h1 h2 =>
      cases h2
      cases q : lstOf st.cs d with
      | none => rw [q] at p; exact p.elim
      | some xs =>
        rw [q] at p
        obtain ⟨a2, ws, rfl, s2, r2⟩ := lst_read r h1 q
        refine ⟨a2, ws, rfl, .inl ⟨s2, fun l hl => ?_⟩⟩
        obtain ⟨x2, r3⟩ := r.fresh (o := .tup ws) hl
        exact p _ _ _ _ x2 r3 (.tup (SqT.of upd_same) (r2.ext x2))
  · exact p.elim
theorem de_tuple1 (hK : X.K = G.K.K) (hg : Gl X "tuple") (hm : X.mg "tuple" = none) (ha : PA X (e :: es) (tAs G W g)) (he : starEach (e :: es) X.env = (false, eval e X.env) :: starEach es X.env := by rfl) (hpl : (backTo pos (starEach es X.env)).any (·.1) = false := by rfl) : PE X (.Call (.Name "tuple" p) (e :: es) [] pos) (tE G W (eB hTuple g)) :=
  de_callTy call_tuple_of (by rw [hK]; exact vn_tuple) hg hm (by decide +kernel) ha (he := he) (hpl := hpl)
/-- list(x): frozen, or an own cell -/
def hList (own : Bool) : FB := fun cs ds => match ds with
  | [d] => (match seqOf cs d with
    | some xs => if own then newCell xs cs else .ok (.lst xs) cs
    | none => .no)
  | _ => .no
def intsOf : List D → Option (List Int)
  | [] => some []
  | .int i :: r => (intsOf r).map (i :: ·)
  | _ => none
theorem ints_rel {K : Kt} {ρ : List Addr} {F : Hp} : ∀ {ds : List D} {vs : List V} {ns : List Int}, RVs K ρ F ds vs → intsOf ds = some ns → vs = ns.map V.int
  | _, _, _, .nil, e => by cases e; rfl
  | _, _, _, @RVs.cons _ _ _ d ds v vs h r, e => by
    cases h with
    | int i =>
      unfold intsOf at e
      cases q : intsOf ds with
      | none => rw [q] at e; cases e
      | some l =>
        rw [q] at e
        cases e
        rw [ints_rel r q]
        rfl
    | _ => cases e
theorem ints_back {K : Kt} {ρ : List Addr} {F : Hp} : ∀ (ns : List Int), RVs K ρ F (ns.map D.int) (ns.map V.int)
  | [] => .nil
  | n :: r => .cons (.int n) (ints_back r)
def maxI : List Int → Int
  | [] => 0
  | [a] => a
  | a :: b :: r => max a (maxI (b :: r))
/-- max(xs), max(a, b) -/
def hMax : FB := fun cs ds => match ds with
  | [.int i, .int j] => .ok (.int (if j > i then j else i)) cs
  | [d] => (match lstOf cs d with
    | some xs => (match intsOf xs with
      | some ns => if ns.isEmpty then .no else .ok (.int (maxI ns)) cs
      | none => .no)
    | none => .no)
  | _ => .no
/-- xs.append(e) -/
def eAppend (fo f : Ex) : Ex := fun st => (fo st).bind fun x c1 => match x with
  | .loc n => (match c1[n]? with
    | some (.lst _) => (f ⟨st.env, c1⟩).bind fun y c2 => (match c2[n]? with
      | some (.lst ds) => if ds.length < 16777216 then .ok .non (c2.set n (.lst (ds ++ [y]))) else .no
      | _ => .no)
    | _ => .no)
  | _ => .no
theorem de_append {c : Expr} {fo f : Ex} (hK : X.K = G.K.K) (h : PE X c (tBM X.K "list" rAppend (tE G W fo) (tCons (tE G W f) tNil))) : PE X c (tE G W (eAppend fo f)) :=
  h.impV fun σ H Q ⟨ρ, F, st, r, p⟩ => seqX r p fun ρ1 F1 H1 x c1 v x1 r1 rv1 p1 => by
    cases rv1 with
    | @loc n a0 h1 =>
      simp only at p1
      cases q : c1[n]? with
      | none => rw [q] at p1; exact p1.elim
      | some c0 =>
        rw [q] at p1
        cases c0 with
        | dk _ _ => exact p1.elim
        | dn _ _ => exact p1.elim
        | tbl _ _ => exact p1.elim
        | ins _ _ _ => exact p1.elim
        | lst ds0 =>
          simp only at p1
          obtain ⟨vs0, h2, h3⟩ := r1.cell n _ _ q h1
          refine ⟨.inl ⟨rfl, vs0, SqL.of h2⟩, ?_⟩
          refine seqX (st := ⟨st.env, c1⟩) (f := f) r1 p1 fun ρ2 F2 H2 y c2 w x2 r2 rv2 p2 => ?_
          cases q2 : c2[n]? with
          | none => rw [q2] at p2; exact p2.elim
          | some c0 =>
            rw [q2] at p2
            cases c0 with
            | dk _ _ => exact p2.elim
            | dn _ _ => exact p2.elim
            | tbl _ _ => exact p2.elim
            | ins _ _ _ => exact p2.elim
            | lst ds =>
              simp only at p2
              by_cases c : ds.length < 16777216
              · rw [if_pos c] at p2
                obtain ⟨vs, h4, h5⟩ := r2.cell n _ _ q2 (x2.at h1)
                refine ⟨a0, vs, w, rfl, rfl, h4, by rw [← h5.length, sizeLine_eq]; exact c, ?_⟩
                exact p2 ρ2 F2 _ .non Ext.refl (r2.cellSet (st := ⟨st.env, c2⟩) (c := .lst (ds ++ [y])) (x2.at h1) ⟨_, upd_same, h5.append (RVs.one rv2)⟩) .non
              · rw [if_neg c] at p2
                exact p2.elim
    | _ => exact p1.elim
/-- xs.pop() -/
def ePop (fo : Ex) : Ex := fun st => (fo st).bind fun x c1 => match x with
  | .loc n => (match c1[n]? with
    | some (.lst ds) => (match ds.getLast? with
      | some y => .ok y (c1.set n (.lst ds.dropLast))
      | none => .no)
    | _ => .no)
  | _ => .no
theorem RVs.dropLast {K : Kt} {ρ : List Addr} {F : Hp} {ds : List D} {vs : List V} (h : RVs K ρ F ds vs) : RVs K ρ F ds.dropLast vs.dropLast := by
  rw [List.dropLast_eq_take, List.dropLast_eq_take, h.length]
  exact h.take _
theorem de_pop {c : Expr} {fo : Ex} (hK : X.K = G.K.K) (h : PE X c (tBM0 X.K "list" rPop (tE G W fo))) : PE X c (tE G W (ePop fo)) :=
  h.impV fun σ H Q ⟨ρ, F, st, r, p⟩ => seqX r p fun ρ1 F1 H1 x c1 v x1 r1 rv1 p1 => by
    cases rv1 with
    | @loc n a0 h1 =>
      simp only at p1
      cases q : c1[n]? with
      | none => rw [q] at p1; exact p1.elim
      | some c0 =>
        rw [q] at p1
        cases c0 with
        | dk _ _ => exact p1.elim
        | dn _ _ => exact p1.elim
        | tbl _ _ => exact p1.elim
        | ins _ _ _ => exact p1.elim
        | lst ds =>
          simp only at p1
          obtain ⟨vs, h2, h3⟩ := r1.cell n _ _ q h1
          cases q2 : ds.getLast? with
          | none => rw [q2] at p1; exact p1.elim
          | some y =>
            rw [q2] at p1
            rw [List.getLast?_eq_getElem?] at q2
            obtain ⟨w, e1, e2⟩ := h3.get q2
            rw [h3.length] at e1
            refine ⟨.inl ⟨rfl, vs, SqL.of h2⟩, a0, vs, w, rfl, rfl, h2, e1, ?_⟩
            exact p1 ρ1 F1 _ w Ext.refl (r1.cellSet (st := ⟨st.env, c1⟩) (c := .lst ds.dropLast) h1 ⟨_, upd_same, h3.dropLast⟩) e2
    | _ => exact p1.elim
end
end VL
namespace VL
open PySem L2 PyProof.Rows
/-- the def at f keeps sp when it is called from outside -/
structure AtC (P : Program) (w : World) (K : PySem.W.Frag) (mg : Str → Option Value) (base : Heap) (CX : CXT) (k : Nat) (f : Addr) (fd : FuncData) (ps : List Str) (sp : Sp) : Prop where
  run : ∀ (s : Shared) (H : Hp) (args : Args) (us : List Value) (vs : List V) (Q : VK) (E : XK), Room k callerA → Env0 P w K mg base callerA [] s H → BindsTo s fd args (ps.zip us) → Vals vs us → sp vs H Q E →
    codeAny (model P w) callerA (.call (.ref f) args) (CR CX [] P w H s Q E) s
section
variable {P : Program} {w : World} {mg : Str → Option Value} {base : Heap}
theorem atC_of {K : PySem.W.Frag} {CX : CXT} {k : Nat} {f : Addr} {name qual : Str} {st : Stmt} {fd : FuncData} {N ps : List Str} {sp : Sp} (Fu : Fun K name qual st f fd) (Sc : FnScope N ps (defScope st)) (hlen : ∀ vs H Q E, sp vs H Q E → vs.length = ps.length)
    (body : ∀ (cdv : Value) (s : Shared) (H : Hp) (vs : List V) (Q : VK) (E : XK), Room k (callerA.deeper (envOfC qual (defScope st) s.heap.objs.size f cdv)) → sp vs H Q E →
      ∃ t, PSs (cxOf CX P w K mg base N qual (defScope st) f cdv callerA [] s H E) (defBody st) t ∧ t { nx := fun _ H1 => Q .non H1, rt := Q } (L2.start N vs) H) :
    AtC P w K mg base CX (k + 1) f fd ps sp := by
  obtain ⟨oc, od, kV, doc, pm, an, cdv, ct, osl, rfl, lk, hcd⟩ := Fu.ex
  constructor
  intro s H args us vs Q E room e0 bind vals hsp
  have kin : K.In s.heap := e0.mod.kin.keeps fun b o h => (e0.bs b o h).1
  have nol : s.heap.NoLimit := e0.mod.nolimit.keeps fun b o h => (e0.bs b o h).1
  have kinds : ∀ y ∈ ps.zip us, (defScope st).names.lookup y.1 = some .local ∨
      ((defScope st).names.lookup y.1 = some .cell ∧ ((cellsFrom (s.heap.objs.size + 1) (defScope st).names []).lookup y.1).isSome = true) := by
    rintro ⟨nm, val⟩ hy
    cases Sc.par nm (List.of_mem_zip hy).1 with
    | inl h => exact .inl h
    | inr h => exact .inr ⟨h, PySem.W.cellsFrom_some _ _ _ (.inl h)⟩
  refine codeAny_call_function room.depth (kin _ _ lk) rfl Sc.co Sc.gen rfl (PySem.W.codeRec_of kin hcd) ?_
  refine bind _ _ _ _ ?_
  refine wpAny_newFunctionEnv_cells Sc.kind kinds ?_
  rintro env rfl s1 x
  refine ⟨nol.keeps x.toInCall.keep, codeAny_func ?_⟩
  obtain ⟨t, pt, ht⟩ := body cdv s H vs Q E (room.deeper _) hsp
  have inv := inv_start (CX := CX) (P := P) (w := w) (K := K) (mg := mg) (base := base) (N := N) (ps := ps) (E := E) (A := callerA) (outer := []) Sc room.hd e0 (hlen _ _ _ _ hsp) vals x
  refine wpAny_mono (pt.run [] s1 _ H _ inv ht) ?_ fun _ _ h => h
  intro fl s' hs
  cases fl with
  | brk => obtain ⟨_, _, _, h⟩ := hs; exact h.elim
  | cont => obtain ⟨_, _, _, h⟩ := hs; exact h.elim
  | next =>
    obtain ⟨σ', H', J, h⟩ := hs
    exact ⟨V.non, H', J.os, J.bare, J.base, J.hok, rfl, h⟩
  | ret u =>
    obtain ⟨v, σ', H', J, rv, h⟩ := hs
    exact ⟨v, H', J.os, J.bare, J.base, J.hok, rv, h⟩
/-- the law's call, by that promise -/
theorem lawC {K : PySem.W.Frag} {mb : Str → Option Value} {CX : CXT} {k : Nat} {fa a : Addr} {fd : FuncData} {x : Str} {sp : Sp} {s₁ : Shared} {vs : List Value} {ns : List Int}
    (kin : K.In s₁.heap) (globs : s₁.heap.Ns mainGlobals mg) (blt : s₁.heap.Ns builtinsNs mb) (bb : ∀ x : Str, x ≠ "__name__" → mb x = bootBuiltins x) (nol : s₁.heap.NoLimit) (gens : s₁.gens = #[])
    (obj : s₁.heap.get? a = some { cls := .type "list", data := .seq vs.toArray }) (areInts : IntsAre vs ns) (size : ns.length ≤ sizeLine) (room : Room k callerA)
    (F : ∀ base : Heap, K.In base → base.Ns mainGlobals mg → AtC P w K mg base CX k fa fd [x] sp) (binds : ∀ (s : Shared) (u : Value), BindsTo s fd ⟨[u], []⟩ [(x, u)])
    (pre : ∀ H : Hp, Only H → SqL K H a (ns.map V.int) → sp [.ref a] H (fun v _ => v = .bl true) fun _ _ _ => False)
    (noX : ∀ H e s', CX [] H s₁ (fun _ _ _ => False) e s' → False) :
    codeAny (model P w) callerA (.call (.ref fa) ⟨[.ref a], []⟩) (fun r s' => r = .ok (.ret (.bool true)) ∧ OldK s₁.heap s'.heap ∧ s'.os = s₁.os ∧ AllBare s'.gens) s₁ := by
  have rv := vals_ints areInts
  have hlv := areInts.length
  have main : ∀ H : Hp, Only H → SqL K H a (ns.map V.int) → HOk P w H s₁.heap → (∀ b o, H b = some o → b = a ∧ K.lookup a = none) →
      codeAny (model P w) callerA (.call (.ref fa) ⟨[.ref a], []⟩) (fun r s' => r = .ok (.ret (.bool true)) ∧ OldK s₁.heap s'.heap ∧ s'.os = s₁.os ∧ AllBare s'.gens) s₁ := by
    intro H only sq hok hA
    have noDict : ∀ {b : Addr} {o : Obj} {es : Array DictEntry} {ep : Nat}, s₁.heap.get? b = some o → o.data = .dict es ep → H b = none := by
      intro b o es ep hb hd
      cases q : H b with
      | none => rfl
      | some u =>
        obtain ⟨rfl, _⟩ := hA b u q
        rw [obj] at hb
        cases hb
        exact nomatch hd
    have nsB : ∀ {b : Addr} {m : Str → Option Value}, s₁.heap.Ns b m → (hidT s₁.heap H).Ns b m := by
      rintro b m ⟨o, es, ep, h1, h2, h3⟩
      exact ⟨o, es, ep, hidT_get h1 (noDict h1 h2), h2, h3⟩
    have kinB : K.In (hidT s₁.heap H) := by
      intro b o hb
      refine hidT_get (kin b o hb) ?_
      cases q : H b with
      | none => rfl
      | some u =>
        obtain ⟨rfl, h2⟩ := hA b u q
        rw [h2] at hb
        cases hb
    have md : Mod K mg (hidT s₁.heap H) := by
      refine ⟨kinB, nsB globs, ⟨mb, nsB blt, bb⟩, ?_⟩
      obtain ⟨mc, h1, h2⟩ := nol
      exact ⟨mc, nsB h1, h2⟩
    have nomem : ∀ b : Addr, b ∉ frs [] := fun b z => absurd (show b ∈ ([] : List Addr) from z) (by simp)
    have env : Env0 P w K mg (hidT s₁.heap H) callerA [] s₁ H :=
      ⟨rfl, md, fun b o h => of_hidT h, Nat.le_of_eq (hidT_size _ _), trivial, fun b z => absurd z (nomem b), hok, .of_eq gens⟩
    refine codeAny_mono ((F _ kinB (nsB globs)).run s₁ H ⟨[.ref a], []⟩ [.ref a] [.ref a] _ _ room env (binds s₁ (.ref a)) (.cons rfl .nil) (pre H only sq)) ?_
    intro r s' h
    match r, h with
    | .error e, h => exact (noX H e s' h).elim
    | .ok .next, h => exact h.elim
    | .ok .brk, h => exact h.elim
    | .ok .cont, h => exact h.elim
    | .ok (.ret u), ⟨v, H', os, bare, un, hok', ru, hv⟩ =>
      have hv : v = .bl true := hv
      subst hv
      obtain rfl : u = Value.bool true := ru
      refine ⟨rfl, OldK.of_keep ?_, os, bare⟩
      intro b o hb
      cases q : H b with
      | none => exact un.keep b o hb q (nomem b) (by simp)
      | some u =>
        rcases only b with z | ⟨ob, xs, z⟩
        · rw [q] at z
          cases z
        · obtain ⟨h1, _⟩ := hok b _ z
          obtain ⟨h2, _⟩ := hok' b _ (un.frzs b ob _ z)
          rw [hb] at h1
          cases h1
          exact h2
  cases hk : K.lookup a with
  | some o =>
    have e := kin a o hk
    rw [obj] at e
    cases e
    refine main (fun _ => none) (fun _ => .inl rfl) (.inr ⟨_, vs.toArray, _, hk, rfl, rfl, rfl, ?_, ?_⟩) (fun b u z => nomatch z) (fun b u z => nomatch z)
    · rw [List.size_toArray, hlv]
      exact size
    · simpa using rv
  | none =>
    have at_a : ∀ b u, (if b = a then some (HO.frz { cls := .type "list", data := .seq vs.toArray } (.lst (ns.map V.int))) else none) = some u → b = a ∧ u = HO.frz { cls := .type "list", data := .seq vs.toArray } (.lst (ns.map V.int)) := by
      intro b u z
      by_cases hb : b = a
      · rw [if_pos hb] at z
        exact ⟨hb, (Option.some.inj z).symm⟩
      · rw [if_neg hb] at z
        cases z
    refine main (fun b => if b = a then some (.frz { cls := .type "list", data := .seq vs.toArray } (.lst (ns.map V.int))) else none) ?_ (.inl (.inr ⟨_, if_pos rfl⟩)) ?_ fun b u z => ⟨(at_a b u z).1, hk⟩
    · intro b
      by_cases hb : b = a
      · exact .inr ⟨_, _, if_pos hb⟩
      · exact .inl (if_neg hb)
    · intro b u z
      obtain ⟨rfl, rfl⟩ := at_a b u z
      refine ⟨obj, ?_, vs, _, rv, obj⟩
      rw [List.length_map]
      exact size
end
/-- THE END: k_head's goal, from a promise that holds from outside -/
theorem walkC {l : PySem.W.OpenLaw} {n k : Nat} {q : Program} {loose : List Str} {XP : (Str → Option Value) → Heap → Prop} {YP : World → Heap → Prop} {d : DefRec} {K : Params → PySem.W.Frag} {CX : World → CXT} {x : Str}
    (hn : l.most = some n) (hn2 : n ≤ sizeLine) (hdf : d.params.defaults = []) (hr : Room k callerA)
    (hY : ∀ (w : World) (h : Heap), YP w h → (K w.params).In h)
    (F : ∀ (w : World) (mg : Str → Option Value) (fa : Addr) (h : Heap), (K w.params).In h → h.Ns mainGlobals mg → mg d.name = some (.ref fa) →
      ∃ fd : FuncData, (∀ (s : Shared) (u : Value), BindsTo s fd ⟨[u], []⟩ [(x, u)]) ∧
        ∃ sp : Sp, (∀ base : Heap, (K w.params).In base → base.Ns mainGlobals mg → AtC l.prog w (K w.params) mg base (CX w) k fa fd [x] sp) ∧
          ∀ (H : Hp) (a : Addr) (ns : List Int), ns.length ≤ n → Only H → SqL (K w.params) H a (ns.map V.int) → sp [.ref a] H (fun v _ => v = .bl true) fun _ _ _ => False)
    (hCX : ∀ (w : World) (H : Hp) (s : Shared) (e : Value) (s' : Shared), CX w [] H s (fun _ _ _ => False) e s' → False) :
    PySem.W.WalkO q loose XP YP l.row.toRowW d [] (fun f vs => PySem.call f vs) := by
  refine Att.attach_call hn hdf ?_
  intro w s₀ s₁ mg mb fa o pm cd doc a vs ns G Y ho hd hcd hmg hobj hints hlen hg
  obtain ⟨fd, hb, sp, hF, hs⟩ := F w mg fa _ (hY w _ Y) G.T.g hmg
  refine lawC (hY w _ Y) G.T.g G.T.b G.T.builtins G.T.nolimit hg hobj hints (Nat.le_trans hlen hn2) hr hF hb ?_ ?_
  · intro H hO hS
    exact hs H a ns hlen hO hS
  · intro H e s'
    exact hCX w H s₁ e s'
/-- no exception with no wish -/
theorem noCX {P : Program} {w : World} (H : Hp) (s : Shared) (e : Value) (s' : Shared) (h : L2.CX P w [] H s (fun _ _ _ => False) e s') : False := by
  obtain ⟨a, B, H', cls, d, _, _, _, _, _, _, _, hE⟩ := h
  exact hE
/-- the law's body by a plain function over the script's ints -/
theorem lawV {P : Program} {w : World} {K : Kt} {mg : Str → Option Value} {base : Heap} {k : Nat} {f : Addr} {name qual x : Str} {st : Stmt} {fd : FuncData} {N : List Str} {body : Sx} (Fu : Fun K.K name qual st f fd) (Sc : FnScope N [x] (defScope st))
    (hbody : ∀ (G : Gx), G.K = K → ∀ (cdv : Value) (s : Shared) (H : Hp) (E : XK), Room k (callerA.deeper (envOfC qual (defScope st) s.heap.objs.size f cdv)) →
      PSs (cxOf (L2.CX P w) P w K.K mg base N qual (defScope st) f cdv callerA [] s H E) (defBody st) (tS G (fun cls d _ H' => E cls d H') body)) :
    AtC P w K.K mg base (L2.CX P w) (k + 1) f fd [x] (spF K 1 (runF N.length body)) := by
  refine atC_of Fu Sc (fun vs H Q E h => spF_len h) ?_
  intro cdv s H vs Q E hr h
  obtain ⟨G, e, t⟩ := body_of h
  exact ⟨_, hbody G e cdv s H E hr, t⟩
/-- the script, handed to the law -/
theorem law_pre {K : Kt} {n : Nat} {fn : Fn} (h : ∀ ns : List Int, ns.length ≤ n → ∃ cs, fn [.frl (ns.map D.int)] [] = .ok (.bl true) cs) (H : Hp) (a : Addr) (ns : List Int) (hl : ns.length ≤ n) (_ : Only H) (hs : SqL K.K H a (ns.map V.int)) :
    spF K 1 fn [.ref a] H (fun v _ => v = .bl true) fun _ _ _ => False := by
  obtain ⟨cs, e⟩ := h ns hl
  refine ⟨[], H, [.frl (ns.map D.int)], [], ⟨rfl, fun i d e => by simp at e, rfl, fun i c a e => by simp at e, List.nodup_nil, Same.refl _, fun a ha => by simp at ha, fun _ _ h _ => h, fun a ha => by simp at ha, fun _ _ h => .inl h, Same.refl _, List.prefix_refl _⟩, .cons (.frl hs (ints_back ns)) .nil, rfl, ?_⟩
  rw [e]
  intro ρ F H' v x r rv
  cases rv
  rfl
end VL
namespace VL
open PySem L2 PyProof.Rows
set_option maxHeartbeats 1000000 in
theorem enum_new1 {v : Value} {o : Obj} {Hh : Heap → Prop} (B : Begins v o Hh) :
    Meets (Builtin.«enumerate.__new__» ⟨[.type "enumerate", v], []⟩) (fun _ R s => Hh s.heap ∧
      R (.ok (.ret (.ref (s.heap.push o).objs.size))) { s with heap := (s.heap.push o).push { cls := .type "enumerate", data := .fields #[.none, .bool false, .ref s.heap.objs.size, rawInt 0, .none, .none] } }) :=
  .of_wp fun prog w A R s hs => by
    obtain ⟨hp, gn, dr, tk, os⟩ := s
    obtain ⟨hH, hR⟩ := hs
    have sub := sub_enumerate
    have step : ∀ {A1 : Around} {E1 : Value → Shared → Prop} {Q1 : Value → Shared → Prop}, Q1 (.ref hp.objs.size) ⟨hp.push o, gn, dr, tk, os⟩ → wpAny (model prog w) A1 (pyIter v) Q1 E1 ⟨hp, gn, dr, tk, os⟩ := by
      intro A1 E1 Q1 h1
      exact B.iter prog w _ _ ⟨hp, gn, dr, tk, os⟩ _ hH h1
    wp_walk using step
    refine wpAny_stack_any fun stk => wpAny_pure ?_
    split
    · rename_i cl _ _ _ _ _
      cases (cl == Value.type "enumerate")
      all_goals
        wp_walk using step
        exact ⟨_, rfl, hR⟩
    · wp_walk using step
      exact ⟨_, rfl, hR⟩
section
variable {prog : Program} {w : World} {A : Around} {E : Value → Shared → Prop} {s : Shared}
theorem enum_tup {t : Addr} {items : Array Value} {Q : Value → Shared → Prop} (ht : s.heap.IsTuple t items)
    (h : ∀ h', IsEnum h' (s.heap.objs.size + 1) s.heap.objs.size 0 .none → h'.IsTupleIter s.heap.objs.size t 0 →
      (∀ b o, s.heap.get? b = some o → h'.get? b = some o) → Q (.ref (s.heap.objs.size + 1)) { s with heap := h' }) :
    wpAny (model prog w) A (call (.type "enumerate") [.ref t]) Q E s := by
  refine callType_new F.called_enumerate (by decide) (F.typeCall_enumerate_1 _) (F.newCall_enumerate_1 _) (fun obj => F.args_object_init_2 obj _) F.entry_enumerate_new (enum_new1 (begins_tuple t items)) ⟨ht, ?_⟩
  generalize hO : ({ cls := .type "tuple_iterator", data := .fields #[.ref t, .int 0 0] } : Obj) = O
  have sz : (s.heap.push O).objs.size = s.heap.objs.size + 1 := Heap.size_push ..
  show _ ∧ _
  rw [sz]
  have he : IsEnum ((s.heap.push O).push { cls := .type "enumerate", data := .fields #[.none, .bool false, .ref s.heap.objs.size, rawInt 0, .none, .none] }) (s.heap.objs.size + 1) s.heap.objs.size 0 .none := by
    have q := Heap.get?_push_size (s.heap.push O) (o := { cls := .type "enumerate", data := .fields #[.none, .bool false, .ref s.heap.objs.size, rawInt 0, .none, .none] }) rfl
    rw [sz] at q
    exact q
  have hi : ((s.heap.push O).push { cls := .type "enumerate", data := .fields #[.none, .bool false, .ref s.heap.objs.size, rawInt 0, .none, .none] }).get? s.heap.objs.size = some O :=
    Heap.get?_push_of_some _ (Heap.get?_push_size _ (by rw [← hO]; rfl))
  refine ⟨⟨_, he, rfl⟩, h _ he ⟨O, hi, by rw [← hO], by rw [← hO]; rfl⟩ fun b ob y => Heap.get?_push_of_some _ (Heap.get?_push_of_some _ y)⟩
end
/-- each item of the tuple at a in a new pair -/
def IteT (K : PySem.W.Frag) (a : Addr) : It where
  go := fun i H => ∃ (xs : List V) (x : V), SqT K H a xs ∧ xs[i]? = some x
  yld := fun i H v H' => ∃ T x, v = .ref T ∧ H T = none ∧ H' = upd H T (.tup [.int (i : Nat), x]) ∧ ∀ xs, SqT K H a xs → xs[i]? = some x
  stop := fun i H => ∃ xs : List V, SqT K H a xs ∧ xs.length = i
theorem tupIter_ne {h : Heap} {it a : Addr} {i : Nat} {items : Array Value} (h1 : h.IsTupleIter it a i) (h2 : h.IsTuple a items) : a ≠ it := by
  rintro rfl
  obtain ⟨o, e, c, _⟩ := h1
  obtain ⟨o2, e2, c2, _⟩ := h2
  rw [e] at e2
  cases e2
  rw [c] at c2
  exact absurd c2 (by decide)
theorem turn_enumT {P : Program} {w : World} {K : PySem.W.Frag} {elts : List Expr} {kk : Nat} {tpos : Pos} (a e it : Addr) :
    Turn P w K (.Tuple elts kk tpos) (IteT K a) [e, it] e (fun i h => (∃ old, IsEnum h e it ((i : Nat) : Int) old) ∧ h.IsTupleIter it a i ∧ e ≠ it) where
  mem := by simp
  obj := by
    rintro i h ⟨⟨old, he⟩, ⟨o, ho, hc, hd⟩, _⟩ b hb
    rcases List.mem_cons.mp hb with rfl | hb
    · exact ⟨_, he, fun v q => nomatch q⟩
    · rw [List.mem_singleton.mp hb]
      exact ⟨o, ho, fun v q => by rw [hd] at q; cases q⟩
  keep := by
    rintro i h h' ⟨⟨old, he⟩, hi, ne⟩ k
    exact ⟨⟨old, k e (by simp) _ he⟩, hi.at fun o q => k it (by simp) o q, ne⟩
  item := by
    intro X hP hw hK hc i pins s σ H E I hf st hg
    subst hP hw hK
    obtain ⟨⟨old, he⟩, hit, ne⟩ := st
    obtain ⟨xs, x, hq, hx⟩ := hg
    obtain ⟨its, rv, pt, hz⟩ := I.tuple hq
    have pt : s.heap.IsTuple a its.toArray := pt
    obtain ⟨u, hu, ru⟩ := rv.get hx
    have hi : i < its.toArray.size := by
      rw [List.size_toArray]
      exact (List.getElem?_eq_some_iff.mp hu).1
    have lte : e < s.heap.objs.size := Heap.lt_size he
    have lti : it < s.heap.objs.size := by
      obtain ⟨_, q, _⟩ := hit
      exact Heap.lt_size q
    have nea : e ≠ a := by
      rintro rfl
      obtain ⟨o2, e2, c2, _⟩ := pt
      rw [he] at e2
      cases e2
      exact absurd (show Value.type "enumerate" = Value.type "tuple" from c2) (by decide)
    have Dr := Draws.tuple (prog := X.prog) (w := X.w) (A := X.A.in1) (I.ok.hd hc) it a (tupIter_ne hit pt) its.toArray
    refine wpAny_pyNext_enum_itemD Dr he ⟨hit, pt⟩ hi ne (by simp [ne, nea]) ?_
    intro y h' tk hy hOut hSt hT hsz hk
    have ey : y = u := by
      rw [List.getElem?_toArray, hu] at hy
      exact (Option.some.inj hy).symm
    subst ey
    refine ⟨_, rfl, wpAny_letOwnedTupleGo_enum (s := { s with heap := h', toks := tk + 1 }) hOut ?_⟩
    intro h2 he2 sb
    have at2 : h2.get? s.heap.objs.size = some { cls := .type "tuple", data := .seq #[.int i tk, y] } := (sb.2 _ (Nat.ne_of_gt lte)).trans hT
    have new : ObjOk X.prog X.w (upd H s.heap.objs.size (.tup [.int (i : Nat), x])) h2 s.heap.objs.size (.tup [.int (i : Nat), x]) := by
      refine ⟨by show 2 ≤ sizeLine; decide, [.int i tk, y], .cons ⟨_, rfl⟩ (.cons ru .nil), ?_⟩
      exact ⟨_, at2, rfl, _, rfl⟩
    have I2 : Inv X pins σ (upd H s.heap.objs.size (.tup [.int (i : Nat), x])) { s with heap := h2, toks := tk + 1 } := by
      refine I.turnedNew (ch := [e, it]) ?_ hf (Nat.le_refl _) new
      intro b ob hb q
      have n1 : b ≠ e := fun z => hb (by simp [z])
      have n2 : b ≠ it := fun z => hb (by simp [z])
      exact (sb.2 b n1).trans (hk b ob n1 n2 q)
    refine ⟨.ref s.heap.objs.size, _, I2, rfl, ⟨_, x, rfl, I.hok.fresh (Nat.le_refl _), rfl, ?_⟩, ⟨⟨y, ?_⟩, hSt.1.at fun o q => (sb.2 it (Ne.symm ne)).trans q, ne⟩, ?_⟩
    · intro ys hys
      rw [I.tuple_inj hys hq]
      exact hx
    · rw [show ((i + 1 : Nat) : Int) = (i : Int) + 1 by omega]
      exact he2
    · intro b hb
      have lb : b < s.heap.objs.size := by
        rcases List.mem_cons.mp hb with rfl | hb
        · exact lte
        · rw [List.mem_singleton.mp hb]; exact lti
      rw [upd_ne (Nat.ne_of_lt lb)]
      exact (hf b hb).1
  done := by
    intro X hP hw hK hc i pins s σ H E I hf st hg
    subst hP hw hK
    obtain ⟨⟨old, he⟩, hit, ne⟩ := st
    obtain ⟨xs, hq, hx⟩ := hg
    obtain ⟨its, rv, pt, hz⟩ := I.tuple hq
    have pt : s.heap.IsTuple a its.toArray := pt
    obtain ⟨f0, f1, f2, f3, f4, f5⟩ := hf it (by simp)
    have Dr := Draws.tuple (prog := X.prog) (w := X.w) (A := X.A.in1) (I.ok.hd hc) it a (tupIter_ne hit pt) its.toArray
    have ei : its.toArray.size = i := by rw [List.size_toArray, ← rv.length, hx]
    refine wpAny_pyNext_enum_endD Dr he ⟨by rw [ei]; exact hit, pt⟩ ?_
    intro h' eb
    exact ⟨rfl, I.turned (t' := s.toks) (fun b o hb q => eb b o hb q) f0 f1 f3 f4 f5⟩
  self := by
    rintro A i s Q E ⟨⟨_, he⟩, _⟩ h
    exact wpAny_pyIter_enum he h
def iEnumT (K : PySem.W.Frag) (ta : TA) : TI := fun σ H R => ta σ H fun vs H1 => ∃ a xs, vs = [.ref a] ∧ SqT K H1 a xs ∧ R (IteT K a) H1
theorem pi_enumT {X : Cx} {e : Expr} {ta : TA} {p pos tpos : Pos} {elts : List Expr} {kk : Nat} (hg : Gl X "enumerate") (hm : X.mg "enumerate" = none) (ha : PA X [e] ta) (hs : starEach [e] X.env = [(false, eval e X.env)] := by rfl) :
    PI X (.Tuple elts kk tpos) (.Call (.Name "enumerate" p) [e] [] pos) (iEnumT X.K ta) := by
  constructor
  intro pins s σ H R I h
  refine Call_ (ld_blt I hg hm boot_enumerate (PyProof.Rows.callWith_type1 (thn (ha.run pos pins s σ H _ I h) ?_) hs rfl))
  rintro us s1 ⟨vs, H1, I1, r1, a, xs, rfl, hq, q⟩
  cases r1 with
  | cons r rr =>
    cases rr
    cases r
    obtain ⟨its, rv, pt, hz⟩ := I1.tuple hq
    refine enum_tup (show s1.heap.IsTuple a its.toArray from pt) ?_
    intro h' he hit hk
    refine wpAny_pyIter_enum he ?_
    have I2 : Inv X pins σ H1 { s1 with heap := h' } := I1.kept (t' := s1.toks) hk
    refine ⟨s1.heap.objs.size + 1, [s1.heap.objs.size + 1, s1.heap.objs.size], _, _, H1, rfl, I2, turn_enumT a (s1.heap.objs.size + 1) s1.heap.objs.size, ⟨⟨.none, he⟩, hit, Nat.succ_ne_self _⟩, ?_, q⟩
    intro b hb
    have le : s1.heap.objs.size ≤ b := by
      rcases List.mem_cons.mp hb with rfl | hb
      · exact Nat.le_add_right _ _
      · rw [List.mem_singleton.mp hb]; exact Nat.le_refl _
    exact I1.fpOk le (I1.hok.fresh le)
section
variable {X : Cx} {G : Gx} {W : WX} {ρ : List Addr} {F : Hp} {e : Expr} {pos : Pos}
theorem wk_enumT {a : Addr} {ds : List D} {vs : List V} (hs : SqT G.K.K F a vs) (rv : RVs G.K ρ F ds vs) : Wk G ρ F (IteT G.K.K a) (enumD ds) keepAll := by
  intro ρ1 F1 st1 σ1 H1 i x r _
  have hs1 : SqT G.K.K H1 a vs := sqT_same r.fz (sqT_same x.fz hs)
  constructor
  · intro d e
    unfold enumD at e
    rw [List.getElem?_mapIdx] at e
    cases q : ds[i]? with
    | none => rw [q] at e; cases e
    | some d0 =>
      rw [q] at e
      cases e
      obtain ⟨v, e1, e2⟩ := (rv.ext x).get q
      refine ⟨⟨vs, v, hs1, e1⟩, ?_⟩
      rintro y H' ⟨T, u, rfl, e4, rfl, e6⟩
      have e6 := e6 vs hs1
      rw [e1] at e6
      cases e6
      obtain ⟨x2, r2⟩ := r.fresh (o := .tup [.int (i : Nat), v]) e4
      exact ⟨ρ1, _, x2, rfl, same_upd' e4, r2, .tup (SqT.of upd_same) (.cons (.int _) (.cons (e2.ext x2) .nil))⟩
  · intro e
    unfold enumD at e
    rw [List.length_mapIdx] at e
    exact ⟨vs, hs1, by rw [← rv.length, e]⟩
def iEnT (g : Ax) : Ix := fun st => (g st).bind fun xs c1 => match xs with
  | [.tup ds] => .ok (enumD ds, keepAll) c1
  | [.btp ds] => .ok (enumD ds, keepAll) c1
  | _ => .no
theorem di_enumT {g : Ax} {p pos tpos : Pos} {elts : List Expr} {kk : Nat} (hK : X.K = G.K.K) (hg : Gl X "enumerate") (hm : X.mg "enumerate" = none) (ha : PA X [e] (tAs G W g)) (hs : starEach [e] X.env = [(false, eval e X.env)] := by rfl) :
    PI X (.Tuple elts kk tpos) (.Call (.Name "enumerate" p) [e] [] pos) (tI G W (iEnT g)) := by
  refine (pi_enumT hg hm ha hs).impV ?_
  rintro σ H R ⟨ρ, F, st, r, p⟩
  refine tI_of (R := RVs) r p (fun ρ1 F1 H1 xs c1 v x1 r1 rv1 q hn => ?_) (fun xs c1 => ?_)
  · rw [hK]
    split at hn
    · cases rv1 with
      | cons h1 h2 =>
        cases h2
        cases h1 with
        | tup h1 h2 => exact ⟨_, _, rfl, sqT_same r1.fz h1, q _ rfl _ (wk_enumT h1 h2)⟩
    · cases rv1 with
      | cons h1 h2 =>
        cases h2
        cases h1 with
        | btp h1 _ h2 => exact ⟨_, _, rfl, sqT_same r1.fz (.inl (.inr ⟨_, h1⟩)), q _ rfl _ (wk_enumT (.inl (.inr ⟨_, h1⟩)) h2)⟩
    · exact absurd rfl hn
  · split <;> first | exact .inl ⟨_, rfl⟩ | exact .inr rfl
end
end VL
namespace VL
open PySem L2 PyProof.Rows
def rReprD (K : PySem.W.Frag) : List V → Hp → VK → Prop := fun xs H Q => ∃ (x : V) (d : PyData), xs = [x] ∧ Dp K H x d ∧ SeqAt.shaped d = true ∧ d.showable = true ∧ d.shown.length ≤ sizeLine ∧ Q (.str d.shown) H
theorem call_reprD {X : Cx} (hg : X.A.guards = some []) (hu : X.A.units + 66 < cLine) : CallR X (.builtin "repr") (rReprD X.K) := by
  intro pins s σ H xs us Q I r h
  obtain ⟨x, d, rfl, dp, sh, sw, sz, q⟩ := h
  obtain ⟨u, rfl, rx⟩ := vals1 r
  cases d with
  | none =>
    cases dp
    cases rx
    exact PySem.P.repr_of_none ⟨.str _, H, I.tok _, ⟨_, rfl⟩, q⟩
  | bool b =>
    cases dp
    cases rx
    refine PySem.P.repr_of_bool ⟨.str _, H, I.tok _, ⟨_, rfl⟩, ?_⟩
    simp only [PyData.shown] at q
    exact q
  | int i =>
    cases dp
    obtain ⟨t, rfl⟩ := rx
    simp only [PyData.showable, decide_eq_true_eq] at sw
    refine PySem.P.repr_of_int sw ⟨.str _, H, I.tok _, ⟨_, rfl⟩, ?_⟩
    simp only [PyData.shown] at q
    exact q
  | str z =>
    cases dp
    obtain ⟨t, rfl⟩ := rx
    simp only [PyData.shown] at q sz
    exact PySem.P.repr_of_str ⟨.str _, H, I.tok _, ⟨_, rfl⟩, q⟩ sz
  | dict kvs => cases dp
  | list ds =>
    have hd := SeqAt.depth_of_shaped sh
    have hnd := PyData.hasDict_of_canLay _ (SeqAt.canLay_of_shaped sh)
    obtain ⟨as, rd⟩ := Dp.reads I _ _ _ dp rx
    cases dp
    obtain rfl : u = Value.ref _ := rx
    refine repr_of_reads' rd sw (PyData.noDict_hsm hnd) hg (by omega) (fun _ _ e => e) ?_ sz
    intro h' t tk hk
    exact ⟨.str _, H, I.kept hk, ⟨_, rfl⟩, q⟩
  | tuple ds =>
    have hd := SeqAt.depth_of_shaped sh
    have hnd := PyData.hasDict_of_canLay _ (SeqAt.canLay_of_shaped sh)
    obtain ⟨as, rd⟩ := Dp.reads I _ _ _ dp rx
    cases dp
    obtain rfl : u = Value.ref _ := rx
    refine repr_of_reads' rd sw (PyData.noDict_hsm hnd) hg (by omega) (fun _ _ e => e) ?_ sz
    intro h' t tk hk
    exact ⟨.str _, H, I.kept hk, ⟨_, rfl⟩, q⟩
/-- may be shown -/
def showOk (d : D) : Bool := plain d && SeqAt.shaped (py d) && (py d).showable && decide ((py d).shown.length ≤ 16777216)
def hRepr : FB := fun cs ds => match ds with
  | [x] => if showOk (norm cs x) then .ok (.str (py (norm cs x)).shown) cs else .no
  | _ => .no
section
variable {X : Cx} {G : Gx} {W : WX} {e a : Expr} {es : List Expr} {g : Ax} {pos p : Pos} {fa : Ex}
theorem vn_repr : VN G W (rReprD G.K.K) hRepr := by
  intro ρ F st σ H ds vs Q r rv p
  unfold hRepr at p
  split at p
  · rename_i x
    cases rv with
    | cons h1 h2 =>
      cases h2
      by_cases c : showOk (norm st.cs x) = true
      · rw [if_pos c] at p
        unfold showOk at c
        simp only [Bool.and_eq_true, decide_eq_true_eq] at c
        exact ⟨_, _, rfl, dp_norm r h1 c.1.1.1, c.1.1.2, c.1.2, line_of c.2, p.here r (.str _)⟩
      · rw [if_neg c] at p
        exact p.elim
  · exact p.elim
theorem de_repr (hK : X.K = G.K.K) (hgd : X.A.guards = some []) (hu : X.A.units + 66 < cLine) (hg : Gl X "repr") (hm : X.mg "repr" = none) (ha : PA X (e :: es) (tAs G W g)) (he : starEach (e :: es) X.env = (false, eval e X.env) :: starEach es X.env := by rfl) (hpl : (backTo pos (starEach es X.env)).any (·.1) = false := by rfl) : PE X (.Call (.Name "repr" p) (e :: es) [] pos) (tE G W (eB hRepr g)) :=
  de_callB (call_reprD hgd hu) (by rw [hK]; exact vn_repr) hg hm boot_repr ha (he := he) (hpl := hpl)
def putD (f : Str) (d : D) : List Str → List D → List Str × List D
  | k :: ks, x :: xs => if k = f then (k :: ks, d :: xs) else ((putD f d ks xs).1.cons k, (putD f d ks xs).2.cons x)
  | _, _ => ([f], [d])
def setFld (cn : Nat) (f : Str) (o v : D) (st : S) : SOut := match o with
  | .loc n => (match st.cs[n]? with
    | some (.ins C ks ds) => if C = cn ∧ ks.length < 1000 then .nx ⟨st.env, st.cs.set n (.ins C (putD f v ks ds).1 (putD f v ks ds).2)⟩ else .no
    | _ => .no)
  | _ => .no
def sSetFld (cn : Nat) (f : Str) (fv fo : Ex) : Sx := fun st => thenS (fv st) st.env fun v st1 => thenS (fo st1) st1.env fun o st2 => setFld cn f o v st2
end
def lastIns (cs : List Cell) : Option (List Cell × Nat × List Str × List D) := match cs.reverse with
  | .ins C ks ds :: r => some (r.reverse, C, ks, ds)
  | _ => none
/-- C(..): __init__ is fn; the new instance is its first argument -/
def makeD (cn : Nat) (fn : Fn) (ds : List D) (cs : List Cell) : Out D := match fn (.loc cs.length :: ds) (cs ++ [.ins cn [] []]) with
  | .ok .non c2 => (match lastIns c2 with
    | some (c3, C, ks, es) => if C = cn ∧ c3.length = cs.length ∧ belows cs.length es = true ∧ c3.all (belowC cs.length) = true then .ok (.obj C ks es) c3 else .no
    | none => .no)
  | .ok _ _ => .no
  | .ex e c2 => if belows cs.length e.ds = true ∧ (c2.take cs.length).all (belowC cs.length) = true ∧ c2.length = cs.length + 1 then .ex e (c2.take cs.length) else .no
  | .no => .no
section
variable {X : Cx} {G : Gx} {W : WX} {ρ : List Addr} {F : Hp} {st : S} {σ : L2.St} {H : Hp} {e : Expr} {es : List Expr} {g : Ax} {pos p : Pos}
def eMake (cn : Nat) (fn : Fn) (g : Ax) : Ex := fun st => (g st).bind fun ds c1 => makeD cn fn ds c1
theorem _root_.L2.PK.impV {X : Cx} {kws : List Keyword} {t t' : TA} (h : PK X kws t) (m : ∀ σ H Q, t' σ H Q → t σ H Q) : PK X kws t' := ⟨fun pos pins s σ H Q I hw => h.run pos pins s σ H Q I (m _ _ _ hw)⟩
end
end VL
namespace VL
open PySem L2 PyProof.Rows
/-- as many values -/
def ALen (n : Nat) (g : Ax) : Prop := ∀ st ds c1, g st = .ok ds c1 → ds.length = n
theorem alen_nil : ALen 0 aNil := by
  intro st ds c1 h
  cases h
  rfl
theorem alen_cons {n : Nat} {f : Ex} {g : Ax} (h : ALen n g) : ALen (n + 1) (aCons f g) := by
  intro st ds c1 e
  unfold aCons at e
  cases q : f st with
  | no => rw [q] at e; cases e
  | ex _ _ => rw [q] at e; cases e
  | ok x c2 =>
    rw [q] at e
    have e : (g ⟨st.env, c2⟩).bind (fun xs c2 => Out.ok (x :: xs) c2) = .ok ds c1 := e
    cases q2 : g ⟨st.env, c2⟩ with
    | no => rw [q2] at e; cases e
    | ex _ _ => rw [q2] at e; cases e
    | ok xs c3 =>
      rw [q2] at e
      cases e
      rw [List.length_cons, h _ _ _ q2]
/-- a def (or method) of the text as it stands behind the top; dV its defaults -/
structure FunA (K : PySem.W.Frag) (x qual : Str) (st : Stmt) (dV : Value) (f : Addr) (fd : FuncData) : Prop where
  ex : ∃ (oc : Value) (od : Option Addr) (kV doc pm : Value) (an : Option Addr) (cdv ct : Value) (osl : Array (Option Value)),
    fd = PySem.W.fnOf x qual (defArgs st) (defBody st) (defScope st) dV kV doc pm an cdv ct ∧ K.lookup f = some ⟨oc, od, .func fd, osl⟩ ∧ PySem.W.codeIn K cdv qual = true
section
variable {P : Program} {w : World} {K : Kt} {mg : Str → Option Value} {base : Heap} {x qual : Str} {st : Stmt} {f : Addr} {fd : FuncData} {ps N : List Str} {k : Nat} {fn fn' : Fn} {body : Sx}
theorem funA_mk {oc : Value} {od an : Option Addr} {osl : Array (Option Value)} {dV kV doc pm cdv ct : Value} (l : K.K.lookup f = some ⟨oc, od, .func (PySem.W.fnOf x qual (defArgs st) (defBody st) (defScope st) dV kV doc pm an cdv ct), osl⟩) (c : PySem.W.codeIn K.K cdv qual = true) :
    FunA K.K x qual st dV f (PySem.W.fnOf x qual (defArgs st) (defBody st) (defScope st) dV kV doc pm an cdv ct) := ⟨⟨oc, od, kV, doc, pm, an, cdv, ct, osl, rfl, l, c⟩⟩
/-- every parameter is given, by place -/
theorem FunA.binds (Fu : FunA K.K x qual st .none f fd) (h : ∀ (kV doc pm : Value) (an : Option Addr) (cdv ct : Value) (us : List Value), us.length = ps.length → bindArgs (PySem.W.fnOf x qual (defArgs st) (defBody st) (defScope st) .none kV doc pm an cdv ct) ⟨us, []⟩ = pure (ps.zip us)) : Binds K.K fd ps [] := by
  obtain ⟨oc, od, kV, doc, pm, an, cdv, ct, osl, rfl, lk, hcd⟩ := Fu.ex
  exact .all (h kV doc pm an cdv ct)
theorem okA {dV : Value} (Fu : FunA K.K x qual st dV f fd) (S : FnScope N ps (defScope st))
    (hbody : ∀ (G : Gx), G.K = K → ∀ (cdv : Value) (A : Around) (outer : List Env) (s : Shared) (H : Hp) (E : XK), Room k (A.deeper (envOfC qual (defScope st) s.heap.objs.size f cdv)) →
      PSs (cxOf (L2.CX P w) P w K.K mg base N qual (defScope st) f cdv A outer s H E) (defBody st) (tS G (fun cls d _ H' => E cls d H') body)) :
    FnOk P w K.K mg base (L2.CX P w) (k + 1) f fd ps (spF K ps.length (runF N.length body)) := by
  obtain ⟨oc, od, kV, doc, pm, an, cdv, ct, osl, rfl, lk, hcd⟩ := Fu.ex
  refine fn_of lk hcd S (fun vs H Q E h => spF_len h) ?_
  intro A outer s H vs Q E hr h
  obtain ⟨G, e, t⟩ := body_of h
  exact ⟨_, hbody G e cdv A outer s H E hr, t⟩
/-- the def x of the text is there: its statement, its binding -/
structure Txt1 (K : Kt) (mg : Str → Option Value) (x : Str) (st : Stmt) (ps : List Str) : Prop where
  ex : ∃ (f : Addr) (fd : FuncData), mg x = some (.ref f) ∧ PySem.W.keepIn K.K (.ref f) = true ∧ FunA K.K x x st .none f fd ∧ Binds K.K fd ps []
/-- the def x keeps fn's promise at level k -/
structure Def (P : Program) (w : World) (K : Kt) (mg : Str → Option Value) (base : Heap) (x : Str) (st : Stmt) (k : Nat) (ps : List Str) (fn : Fn) : Prop where
  ex : ∃ (f : Addr) (fd : FuncData), mg x = some (.ref f) ∧ PySem.W.keepIn K.K (.ref f) = true ∧ FunA K.K x x st .none f fd ∧ Binds K.K fd ps [] ∧ FnOk P w K.K mg base (L2.CX P w) k f fd ps (spF K ps.length fn)
theorem mkDef (t : Txt1 K mg x st ps) (S : FnScope N ps (defScope st))
    (hbody : ∀ (f : Addr) (G : Gx), G.K = K → ∀ (cdv : Value) (A : Around) (outer : List Env) (s : Shared) (H : Hp) (E : XK), Room k (A.deeper (envOfC x (defScope st) s.heap.objs.size f cdv)) →
      PSs (cxOf (L2.CX P w) P w K.K mg base N x (defScope st) f cdv A outer s H E) (defBody st) (tS G (fun cls d _ H' => E cls d H') body)) :
    Def P w K mg base x st (k + 1) ps (runF N.length body) := by
  obtain ⟨f, fd, h1, h2, h3, h4⟩ := t.ex
  exact ⟨f, fd, h1, h2, h3, h4, okA h3 S fun G e cdv A outer s H E hr => hbody f G e cdv A outer s H E hr⟩
theorem Def.trim (d : Def P w K mg base x st k ps fn) : Def P w K mg base x st k ps (trimF fn) := by
  obtain ⟨f, fd, h1, h2, h3, h4, h5⟩ := d.ex
  exact ⟨f, fd, h1, h2, h3, h4, fnTrim h5⟩
theorem Def.ref (d : Def P w K mg base x st k ps fn) (h : ∀ ds cs, fn' ds cs ≠ .no → fn ds cs = fn' ds cs) : Def P w K mg base x st k ps fn' := by
  obtain ⟨f, fd, h1, h2, h3, h4, h5⟩ := d.ex
  exact ⟨f, fd, h1, h2, h3, h4, fnRef h5 h⟩
structure DefC (P : Program) (w : World) (K : Kt) (mg : Str → Option Value) (base : Heap) (x : Str) (cn k : Nat) (ps : List Str) (fn : Fn) : Prop where
  ex : ∃ (f : Addr) (fd : FuncData), mg x = some (.ref (K.κ cn)) ∧ Mk K.K (K.κ cn) f ∧ Binds K.K fd ps [] ∧ FnOk P w K.K mg base (L2.CX P w) k f fd ps (spF K ps.length fn)
theorem DefC.ref {cn : Nat} (d : DefC P w K mg base x cn k ps fn) (h : ∀ ds cs, fn' ds cs ≠ .no → fn ds cs = fn' ds cs) : DefC P w K mg base x cn k ps fn' := by
  obtain ⟨f, fd, h1, h2, h3, h5⟩ := d.ex
  exact ⟨f, fd, h1, h2, h3, fnRef h5 h⟩
end
section
variable {X : Cx} {G : Gx} {W : WX} {e : Expr} {es : List Expr} {g : Ax} {pos p : Pos} {x : Str} {st : Stmt} {k : Nat} {ps : List Str} {fn : Fn}
theorem de_callD (n : Nat) (d : Def X.prog X.w G.K X.mg X.base x st k ps fn) (hK : X.K = G.K.K) (tk : Takes X W) (hr : Room k X.A) (ha : PA X (e :: es) (tAs G W g)) (hl : ALen ps.length g) (hg : Gl X x := by rfl) (hdb : (x == ("__debug__" : Str)) = false := by decide) (he : starEach (e :: es) X.env = (false, eval e X.env) :: starEach es X.env := by rfl) (hpl : (backTo pos (starEach es X.env)).any (·.1) = false := by rfl) :
    PE X (.Call (.Name x p) (e :: es) [] pos) (tE G W (eCall n fn g)) := by
  obtain ⟨f, fd, h1, h2, _, h3, h5⟩ := d.ex
  rw [← hK] at h2 h3 h5
  exact de_call hK.symm tk h5 hr hg h1 h2 h3 ha hl hdb he hpl
theorem de_callDA (d : Def X.prog X.w G.K X.mg X.base x st k ps fn) (hK : X.K = G.K.K) (tk : Takes X W) (hr : Room k X.A) (ha : PA X (e :: es) (tAs G W g)) (hl : ALen ps.length g) (hg : Gl X x := by rfl) (hdb : (x == ("__debug__" : Str)) = false := by decide) (he : starEach (e :: es) X.env = (false, eval e X.env) :: starEach es X.env := by rfl) (hpl : (backTo pos (starEach es X.env)).any (·.1) = false := by rfl) :
    PE X (.Call (.Name x p) (e :: es) [] pos) (tE G W (eCallAll fn g)) := by
  obtain ⟨f, fd, h1, h2, _, h3, h5⟩ := d.ex
  rw [← hK] at h2 h3 h5
  exact de_callAll hK.symm tk h5 hr hg h1 h2 h3 ha hl hdb he hpl
end
section
variable {X : Cx} {G : Gx} {W : WX} {tg iter elt : Expr} {ifs : List Expr} {scope : Scope} {own : List (Str × Nat)} {pos spos py : Pos} {src : Ix} {sl : List Nat} {g : Gt} {t : Tx} {f : Ex} {i : Nat} {y : Str}
theorem ds_setLc (hc : X.calm = true) (hN : X.N.Nodup) (hi : PI X tg iter (tI G W src)) (ok : BlkOk X.N X.env.scope scope own) (hsl : ∀ i ∈ sl, i ∈ own.map (·.2))
    (hg : ∀ (s : Shared) (H : Hp) (C : Addr) (cl : List (Str × Addr)) (fp : List Addr), PG (X.blk s H scope (compEnvC scope cl C X.env) fp) tg (tG G sl g)) (ht : ∀ (s : Shared) (H : Hp) (C : Addr) (cl : List (Str × Addr)) (fp : List Addr), PTs (X.blk s H scope (compEnvC scope cl C X.env) fp) ifs (tTs G W0 t))
    (he : ∀ (s : Shared) (H : Hp) (C : Addr) (cl : List (Str × Addr)) (fp : List Addr), PE (X.blk s H scope (compEnvC scope cl C X.env) fp) elt (tE G W0 f))
    (hsw : swapsWith (.ListComp elt [⟨tg, iter, ifs, 0⟩] scope pos) (some (.Name y py)) spos.line X.env = pure true) (hy : X.N[i]? = some y := by rfl) (hyl : X.env.scope.names.lookup y = some .local := by rfl) (hs : ∀ x, foldedSetIterable iter X.env x = pure x := by intro _; rfl) :
    PS X (.Assign [.Name y py] (.ListComp elt [⟨tg, iter, ifs, 0⟩] scope pos) spos) (tS G W (sAsg (eLc src g t f (own.map (·.2))) (gNm i))) := by
  refine (ps_setLc (i := i) hc hN hy hyl hsw hi ok hg ht he hs).impV ?_
  rintro E σ H ⟨ρ, F, st, r, p⟩
  refine eLc_of hsl σ H _ (seqS (f := eLc src g t f (own.map (·.2))) r p fun ρ1 F1 H1 x c1 v x1 r1 rv1 p1 => ?_)
  exact p1 ρ1 F1 _ H1 Ext.refl (r1.slot rv1)
end
section
variable {X : Cx} {G : Gx} {W : WX} {a b : Expr} {fa fb : Ex} {pos : Pos}
def tCmp' (g : F2) (fa fb : Ex) : Tx := fun st => (eOp g fa fb st).bind fun x c1 => match x with
  | .bl k => .ok k c1
  | _ => .no
theorem dt_cmp {op : CmpOp} {r : R2} {g : F2} (ho : OpR X (compareOp op) r) (hv : V2 G W r g) (ha : PE X a (tE G W fa)) (hb : PE X b (tE G W fb)) (hm : behindInMarks op b = false) : PT X (.Compare a [op] [b] pos) (tTs G W (tCmp' g fa fb)) := by
  refine (pt_cmpR ho ha hb hm).impV ?_
  rintro σ H Q ⟨ρ, F, st, r, p⟩
  refine tOp_of hv σ H _ (seqX (R := RV) r p fun ρ1 F1 H1 x c1 v x1 r1 rv1 p1 => ?_)
  cases rv1 with
  | bl k => exact ⟨k, rfl, p1.here (st := ⟨st.env, c1⟩) r1 rfl⟩
  | _ => exact p1.elim
theorem dt_eq (hK : X.K = G.K.K) (hu : X.A.units + 64 < cLine) (ha : PE X a (tE G W fa)) (hb : PE X b (tE G W fb)) : PT X (.Compare a [.Eq] [b] pos) (tTs G W (tCmp' (gEqB false) fa fb)) := dt_cmp (op_eqD hu) (by rw [hK]; exact v2_eq) ha hb (nomark _)
theorem dt_ne (hK : X.K = G.K.K) (hu : X.A.units + 64 < cLine) (ha : PE X a (tE G W fa)) (hb : PE X b (tE G W fb)) : PT X (.Compare a [.NotEq] [b] pos) (tTs G W (tCmp' (gEqB true) fa fb)) := dt_cmp (op_neD hu) (by rw [hK]; exact v2_ne) ha hb (nomark _)
theorem dt_lt (ha : PE X a (tE G W fa)) (hb : PE X b (tE G W fb)) : PT X (.Compare a [.Lt] [b] pos) (tTs G W (tCmp' gLt fa fb)) := dt_cmp (op_lt.or op_lt_str) v2_ord ha hb (nomark _)
theorem dt_gt (ha : PE X a (tE G W fa)) (hb : PE X b (tE G W fb)) : PT X (.Compare a [.Gt] [b] pos) (tTs G W (tCmp' gGt fa fb)) := dt_cmp (op_gt.or op_gt_str) v2_ord ha hb (nomark _)
theorem dt_ge (ha : PE X a (tE G W fa)) (hb : PE X b (tE G W fb)) : PT X (.Compare a [.GtE] [b] pos) (tTs G W (tCmp' gGe fa fb)) := dt_cmp (op_ge.or op_ge_str) v2_ord ha hb (nomark _)
theorem is_of {neg : Bool} {ρ : List Addr} {F : Hp} {st : S} {σ : L2.St} {H : Hp} {x y : D} {v w : V} {Q : VK} (r : Rel G ρ F st σ H) (h1 : RV G.K ρ F x v) (h2 : RV G.K ρ F y w) (p : Post RV G W ρ F st.env σ Q (gIs neg st.cs x y)) :
    (w = .non ∧ Q (.bl (if neg then !decide (v = .non) else decide (v = .non))) H) ∨ ∃ i j : Bool, v = .bl i ∧ w = .bl j ∧ Q (.bl (if neg then !decide (i = j) else decide (i = j))) H := by
  unfold gIs at p
  split at p
  · cases h2
    refine .inl ⟨rfl, ?_⟩
    rw [isNon_of h1]
    exact p.here r (.bl _)
  · cases h1; cases h2
    exact .inr ⟨_, _, rfl, rfl, p.here r (.bl _)⟩
  · exact p.elim
theorem dt_is (ha : PE X a (tE G W fa)) (hb : PE X b (tE G W fb)) : PT X (.Compare a [.Is] [b] pos) (tTs G W (tCmp' (gIs false) fa fb)) := dt_cmp (op_isN.or op_isBl) (fun ρ F st σ H x y v w Q r h1 h2 p => is_of r h1 h2 p) ha hb (nomark _)
theorem dt_isnot (ha : PE X a (tE G W fa)) (hb : PE X b (tE G W fb)) : PT X (.Compare a [.IsNot] [b] pos) (tTs G W (tCmp' (gIs true) fa fb)) := dt_cmp (op_notN.or op_notBl) (fun ρ F st σ H x y v w Q r h1 h2 p => is_of r h1 h2 p) ha hb (nomark _)
theorem dt_in (hK : X.K = G.K.K) (ha : PE X a (tE G W fa)) (hb : PE X b (tE G W fb)) (hm : behindInMarks .In b = false := by rfl) : PT X (.Compare a [.In] [b] pos) (tTs G W (tCmp' (gIn false) fa fb)) :=
  dt_cmp (op_in_sign.or op_in_seq) (by rw [hK]; exact fun ρ F st σ H x y v w Q r h1 h2 p => in_of r h1 h2 p) ha hb hm
theorem dt_notin (hK : X.K = G.K.K) (ha : PE X a (tE G W fa)) (hb : PE X b (tE G W fb)) (hm : behindInMarks .NotIn b = false := by rfl) : PT X (.Compare a [.NotIn] [b] pos) (tTs G W (tCmp' (gIn true) fa fb)) :=
  dt_cmp (op_notIn_sign.or op_notIn_seq) (by rw [hK]; exact fun ρ F st σ H x y v w Q r h1 h2 p => in_of r h1 h2 p) ha hb hm
end
end VL
namespace VL
open PySem L2
theorem belows_append {n : Nat} : ∀ {xs ys : List D}, belows n (xs ++ ys) = (belows n xs && belows n ys)
  | [], ys => by simp [belows_nil, belows_cons]
  | x :: xs, ys => by simp [belows_nil, belows_cons, belows_append (xs := xs) (ys := ys), Bool.and_assoc]
theorem belows_all {n : Nat} : ∀ {xs : List D}, belows n xs = xs.all (below n)
  | [] => rfl
  | x :: xs => by simp [belows_nil, belows_cons, belows_all (xs := xs)]
theorem belows_of {n : Nat} {xs : List D} (h : ∀ x ∈ xs, below n x = true) : belows n xs = true := by
  rw [belows_all, List.all_eq_true]
  exact h
theorem lastCell_snoc {cs : List Cell} {ds : List D} : lastCell (cs ++ [.lst ds]) = some (cs, ds) := by
  unfold lastCell
  rw [List.reverse_append]
  simp
/-- one answer an item: none, or what is put in -/
inductive Picks (R : D → Option D → Prop) : List D → List D → Prop
  | nil : Picks R [] []
  | skip {d : D} {ds ys : List D} : R d none → Picks R ds ys → Picks R (d :: ds) ys
  | take {d y : D} {ds ys : List D} : R d (some y) → Picks R ds ys → Picks R (d :: ds) (y :: ys)
/-- what one turn of a comprehension does -/
def LcTurn (I : List Cell → Prop) (R : D → Option D → Prop) (g : Gt) (t : Tx) (f : Ex) (env : List (Option D)) (d : D) : Prop :=
  ∀ (cs : List Cell) (acc : List D), I cs → ∃ env1, g d ⟨env, cs ++ [.lst acc]⟩ = some ⟨env1, cs ++ [.lst acc]⟩ ∧
    ∃ b cs2, t ⟨env1, cs ++ [.lst acc]⟩ = .ok b (cs2 ++ [.lst acc]) ∧ I cs2 ∧ (b = false → R d none) ∧
      (b = true → ∃ y cs3, f ⟨env1, cs2 ++ [.lst acc]⟩ = .ok y (cs3 ++ [.lst acc]) ∧ I cs3 ∧ R d (some y))
theorem lcL_of {I : List Cell → Prop} {R : D → Option D → Prop} {g : Gt} {t : Tx} {f : Ex} {env : List (Option D)} {n : Nat} (hI : ∀ cs, I cs → cs.length = n) : ∀ (ds : List D) (cs : List Cell) (acc : List D), I cs → acc.length + ds.length < 16777216 → (∀ d ∈ ds, LcTurn I R g t f env d) →
    ∃ ys cs', lcL g t f keepAll env n ds (cs ++ [.lst acc]) = some (cs' ++ [.lst (acc ++ ys)]) ∧ I cs' ∧ Picks R ds ys
  | [], cs, acc, hi, _, _ => ⟨[], cs, by simp [lcL, keepAll], hi, .nil⟩
  | d :: ds, cs, acc, hi, hl, ht => by
    obtain ⟨env1, e1, b, cs2, e2, i2, h0, h1⟩ := ht d List.mem_cons_self cs acc hi
    have hl' : acc.length + ds.length + 1 < 16777216 := by simpa [Nat.add_assoc] using hl
    have ht' : ∀ d ∈ ds, LcTurn I R g t f env d := fun d hd => ht d (List.mem_cons_of_mem _ hd)
    cases b with
    | false =>
      obtain ⟨ys, cs', e5, i5, p5⟩ := lcL_of hI ds cs2 acc i2 (by omega) ht'
      refine ⟨ys, cs', ?_, i5, .skip (h0 rfl) p5⟩
      unfold lcL
      simp only [keepAll, if_true, e1, e2]
      exact e5
    | true =>
      obtain ⟨y, cs3, e3, i3, r3⟩ := h1 rfl
      have hlen : (acc ++ [y]).length = acc.length + 1 := by simp
      obtain ⟨ys, cs', e5, i5, p5⟩ := lcL_of hI ds cs3 (acc ++ [y]) i3 (by rw [hlen]; omega) ht'
      refine ⟨y :: ys, cs', ?_, i5, .take r3 p5⟩
      unfold lcL
      have hn := hI cs3 i3
      have g1 : (cs3 ++ [Cell.lst acc])[n]? = some (.lst acc) := by
        rw [List.getElem?_append_right (by omega), hn, Nat.sub_self]; rfl
      have g2 : (cs3 ++ [Cell.lst acc]).set n (.lst (acc ++ [y])) = cs3 ++ [.lst (acc ++ [y])] := by
        rw [List.set_append_right n _ (by omega), hn, Nat.sub_self]; rfl
      simp only [keepAll, if_true, e1, e2, e3, g1, g2]
      rw [if_pos (by omega), e5]
      simp
/-- a comprehension, frozen -/
theorem eLc_eval {I : List Cell → Prop} {R : D → Option D → Prop} {src : Ix} {g : Gt} {t : Tx} {f : Ex} {vs : List Nat} {st : S} {ds : List D} {c1 : List Cell} (hs : src st = .ok (ds, keepAll) c1) (hi : I c1) (hI : ∀ cs, I cs → cs.length = c1.length) (hl : ds.length < 16777216)
    (hb : ∀ cs, I cs → cs.all (belowC c1.length) = true) (hR : ∀ d y, R d (some y) → below c1.length y = true) (ht : ∀ d ∈ ds, LcTurn I R g t f (wipeD st.env vs) d) :
    ∃ ys cs', eLc src g t f vs st = .ok (.lst ys) cs' ∧ I cs' ∧ Picks R ds ys := by
  obtain ⟨ys, cs', e, i', p⟩ := lcL_of (n := c1.length) hI ds c1 [] hi (by simpa using hl) ht
  refine ⟨ys, cs', ?_, i', p⟩
  unfold eLc
  rw [hs]
  have bl : belows c1.length ys = true := by
    refine belows_of ?_
    have : ∀ {ds ys : List D}, Picks R ds ys → ∀ y ∈ ys, below c1.length y = true := by
      intro ds ys p
      induction p with
      | nil => intro y hy; cases hy
      | skip _ _ ih => exact ih
      | take r _ ih =>
        intro y hy
        rcases List.mem_cons.mp hy with rfl | hy
        · exact hR _ _ r
        · exact ih y hy
    exact this p
  show (match lcL g t f keepAll (wipeD st.env vs) c1.length ds (c1 ++ [.lst []]) with
    | some c2 => _
    | none => _) = _
  rw [e]
  simp only [List.nil_append, lastCell_snoc]
  rw [if_pos ⟨hI cs' i', bl, hb cs' i'⟩]
end VL
namespace VL
open PySem L2 PySem.W PySem.Calls PyProof.Rows
end VL
namespace VL
open PySem L2 PySem.W PySem.Calls
end VL
namespace VL
open PySem L2 PySem.W PySem.Calls PyProof.Rows
end VL
namespace VL
open PySem L2
end VL
namespace VL
open PySem L2
end VL
namespace VL
open PySem L2
end VL
namespace VL
open PySem L2
end VL
namespace VL
open PySem L2
/-- a def of a class, by its name there -/
structure DefM (P : Program) (w : World) (K : Kt) (mg : Str → Option Value) (base : Heap) (cn : Nat) (name : Str) (k : Nat) (ps : List Str) (fn : Fn) : Prop where
  ex : ∃ (f : Addr) (fd : FuncData), PySem.W.findIn K.K (.ref (K.κ cn)) name = some (some (.ref f)) ∧ PySem.W.isFn K.K (.ref f) = true ∧ Binds K.K fd ps [] ∧ FnOk P w K.K mg base (L2.CX P w) k f fd ps (spF K ps.length fn)
end VL
namespace VL
open PySem L2 PyProof.Rows
section
variable {X : Cx} {G : Gx} {W : WX} {e a : Expr} {es : List Expr} {fa fb : Ex} {g : Ax} {pos p apos : Pos}
def aStar (fa : Ex) (g : Ax) : Ax := fun st => (fa st).bind fun x c1 => match seqOf c1 x with
  | some xs => (g ⟨st.env, c1⟩).bind fun ys c2 => .ok (xs ++ ys) c2
  | none => .no
def strsOf : List D → Option (List Str)
  | [] => some []
  | .str x :: r => (strsOf r).map (x :: ·)
  | _ => none
theorem strs_read {K : Kt} {ρ : List Addr} {F : Hp} : ∀ {ds : List D} {vs : List V} {ys : List Str}, RVs K ρ F ds vs → strsOf ds = some ys → vs = ys.map V.str
  | [], _, _, .nil, h => by cases h; rfl
  | d :: ds, _, ys, .cons hd hr, h => by
    cases d with
    | str x =>
      have h : (strsOf ds).map (x :: ·) = some ys := h
      cases q : strsOf ds with
      | none => rw [q] at h; cases h
      | some zs =>
        rw [q] at h
        cases h
        cases hd
        rw [strs_read hr q]
        rfl
    | _ => cases h
/-- a text's method with one argument -/
def eMS (g : Str → List Cell → D → Out D) (fa fb : Ex) : Ex := fun st => (fa st).bind fun x c1 => match x with
  | .str z => (fb ⟨st.env, c1⟩).bind fun y c2 => g z c2 y
  | _ => .no
theorem rvs_strs {K : Kt} {ρ : List Addr} {F : Hp} : ∀ {ys : List Str}, RVs K ρ F (ys.map D.str) (ys.map V.str)
  | [] => .nil
  | y :: ys => .cons (.str y) rvs_strs
def hStrI : FB := fun cs xs => match xs with
  | [.int i] => if i.natAbs.log2 < 1920 then .ok (.str (toString i)) cs else .no
  | _ => .no
def hStrS : FB := fun cs xs => match xs with
  | [.str z] => .ok (.str z) cs
  | _ => .no
theorem de_strS (hg : Gl X "str") (hm : X.mg "str" = none) (ha : PA X (e :: es) (tAs G W g)) (he : starEach (e :: es) X.env = (false, eval e X.env) :: starEach es X.env := by rfl) (hpl : (backTo pos (starEach es X.env)).any (·.1) = false := by rfl) : PE X (.Call (.Name "str" p) (e :: es) [] pos) (tE G W (eB hStrS g)) := by
  refine de_callTy SkE.call_str_str ?_ hg hm boot_str ha (he := he) (hpl := hpl)
  intro ρ F st σ H ds vs Q r rv p
  unfold hStrS at p
  split at p
  · rename_i z
    cases rv with
    | cons h1 h2 =>
      cases h2
      cases h1
      exact ⟨z, rfl, p.here r (.str _)⟩
  · exact p.elim
end
end VL
namespace VL
open PySem L2 PyProof.Rows
inductive Ty where
  | t (n : String)
  | c (C : Nat)
def Ty.val (K : Kt) : Ty → Value
  | .t n => .type n
  | .c C => .ref (K.κ C)
end VL
namespace VL
open PySem L2 PyProof.Rows
end VL
namespace VL
open PySem L2 PyProof.Rows
section
variable {X : Cx} {G : Gx} {W : WX} {o e : Expr} {es : List Expr} {g : Ax} {pos p apos : Pos} {x : Str} {cn k i n : Nat} {fn : Fn} {f : Addr} {fd : FuncData} {ps : List Str}
/-- C.m(..), m a classmethod -/
def eCMeth (n cn : Nat) (fn : Fn) (g : Ax) : Ex := fun st => (g st).bind fun ds c1 => callV n fn (.cls cn :: ds) c1
end
end VL
namespace VL
open PySem L2 PyProof.Rows
section
variable {P : Program} {w : World} {K : Kt} {mg : Str → Option Value} {base : Heap} {x qual name : Str} {st : Stmt} {f : Addr} {fd : FuncData} {ps N : List Str} {k cn : Nat} {fn fn' : Fn} {body : Sx}
theorem DefM.trim (d : DefM P w K mg base cn name k ps fn) : DefM P w K mg base cn name k ps (trimF fn) := by
  obtain ⟨f, fd, h1, h2, h3, h4⟩ := d.ex
  exact ⟨f, fd, h1, h2, h3, fnTrim h4⟩
structure DefCM (P : Program) (w : World) (K : Kt) (mg : Str → Option Value) (base : Heap) (x : Str) (cn : Nat) (name : Str) (k : Nat) (ps : List Str) (fn : Fn) : Prop where
  ex : ∃ (f pc : Addr) (fd : FuncData) (mc : Value), mg x = some (.ref (K.κ cn)) ∧ ClX.CRead K.K (K.κ cn) mc ∧ ClX.CMet K.K (K.κ cn) mc name pc f ∧ Binds K.K fd ps [] ∧ FnOk P w K.K mg base (L2.CX P w) k f fd ps (spF K ps.length fn)
theorem DefCM.trim (d : DefCM P w K mg base x cn name k ps fn) : DefCM P w K mg base x cn name k ps (trimF fn) := by
  obtain ⟨f, pc, fd, mc, h1, h2, h3, h4, h5⟩ := d.ex
  exact ⟨f, pc, fd, mc, h1, h2, h3, h4, fnTrim h5⟩
end
end VL
namespace VL
open PySem L2 PyProof.Rows
end VL
namespace VL
open PySem L2 PyProof.Rows PySem.W
end VL
namespace VL
open PySem L2 PyProof.Rows
end VL
namespace VL
open PySem L2 PyProof.Rows
end VL
namespace VL
open PySem L2 PyProof.Rows
end VL
namespace VL
open PySem L2 PyProof.Rows
end VL
namespace VL
open PySem L2 PyProof.Rows
theorem units65 {k : Nat} {A : Around} (r : Room k A) : A.units + 65 < cLine := by
  have := r.un
  omega
end VL
namespace VL
open PySem L2
section
variable {f fa fb fc : Ex} {g : F2} {st st1 : S} {x y d z : D} {c1 c2 c3 cs : List Cell} {o : Out D} {so r : SOut} {t t2 : Tx} {k : Bool} {sf sg : Sx} {ga : Ax} {xs : List D}
theorem ev_eOp (h1 : fa st = .ok x c1) (h2 : fb ⟨st.env, c1⟩ = .ok y c2) (h3 : g c2 x y = o) : eOp g fa fb st = o := by
  unfold eOp; rw [h1]; show (fb ⟨st.env, c1⟩).bind _ = _; rw [h2]; exact h3
theorem ev_eUn {g : F1} (h1 : fa st = .ok x c1) (h3 : g c1 x = o) : eUn g fa st = o := by
  unfold eUn; rw [h1]; exact h3
theorem ev_tCmp (h : eOp g fa fb st = .ok (.bl k) c1) : tCmp' g fa fb st = .ok k c1 := by
  unfold tCmp'; rw [h]; rfl
theorem ev_eAndT (h : fa st = .ok x c1) (h2 : truD c1 x = some true) (h3 : fb ⟨st.env, c1⟩ = o) : eAnd fa fb st = o := by
  unfold eAnd; rw [h]
  show (match truD c1 x with
    | some k => if k then fb ⟨st.env, c1⟩ else Out.ok x c1
    | none => .no) = _
  rw [h2]; exact h3
theorem ev_tAndT {o : Out Bool} (h : t st = .ok true c1) (h2 : t2 ⟨st.env, c1⟩ = o) : tAnd' t t2 st = o := by
  unfold tAnd'; rw [h]; exact h2
theorem ev_tAndF (h : t st = .ok false c1) : tAnd' t t2 st = .ok false c1 := by
  unfold tAnd'; rw [h]; rfl
theorem ev_tOrF {o : Out Bool} (h : t st = .ok false c1) (h2 : t2 ⟨st.env, c1⟩ = o) : tOr' t t2 st = o := by
  unfold tOr'; rw [h]; exact h2
theorem ev_eIfT (h : t st = .ok true c1) (h2 : fa ⟨st.env, c1⟩ = o) : eIf t fa fb st = o := by
  unfold eIf; rw [h]; exact h2
theorem ev_eIfF (h : t st = .ok false c1) (h2 : fb ⟨st.env, c1⟩ = o) : eIf t fa fb st = o := by
  unfold eIf; rw [h]; exact h2
theorem ev_sIfT (h : t st = .ok true c1) (h2 : sf ⟨st.env, c1⟩ = so) : sIf t sf sg st = so := by
  unfold sIf; rw [h]; exact h2
theorem ev_sIfF (h : t st = .ok false c1) (h2 : sg ⟨st.env, c1⟩ = so) : sIf t sf sg st = so := by
  unfold sIf; rw [h]; exact h2
theorem ev_aCons (h : fa st = .ok x c1) (h2 : ga ⟨st.env, c1⟩ = .ok xs c2) : aCons fa ga st = .ok (x :: xs) c2 := by
  unfold aCons; rw [h]; show (ga ⟨st.env, c1⟩).bind _ = _; rw [h2]; rfl
theorem ev_eTup (h : ga st = .ok xs c1) (h2 : decide (xs.length ≤ 16777216) = true) : eTup ga st = .ok (.tup xs) c1 := by
  unfold eTup; rw [h]; exact if_pos (of_decide_eq_true h2)
theorem ev_eB {h : FB} (h1 : ga st = .ok xs c1) (h2 : h c1 xs = o) : eB h ga st = o := by
  unfold eB; rw [h1]; exact h2
theorem ev_eCall {n : Nat} {fn : Fn} (h1 : ga st = .ok xs c1) (h2 : callV n fn xs c1 = o) : eCall n fn ga st = o := by
  unfold eCall; rw [h1]; exact h2
theorem ev_eCallAll {fn : Fn} (h1 : ga st = .ok xs c1) (h2 : fn xs c1 = o) : eCallAll fn ga st = o := by
  unfold eCallAll; rw [h1]; exact h2
theorem ev_sSeq (h : sf st = .nx st1) (h2 : sg st1 = so) : sSeq sf sg st = so := by
  unfold sSeq; rw [h]; exact h2
theorem ev_sSeqR (h : sf st = .rt d st1) : sSeq sf sg st = .rt d st1 := by
  unfold sSeq; rw [h]
theorem ev_sAsg {gt : Gt} (h : fa st = .ok d c1) (h2 : asg gt d ⟨st.env, c1⟩ = so) : sAsg fa gt st = so := by
  unfold sAsg; rw [h]; exact h2
theorem ev_sPar {is : List Nat} (h : ga st = .ok xs c1) (h2 : sPar is (fun _ => .ok xs c1) st = so) : sPar is ga st = so := by
  rw [← h2]
  unfold sPar; rw [h]
theorem ev_sRet (h : fa st = .ok d c1) : sRet fa st = .rt d ⟨st.env, c1⟩ := by
  unfold sRet; rw [h]; rfl
theorem ev_sExpr (h : fa st = .ok d c1) : sExpr fa st = .nx ⟨st.env, c1⟩ := by
  unfold sExpr; rw [h]; rfl
theorem ev_iT {w : List D × (List Cell → Bool)} (h : fa st = .ok d c1) (h2 : iT (fun _ => .ok d c1) st = .ok w c2) : iT fa st = .ok w c2 := by
  rw [← h2]; unfold iT; rw [h]
theorem ev_iL {w : List D × (List Cell → Bool)} (h : fa st = .ok d c1) (h2 : iL (fun _ => .ok d c1) st = .ok w c2) : iL fa st = .ok w c2 := by
  rw [← h2]; unfold iL; rw [h]
theorem ev_sFor {src : Ix} {gt : Gt} {w : List D × (List Cell → Bool)} (h : src st = .ok w c1) (h2 : forL gt sf w.2 w.1 ⟨st.env, c1⟩ = so) : sFor src gt sf st = so := by
  unfold sFor; rw [h]; exact h2
theorem ev_forNil {gt : Gt} {kp : List Cell → Bool} (h : kp st.cs = true) : forL gt sf kp [] st = .nx st := by
  unfold forL; rw [if_pos h]
theorem ev_forNx {gt : Gt} {kp : List Cell → Bool} {st2 : S} (h : kp st.cs = true) (h1 : gt d st = some st1) (h2 : sf st1 = .nx st2) (h3 : forL gt sf kp xs st2 = so) : forL gt sf kp (d :: xs) st = so := by
  rw [forL, if_pos h, h1]; show (match sf st1 with | .nx st2 => _ | .ct st2 => _ | .bk st2 => _ | o => o) = _; rw [h2]; exact h3
theorem ev_forRt {gt : Gt} {kp : List Cell → Bool} {st2 : S} {v : D} (h : kp st.cs = true) (h1 : gt d st = some st1) (h2 : sf st1 = .rt v st2) : forL gt sf kp (d :: xs) st = .rt v st2 := by
  rw [forL, if_pos h, h1]; show (match sf st1 with | .nx st2 => _ | .ct st2 => _ | .bk st2 => _ | o => o) = _; rw [h2]
theorem ev_runRt {n : Nat} {ds : List D} {env : List (Option D)} (h0 : startD n ds = env) (h : sf ⟨env, cs⟩ = .rt d st1) : runF n sf ds cs = .ok d st1.cs := by
  unfold runF; rw [h0, h]
theorem ev_eSl {own : Bool} {l h : Ox} {lo hi : Option Int} (h1 : fa st = .ok x c1) (h2 : l ⟨st.env, c1⟩ = .ok lo c2) (h3 : h ⟨st.env, c2⟩ = .ok hi c3) (h4 : gSl own c3 x lo hi = o) : eSl own fa l h st = o := by
  unfold eSl; rw [h1]; show (l ⟨st.env, c1⟩).bind _ = _; rw [h2]; show (h ⟨st.env, c2⟩).bind _ = _; rw [h3]; exact h4
theorem ev_oSome (h1 : fa st = .ok d c1) {o : Out (Option Int)} (h2 : oSome (fun _ => .ok d c1) st = o) : oSome fa st = o := by
  rw [← h2]; unfold oSome; rw [h1]
theorem outD_low {n : Nat} {cs : List Cell} {d : D} (h : below n d = true) (hl : ∀ m, d ≠ .loc m) : outD n cs d = some d := by
  cases d with
  | loc m => exact absurd rfl (hl m)
  | _ =>
    unfold outD
    exact if_pos h
theorem trimF_of {fn : Fn} {ds : List D} {cs cs' : List Cell} {d d' : D} (h : fn ds cs = .ok d cs') (h1 : (cs'.take cs.length).all (belowC cs.length) = true) (h2 : outD cs.length cs' d = some d') : trimF fn ds cs = .ok d' (cs'.take cs.length) := by
  unfold trimF
  rw [h]
  show (if _ then (match outD cs.length cs' d with
    | some d' => Out.ok d' (cs'.take cs.length)
    | none => .no) else .no) = _
  rw [if_pos h1, h2]
theorem atI_nat {α : Type} {xs : List α} {k : Nat} {x : α} (h : xs[k]? = some x) : atI xs (k : Int) = some x := by
  have hk : k < xs.length := by
    rw [List.getElem?_eq_some_iff] at h
    exact h.1
  have e : ixN xs.length (k : Int) = some k := by
    unfold ixN
    simp [hk]
  simp [atI, e, h]
theorem ix_lst {ds : List D} {k : Nat} {cs : List Cell} (h : atI ds (k : Int) = some d) : gIx cs (.lst ds) (.int k) = .ok d cs := by
  simp [gIx, seqOf, lstOf, h]
theorem callV0_of {fn : Fn} {ds : List D} {d : D} {cs : List Cell} (hd : ds.map (lendD 0 cs) = ds) (hb : belows 0 ds = true) (h : fn ds [] = .ok d []) : callV 0 fn ds cs = .ok d cs := by
  unfold callV
  rw [hd, if_pos ⟨Nat.zero_le _, hb, by simp⟩, List.take_zero, h]
  show (if _ then Out.ok d ([] ++ cs.drop 0) else Out.no) = _
  rw [if_pos ⟨rfl, .inl hb⟩]
  simp
end
end VL
namespace VL
open PySem PySem.Spec PyProof.Rows L2
end VL
namespace VL
open PySem PySem.Spec PyProof.Rows L2
/-- x stands ahead of y -/
abbrev ltS (x y : Str) : Bool := ltCps x.cps.toList y.cps.toList
section
variable {α β : Type}
def insK (p : Str × α) : List (Str × α) → List (Str × α)
  | [] => [p]
  | q :: r => if ltS p.1 q.1 then p :: q :: r else q :: insK p r
def isortK : List (Str × α) → List (Str × α)
  | [] => []
  | p :: r => insK p (isortK r)
theorem insK_perm (p : Str × α) : ∀ l : List (Str × α), (insK p l).Perm (p :: l)
  | [] => List.Perm.refl _
  | q :: r => by
    unfold insK
    split
    · exact List.Perm.refl _
    · exact ((insK_perm p r).cons q).trans (List.Perm.swap _ _ _)
theorem isortK_perm : ∀ l : List (Str × α), (isortK l).Perm l
  | [] => List.Perm.refl _
  | p :: r => (insK_perm p _).trans ((isortK_perm r).cons p)
theorem ltS_trans {x y z : Str} (h1 : ltS x y = true) (h2 : ltS y z = true) : ltS x z = true := by
  simp only [ltS, ltCps_eq, decide_eq_true_eq] at *
  exact List.lt_trans h1 h2
theorem ltS_asym {x y : Str} (h1 : ltS x y = true) : ltS y x = false := by
  simp only [ltS, ltCps_eq, decide_eq_true_eq, decide_eq_false_iff_not] at *
  exact List.not_lt.mpr (List.le_of_lt h1)
theorem ltS_tot {x y : Str} (h1 : ltS x y = false) (h2 : ltS y x = false) : x = y := by
  simp only [ltS, ltCps_eq, decide_eq_false_iff_not] at *
  have e := List.le_antisymm (List.not_lt.mp h2) (List.not_lt.mp h1)
  obtain ⟨⟨a⟩⟩ := x
  obtain ⟨⟨b⟩⟩ := y
  exact congrArg (fun l : List Nat => (⟨⟨l⟩⟩ : Str)) e
theorem insK_sorted {p : Str × α} : ∀ {l : List (Str × α)}, l.Pairwise (fun a b => ltS b.1 a.1 = false) → (insK p l).Pairwise (fun a b => ltS b.1 a.1 = false)
  | [], _ => List.pairwise_singleton _ _
  | q :: r, h => by
    unfold insK
    have hq := List.pairwise_cons.mp h
    split
    · rename_i c
      refine List.pairwise_cons.mpr ⟨fun z hz => ?_, h⟩
      rcases List.mem_cons.mp hz with rfl | hz
      · exact ltS_asym c
      · cases e : ltS z.1 p.1 with
        | false => rfl
        | true =>
          have := hq.1 z hz
          rw [ltS_trans e c] at this
          cases this
    · rename_i c
      refine List.pairwise_cons.mpr ⟨fun z hz => ?_, insK_sorted hq.2⟩
      rcases List.mem_cons.mp ((insK_perm p r).mem_iff.mp hz) with rfl | hz
      · exact Bool.eq_false_iff.mpr c
      · exact hq.1 z hz
theorem isortK_sorted : ∀ l : List (Str × α), (isortK l).Pairwise (fun a b => ltS b.1 a.1 = false)
  | [] => List.Pairwise.nil
  | p :: r => insK_sorted (isortK_sorted r)
end
end VL
namespace VL
open PySem PySem.Spec PyProof.Rows L2
end VL
namespace VL
open PySem PySem.Spec PyProof.Rows L2
end VL
namespace VL
open PySem PySem.Spec PyProof.Rows L2
end VL
namespace VL
open PySem PySem.Spec PyProof.Rows L2
section
variable {X : Cx} {G : Gx} {W : WX} {e a : Expr} {es : List Expr} {fa fb : Ex} {g : Ax} {pos p p2 q : Pos}
def sortT (xs : List Str) : List Str := (isortK (xs.map fun x => (x, ()))).map (·.1)
theorem sortT_perm (xs : List Str) : (sortT xs).Perm xs := by
  have h := (isortK_perm (xs.map fun x => (x, ()))).map (·.1)
  rw [List.map_map] at h
  have e : xs.map ((fun x : Str × Unit => x.1) ∘ fun x => (x, ())) = xs := by
    have : ((fun x : Str × Unit => x.1) ∘ fun x : Str => (x, ())) = id := rfl
    rw [this, List.map_id]
  rw [e] at h
  exact h
theorem sortT_sorted (xs : List Str) : (sortT xs).Pairwise (fun a b => ltS b a = false) := List.pairwise_map.mpr (isortK_sorted _)
theorem leS_trans {x y z : Str} (h1 : ltS y x = false) (h2 : ltS z y = false) : ltS z x = false := by
  simp only [ltS, ltCps_eq, decide_eq_false_iff_not] at *
  exact List.not_lt.mpr (List.le_trans (List.not_lt.mp h1) (List.not_lt.mp h2))
theorem rising_pw : ∀ {l : List Str} {p : Str}, risingS p l = true → (p :: l).Pairwise (fun a b => ltS b a = false)
  | [], p, _ => List.pairwise_singleton _ _
  | x :: r, p, h => by
    have h : (!ltS x p && risingS x r) = true := h
    rw [Bool.and_eq_true] at h
    have ih := rising_pw h.2
    have h1 : ltS x p = false := by simpa using h.1
    refine List.pairwise_cons.mpr ⟨fun z hz => ?_, ih⟩
    rcases List.mem_cons.mp hz with rfl | hz
    · exact h1
    · exact leS_trans h1 ((List.pairwise_cons.mp ih).1 z hz)
theorem sorted_pw : ∀ {l : List Str}, sortedS l = true → l.Pairwise (fun a b => ltS b a = false)
  | [], _ => List.Pairwise.nil
  | x :: r, h => rising_pw h
theorem sortS_uniq : ∀ {l m : List Str}, l.Perm m → l.Pairwise (fun a b => ltS b a = false) → m.Pairwise (fun a b => ltS b a = false) → l = m
  | [], m, h, _, _ => by rw [h.nil_eq]
  | p :: l, [], h, _, _ => absurd h.length_eq (by simp)
  | p :: l, q :: m, h, hl, hm => by
    have hl' := List.pairwise_cons.mp hl
    have hm' := List.pairwise_cons.mp hm
    have e : p = q := by
      rcases List.mem_cons.mp (h.mem_iff.mp List.mem_cons_self) with e | hp
      · exact e
      · rcases List.mem_cons.mp (h.mem_iff.mpr List.mem_cons_self) with e | hq
        · exact e.symm
        · exact ltS_tot (hm'.1 p hp) (hl'.1 q hq)
    subst e
    rw [sortS_uniq (List.perm_cons _ |>.mp h) hl'.2 hm'.2]
def hSortS : FB := fun cs xs => match xs with
  | [d] => (match lstOf cs d with
    | some ds => (match strsOf ds with
      | some ys => if decide (ys.length < 64) then .ok (.lst ((sortT ys).map .str)) cs else .no
      | none => .no)
    | none => .no)
  | _ => .no
theorem de_sortS (hK : X.K = G.K.K) (hg : Gl X "sorted") (hm : X.mg "sorted" = none) (ha : PA X (e :: es) (tAs G W g)) (he : starEach (e :: es) X.env = (false, eval e X.env) :: starEach es X.env := by rfl) (hpl : (backTo pos (starEach es X.env)).any (·.1) = false := by rfl) : PE X (.Call (.Name "sorted" p) (e :: es) [] pos) (tE G W (eB hSortS g)) := by
  refine de_callB cr_sortedS ?_ hg hm (by decide +kernel) ha (he := he) (hpl := hpl)
  intro ρ F st σ H ds vs Q r rv po
  unfold hSortS at po
  split at po
  · rename_i d
    cases rv with
    | cons h1 h2 =>
      cases h2
      cases q : lstOf st.cs d with
      | none => rw [q] at po; exact po.elim
      | some ds =>
        rw [q] at po
        obtain ⟨b, ws, rfl, hsq, rvs⟩ := lst_read r h1 q
        cases q2 : strsOf ds with
        | none => simp only [q2] at po; exact po.elim
        | some ys =>
          simp only [q2] at po
          have ev := strs_read rvs q2
          subst ev
          by_cases c : decide (ys.length < 64) = true
          · rw [if_pos c] at po
            refine ⟨b, ys, rfl, by rw [hK]; exact hsq, of_decide_eq_true c, fun zs p h3 h4 h5 => ?_⟩
            have ez : zs = sortT ys := sortS_uniq (h3.trans (sortT_perm ys).symm) (sorted_pw h4) (sortT_sorted ys)
            subst ez
            obtain ⟨x3, r3⟩ := r.fresh (o := .lst ((sortT ys).map V.str)) h5
            exact po _ _ _ _ x3 r3 (.lst upd_same rvs_strs)
          · rw [if_neg c] at po
            exact po.elim
  · exact po.elim
end
end VL
namespace VL
open PySem PySem.Spec PyProof.Rows L2
def eqStr (x y : Str) : Bool := x.cps.toList == y.cps.toList
def eqStrs (xs ys : List Str) : Bool := xs.map (·.cps.toList) == ys.map (·.cps.toList)
mutual
def eqD : D → D → Bool
  | .non, .non => true
  | .bl a, .bl b => a == b
  | .int a, .int b => a == b
  | .str a, .str b => eqStr a b
  | .tup a, .tup b => eqDs a b
  | .lst a, .lst b => eqDs a b
  | .frl a, .frl b => eqDs a b
  | .obj c k a, .obj d l b => (c == d && eqStrs k l) && eqDs a b
  | .cls a, .cls b => a == b
  | .loc a, .loc b => a == b
  | _, _ => false
def eqDs : List D → List D → Bool
  | [], [] => true
  | x :: xs, y :: ys => eqD x y && eqDs xs ys
  | _, _ => false
end
theorem cps_inj {x y : Str} (h : x.cps.toList = y.cps.toList) : x = y := by
  obtain ⟨⟨a⟩⟩ := x
  obtain ⟨⟨b⟩⟩ := y
  exact congrArg (fun l : List Nat => (⟨⟨l⟩⟩ : Str)) h
theorem eqStr_of {x y : Str} (h : eqStr x y = true) : x = y := cps_inj (beq_iff_eq.mp h)
theorem maps_inj : ∀ {xs ys : List Str}, xs.map (·.cps.toList) = ys.map (·.cps.toList) → xs = ys
  | [], [], _ => rfl
  | [], _ :: _, h => by cases h
  | _ :: _, [], h => by cases h
  | x :: xs, y :: ys, h => by
    rw [List.map_cons, List.map_cons] at h
    injection h with h1 h2
    rw [cps_inj h1, maps_inj h2]
theorem eqStrs_of {xs ys : List Str} (h : eqStrs xs ys = true) : xs = ys := maps_inj (beq_iff_eq.mp h)
mutual
theorem eqD_of : ∀ {x y : D}, eqD x y = true → x = y
  | .non, y, h => by cases y <;> first | rfl | cases h
  | .bl a, y, h => by
    cases y with
    | bl b => rw [beq_iff_eq.mp (show (a == b) = true from h)]
    | _ => cases h
  | .int a, y, h => by
    cases y with
    | int b => rw [beq_iff_eq.mp (show (a == b) = true from h)]
    | _ => cases h
  | .str a, y, h => by
    cases y with
    | str b => rw [eqStr_of (show eqStr a b = true from h)]
    | _ => cases h
  | .tup a, y, h => by
    cases y with
    | tup b => rw [eqDs_of (show eqDs a b = true from h)]
    | _ => cases h
  | .lst a, y, h => by
    cases y with
    | lst b => rw [eqDs_of (show eqDs a b = true from h)]
    | _ => cases h
  | .frl a, y, h => by
    cases y with
    | frl b => rw [eqDs_of (show eqDs a b = true from h)]
    | _ => cases h
  | .obj c k a, y, h => by
    cases y with
    | obj d l b =>
      have h : ((c == d && eqStrs k l) && eqDs a b) = true := h
      simp only [Bool.and_eq_true, beq_iff_eq] at h
      rw [h.1.1, eqStrs_of h.1.2, eqDs_of h.2]
    | _ => cases h
  | .dct _ _, y, h => by cases y <;> cases h
  | .btp _, y, h => by cases y <;> cases h
  | .dcn _ _, y, h => by cases y <;> cases h
  | .exn _ _ _, y, h => by cases y <;> cases h
  | .cls a, y, h => by
    cases y with
    | cls b => rw [beq_iff_eq.mp (show (a == b) = true from h)]
    | _ => cases h
  | .loc a, y, h => by
    cases y with
    | loc b => rw [beq_iff_eq.mp (show (a == b) = true from h)]
    | _ => cases h
theorem eqDs_of : ∀ {xs ys : List D}, eqDs xs ys = true → xs = ys
  | [], ys, h => by cases ys <;> first | rfl | cases h
  | x :: xs, ys, h => by
    cases ys with
    | nil => cases h
    | cons y ys =>
      have h : (eqD x y && eqDs xs ys) = true := h
      rw [Bool.and_eq_true] at h
      rw [eqD_of h.1, eqDs_of h.2]
end
/-- the cell n holds these very items -/
def keepD (n : Nat) (ds : List D) : List Cell → Bool := fun cs => match cs[n]? with
  | some (.lst es) => eqDs es ds
  | _ => false
theorem keepD_of {n : Nat} {ds : List D} {cs : List Cell} (h : keepD n ds cs = true) : cs[n]? = some (.lst ds) := by
  unfold keepD at h
  split at h
  · rename_i es q
    rw [q, eqDs_of h]
  · cases h
section
variable {X : Cx} {G : Gx} {W : WX} {ρ : List Addr} {F : Hp} {st : S} {σ : L2.St} {H : Hp} {tg e : Expr} {fa : Ex}
theorem wk_loc {n : Nat} {a : Addr} {ds : List D} (h : ρ[n]? = some a) : Wk G ρ F (Itl G.K.K a) ds (keepD n ds) := fun ρ1 F1 st1 σ1 H1 i x r hk => by
  obtain ⟨vs, h2, rv⟩ := r.cell n _ _ (keepD_of hk) (x.at h)
  have hs1 : SqL G.K.K H1 a vs := SqL.of h2
  refine ⟨fun d e => ?_, fun e => ⟨vs, hs1, ?_⟩⟩
  · obtain ⟨v, e1, e2⟩ := rv.get e
    exact ⟨⟨vs, v, hs1, e1⟩, fun y H' ⟨e3, e4⟩ => by
      subst e3
      have := e4 vs hs1
      rw [e1] at this
      cases this
      exact ⟨ρ1, F1, Ext.refl, rfl, fun _ _ h => h, r, e2⟩⟩
  · rw [← rv.length, e]
    exact Nat.le_refl _
def iLo (f : Ex) : Ix := fun st => (f st).bind fun x c1 => match x with
  | .loc n => (match c1[n]? with
    | some (.lst ds) => .ok (ds, keepD n ds) c1
    | _ => .no)
  | _ => .no
theorem di_loc (hK : X.K = G.K.K) (h : PE X e (tE G W fa)) : PI X tg e (tI G W (iLo fa)) := (pi_list h).impV fun σ H R ⟨ρ, F, st, r, p⟩ => by
  refine tI_of (R := RV) r p (fun ρ1 F1 H1 x c1 v x1 r1 rv1 q hn => ?_) (fun x c1 => ?_)
  · rw [hK]
    cases rv1 with
    | @loc n a0 h1 =>
      cases qc : c1[n]? with
      | none => simp only [qc] at hn; exact absurd rfl hn
      | some c0 =>
        cases c0 with
        | lst ds =>
          obtain ⟨vs, h2, rv⟩ := r1.cell n _ _ qc h1
          exact ⟨_, rfl, ⟨_, SqL.of h2⟩, q (ds, keepD n ds) (by simp only [qc]) _ (wk_loc h1)⟩
        | dk _ _ => simp only [qc] at hn; exact absurd rfl hn
        | dn _ _ => simp only [qc] at hn; exact absurd rfl hn
        | tbl _ _ => simp only [qc] at hn; exact absurd rfl hn
        | ins _ _ _ => simp only [qc] at hn; exact absurd rfl hn
    | _ => exact absurd rfl hn
  · cases x with
    | loc n =>
      cases qc : c1[n]? with
      | none => exact .inr (by simp only [qc])
      | some c0 =>
        cases c0 with
        | lst ds => exact .inl ⟨(ds, keepD n ds), by simp only [qc]⟩
        | dk _ _ => exact .inr (by simp only [qc])
        | dn _ _ => exact .inr (by simp only [qc])
        | tbl _ _ => exact .inr (by simp only [qc])
        | ins _ _ _ => exact .inr (by simp only [qc])
    | _ => exact .inr rfl
end
end VL
namespace VL
open PySem PySem.Spec PyProof.Rows L2
section
variable {prog : Program} {w : World} {A : Around} {E : Value → Shared → Prop} {s : Shared}
theorem collectT {l : Addr} {vs : List Value} {Q : List Value → Shared → Prop} (hl : s.heap.IsTuple l vs.toArray) (h : Q vs { s with heap := (s.heap.push (seqObj "list" #[] 0)).update s.heap.objs.size (Obj.mapSeq (· ++ vs.toArray)) }) (hsz : vs.length ≤ sizeLine) :
    wpAny (model prog w) A (collect (.ref l)) Q E s := by
  obtain ⟨o, ho, hc, n, hd⟩ := hl
  have ho' : (s.heap.push (seqObj "list" #[] 0)).get? l = some o := Heap.get?_push_of_some _ ho
  have hn : (s.heap.push (seqObj "list" #[] 0)).get? s.heap.objs.size = some (seqObj "list" #[] 0) := Heap.get?_push_size _ rfl
  unfold collect
  refine wpAny_bind (wpAny_runValue (codeAny_builtin entry_proto_collect' ?_))
  refine wpAny_bind (m := newList []) (wpAny_newList (wpAny_pure ⟨Code.quiet_builtin _ (by decide +kernel), codeAny_builtin entry_list_iadd' ?_⟩))
  show wpAny _ _ (Builtin.List.listExtendWith (.ref s.heap.objs.size) (.ref l) (.ref s.heap.objs.size)) _ _ { s with heap := s.heap.push (seqObj "list" #[] 0) }
  unfold Builtin.List.listExtendWith
  refine wpAny_bind (wpAny_typeOf (T := "tuple") ⟨o, ho', hc⟩ ?_)
  rw [if_pos (by rw [show (Value.type "tuple" == Value.type "tuple") = true from rfl, Bool.or_true])]
  refine wpAny_bind (listItems_at ho' hd (wpAny_bind (listItems_at hn rfl ?_)))
  rw [if_neg (by simp)]
  refine wpAny_bind (listUpdate_at hn rfl (wpAny_pure ?_) (Nat.zero_le _) (by show (#[] ++ vs.toArray).size ≤ sizeLine + 1; simp only [Array.size_append, List.size_toArray, List.length_nil]; omega))
  refine wpAny_bind (m := load s.heap.objs.size) (wpAny_load (get?_update_seq hn _) ?_)
  show wpAny _ _ (pure ((#[] : Array Value) ++ vs.toArray).toList) Q E _
  have e : ((#[] : Array Value) ++ vs.toArray).toList = vs := by simp
  rw [e]
  exact wpAny_pure h
end
end VL
namespace VL
open PySem PySem.Spec PyProof.Rows L2
end VL
namespace VL
open PySem L2
theorem ev_eLc {α : Type} {src : Ix} {g : Gt} {t : Tx} {f : Ex} {vs : List Nat} {st : S} {xs : List α} {fD : α → D} {kp : List Cell → Bool} {c1 : List Cell} (q : α → Bool) (h : α → D) (hs : src st = .ok (xs.map fD, kp) c1) (hk : ∀ acc, kp (c1 ++ [.lst acc]) = true) (hl : xs.length < 16777216) (hb : c1.all (belowC c1.length) = true)
    (hh : ∀ x ∈ xs, q x = true → below c1.length (h x) = true)
    (ht : ∀ x ∈ xs, ∀ acc, belows c1.length acc = true → ∃ env1, g (fD x) ⟨wipeD st.env vs, c1 ++ [.lst acc]⟩ = some ⟨env1, c1 ++ [.lst acc]⟩ ∧ t ⟨env1, c1 ++ [.lst acc]⟩ = .ok (q x) (c1 ++ [.lst acc]) ∧ (q x = true → f ⟨env1, c1 ++ [.lst acc]⟩ = .ok (h x) (c1 ++ [.lst acc]))) :
    eLc src g t f vs st = .ok (.lst ((xs.filter q).map h)) c1 := by
  have main : ∀ (es : List α) (acc : List D), belows c1.length acc = true → (∀ d ∈ es, d ∈ xs) → acc.length + es.length < 16777216 → lcL g t f kp (wipeD st.env vs) c1.length (es.map fD) (c1 ++ [.lst acc]) = some (c1 ++ [.lst (acc ++ (es.filter q).map h)]) := by
    intro es
    induction es with
    | nil => intro acc _ _ _; simp [lcL, hk]
    | cons d es ih =>
      intro acc hla hm hz
      have hz' : acc.length + es.length + 1 < 16777216 := by simpa [Nat.add_assoc] using hz
      obtain ⟨env1, e1, e2, e3⟩ := ht d (hm d List.mem_cons_self) acc hla
      rw [List.map_cons]
      unfold lcL
      cases c : q d with
      | false =>
        rw [c] at e2
        simp only [hk, if_true, e1, e2]
        rw [ih acc hla (fun x hx => hm x (List.mem_cons_of_mem _ hx)) (by omega), List.filter_cons_of_neg (by simp [c])]
      | true =>
        rw [c] at e2
        have g1 : (c1 ++ [Cell.lst acc])[c1.length]? = some (.lst acc) := by
          rw [List.getElem?_append_right (Nat.le_refl _), Nat.sub_self]; rfl
        have g2 : (c1 ++ [Cell.lst acc]).set c1.length (.lst (acc ++ [h d])) = c1 ++ [.lst (acc ++ [h d])] := by
          rw [List.set_append_right _ _ (Nat.le_refl _), Nat.sub_self]; rfl
        simp only [hk, if_true, e1, e2, e3 c, g1, g2]
        have hla2 : belows c1.length (acc ++ [h d]) = true := by
          rw [belows_append, hla, belows_cons, belows_nil, hh d (hm d List.mem_cons_self) c]
          rfl
        rw [if_pos (by omega), ih (acc ++ [h d]) hla2 (fun x hx => hm x (List.mem_cons_of_mem _ hx)) (by simp; omega), List.filter_cons_of_pos (by simp [c])]
        simp
  unfold eLc
  rw [hs]
  show (match lcL g t f kp (wipeD st.env vs) c1.length (xs.map fD) (c1 ++ [.lst []]) with
    | some c2 => _
    | none => _) = _
  rw [main xs [] rfl (fun _ h => h) (by simpa using hl)]
  simp only [List.nil_append, lastCell_snoc]
  refine if_pos ⟨by first | trivial | rfl, belows_of fun x hx => ?_, hb⟩
  obtain ⟨d, hd, rfl⟩ := List.mem_map.mp hx
  obtain ⟨h1, h2⟩ := List.mem_filter.mp hd
  exact hh d h1 h2
theorem belows_int {n : Nat} : ∀ {l : List Int}, belows n (l.map D.int) = true
  | [] => rfl
  | x :: l => by
    rw [List.map_cons, belows_cons, belows_int]
    rfl
theorem noLsts_int : ∀ {l : List Int}, noLsts (l.map D.int) = true
  | [] => rfl
  | x :: l => by
    show (noLst (.int x) && noLsts (l.map D.int)) = true
    rw [noLsts_int]
    rfl
theorem plains_ints : ∀ {l : List Int}, plains (l.map D.int) = true
  | [] => by simp [plains]
  | x :: l => by
    rw [List.map_cons]
    simp only [plains, plain, plains_ints, Bool.and_self]
theorem lay_ints : ∀ {l : List Int}, PyData.canLayAll0 (pys (l.map D.int)) = true ∧ PyData.depthAll (pys (l.map D.int)) = 0
  | [] => by simp [pys, PyData.canLayAll0, PyData.depthAll]
  | x :: l => by
    have ih := lay_ints (l := l)
    rw [List.map_cons]
    simp [pys, py, PyData.canLayAll0, PyData.canLay0, PyData.depthAll, PyData.depth, ih.1, ih.2]
/-- a list of whole numbers beside [] -/
theorem eqNilI {neg : Bool} {cs : List Cell} {d : D} {l : List Int} (hd : norm cs d = .lst (l.map D.int)) : gEqB neg cs d (.lst []) = .ok (.bl (if neg then !l.isEmpty else l.isEmpty)) cs := by
  have h1 := lay_ints (l := l)
  have h2 : SeqAt.shaped (py (.lst (l.map D.int))) = true := by
    simp [SeqAt.shaped, py, PyData.canLay0, PyData.depth, h1.1, h1.2]
  have h3 : VL.plain (.lst (l.map D.int)) = true := by simp [VL.plain, plains_ints]
  have h4 : norm cs (.lst []) = .lst [] := rfl
  have h5 : VL.plain (.lst []) = true := by simp [VL.plain, plains]
  have h6 : SeqAt.shaped (py (.lst [])) = true := by simp [SeqAt.shaped, py, pys, PyData.canLay0, PyData.canLayAll0, PyData.depth, PyData.depthAll]
  have h7 : PyData.eqv (py (.lst (l.map D.int))) (py (.lst [])) = l.isEmpty := by
    cases l <;> simp [py, pys, PyData.eqv, PyData.eqvAll]
  unfold gEqB
  simp only [hd, h2, h3, h4, h5, h6, h7, Bool.and_self, if_true]
theorem eqII {neg : Bool} {cs : List Cell} {i j : Int} : gEqB neg cs (.int i) (.int j) = .ok (.bl (if neg then !(i == j) else i == j)) cs := by
  simp [gEqB, norm, VL.plain, py, SeqAt.shaped, PyData.canLay0, PyData.depth, PyData.eqv]
theorem cut_ints {l : List Int} {lo hi : Option Int} : ∃ m : List Int, cutD (l.map D.int) lo hi = m.map D.int ∧ m.length ≤ l.length := by
  refine ⟨(l.drop (HT.sIx l.length 0 lo)).take (HT.sIx l.length l.length hi - HT.sIx l.length 0 lo), ?_, ?_⟩
  · unfold cutD
    rw [List.length_map, ← List.map_drop, ← List.map_take]
  · rw [List.length_take, List.length_drop]
    omega
theorem eqDs_refl_of {ds : List D} (h : eqDs ds ds = true) {n : Nat} {cs : List Cell} (hc : cs[n]? = some (.lst ds)) : keepD n ds cs = true := by
  unfold keepD
  rw [hc]
  exact h
end VL
namespace VL
open PySem PySem.Spec PyProof.Rows L2
section
variable {X : Cx} {G : Gx} {W : WX} {o e : Expr} {es : List Expr} {fo : Ex} {g : Ax} {pos apos : Pos} {m : Str} {cn k : Nat} {fn : Fn} {ps : List Str}
/-- o.m(..): o an object of the class cn -/
def eMeth (cn : Nat) (m : Str) (fn : Fn) (fo : Ex) (g : Ax) : Ex := fun st => (fo st).bind fun x c1 => match x with
  | .obj C ks ds => if C = cn ∧ ks.contains m = false then (g ⟨st.env, c1⟩).bind fun xs c2 => callV 0 fn (.obj C ks ds :: xs) c2 else .no
  | _ => .no
end
end VL
namespace VL
open PySem PySem.Spec PyProof.Rows L2 PySem.Froz
/-- the set at a holds the texts l; its table can be walked -/
def SetX (P : Program) (w : World) (h : Heap) (a : Addr) (l : List Str) : Prop :=
  ∃ D : SD, h.get? a = some (sObj "set" D) ∧ TxOk P w D l ∧ l.Nodup ∧ Ris D.2.2.place.toList ∧ (w.params.followText "set-order" = true ∨ D.2.2.led = true)
section
variable {P : Program} {w : World} {A : Around} {E : Value → Shared → Prop} {s : Shared} {a : Addr} {l : List Str}
theorem SetX.at {h h' : Heap} (R : SetX P w h a l) (k : ∀ o, h.get? a = some o → h'.get? a = some o) : SetX P w h' a l := by
  obtain ⟨D, q, r⟩ := R
  exact ⟨D, k _ q, r⟩
abbrev newSX (w : World) : Obj := { cls := .type "set", dict := none, data := .set #[] 0 (.fresh 0 0 (!w.params.followText "set-order")) }
theorem SetX.new {h : Heap} {a : Addr} (e : h.get? a = some (newSX w)) : SetX P w h a [] := by
  refine ⟨(#[], 0, .fresh 0 0 (!w.params.followText "set-order")), e, TxOk.nil rfl, List.nodup_nil, List.Pairwise.nil, ?_⟩
  show _ ∨ (!w.params.followText "set-order") = true
  by_cases c : w.params.followText "set-order" = true
  · exact .inl c
  · exact .inr (by simpa using c)
end
end VL
namespace VL
open PySem PySem.Spec PyProof.Rows L2 PySem.Froz
end VL
namespace VL
open PySem PySem.Spec PyProof.Rows L2 PySem.Froz
end VL
namespace VL
open PySem PySem.Spec PyProof.Rows L2 PySem.Froz
end VL
namespace VL
open PySem PySem.Spec PyProof.Rows L2
end VL
namespace VL
open PySem PySem.Spec PyProof.Rows L2
section
variable {X : Cx} {G : Gx} {W : WX} {e a se tg : Expr} {es : List Expr} {fa : Ex} {g : Ax} {pos p p3 : Pos}
def tStep (K : PySem.W.Frag) (pick : List V → List V) (te : TE) : TE := fun σ H Q => te σ H fun x H1 => ∃ a xs, x = .ref a ∧ SqL K H1 a xs ∧ (xs.length ≤ sizeLine → (pick xs).length ≤ sizeLine) ∧ ∀ p, H1 p = none → Q (.ref p) (upd H1 p (.lst (pick xs)))
theorem pe_step {te : TE} {k : Int} (pick : List V → List V) (he : PE X e te) (hst : PE X se (tC (.int k))) (h0 : k ≠ 0) (hp : ∀ vs us, Vals vs us → Vals (pick vs) (slicePick us.toArray none none (some k)).toList)
    (hsub : ∀ o i, subscripted (.Slice none none (some se) p3) false o i = operate [o, i] (getItem o i) := by intro _ _; with_unfolding_all rfl) : PE X (.Subscript e (.Slice none none (some se) p3) pos) (tStep X.K pick te) := by
  refine ⟨fun pn s σ H Q I h => ?_⟩
  refine Subscript_ (thn (he.run pn s σ H _ I h) fun v s1 ⟨x, H1, I1, r1, b, xs, ex, sq, len, q⟩ => ?_)
  subst ex
  cases r1
  refine wpAny_Slice (thn (po_none.run pn s1 σ H1 (fun o H2 => o = none ∧ H2 = H1) I1 ⟨rfl, rfl⟩) fun v1 s2 ⟨o1, H2, I2, pl, e1, e2⟩ => ?_)
  subst e1 e2
  refine thn (po_none.run pn s2 σ H2 (fun o H3 => o = none ∧ H3 = H2) I2 ⟨rfl, rfl⟩) fun v2 s3 ⟨o2, H3, I3, pu, e1, e2⟩ => ?_
  subst e1 e2
  refine thn ((po_some hst).run pn s3 σ H3 (fun o H4 => o = some k ∧ H4 = H3) I3 ⟨k, rfl, rfl, rfl⟩) fun v3 s4 ⟨o3, H4, I4, ps, e1, e2⟩ => ?_
  subst e1 e2
  have I5 : Inv X pn σ H4 { s4 with heap := s4.heap.push { cls := .type "slice", data := .fields #[v1, v2, v3] } } := I4.kept (t' := s4.toks) fun b ob q => Heap.get?_push_of_some _ q
  obtain ⟨its, r, ht, hz⟩ := I5.list sq
  refine tail_any (ops := [.ref b, .ref s4.heap.objs.size]) ht.isList.typeIs PySem.slot_list_getitem.lookup ?_ (hsub _ _)
  have hk : some k ≠ some 0 := fun z => h0 (Option.some.inj z)
  refine wpAny_getItem_list_slice ht.isList (Heap.IsSliceOf.new _ v1 v2 v3) pl pu ps hk ?_ (by rw [List.size_toArray, ← r.length]; exact hz)
  refine ⟨.ref _, _, I5.laid (t' := s4.toks) (o := .lst (pick xs)) (fun b ob q => Heap.get?_push_of_some _ q) (Nat.le_refl _) ?_, rfl, q _ (I5.hok.fresh (Nat.le_refl _))⟩
  exact ⟨len hz, _, 0, hp xs its r, Heap.get?_push_size _ rfl⟩
/-- xs[::-1], an own list, the step being any expression -/
theorem de_revLocS (hK : X.K = G.K.K) (ha : PE X e (tE G W fa)) (hst : PE X se (tC (.int (-1)))) (hsub : ∀ o i, subscripted (.Slice none none (some se) p3) false o i = operate [o, i] (getItem o i) := by intro _ _; with_unfolding_all rfl) :
    PE X (.Subscript e (.Slice none none (some se) p3) pos) (tE G W (eUn gRevLoc fa)) :=
  (pe_step (fun xs => xs.reverse) ha hst (by decide) (fun vs us r => by rw [PySem.W.krv_pick]; simpa using r.reverse) hsub).impV fun σ H Q ⟨ρ, F, st, r, po⟩ => seqX r po fun ρ1 F1 H1 x c1 v x1 r1 rv1 p1 => by
    unfold gRevLoc at p1
    cases q : lstOf c1 x with
    | none => simp only [q] at p1; exact p1.elim
    | some xs =>
      simp only [q] at p1
      obtain ⟨b, ws, rfl, s2, r2⟩ := lst_read (st := ⟨st.env, c1⟩) r1 rv1 q
      rw [hK]
      exact ⟨b, ws, rfl, s2, fun h => by rw [List.length_reverse]; exact h, fun q hq => newCell_of (st := ⟨st.env, c1⟩) r1 r2.reverse hq p1⟩
theorem pe_neg1 {k1 k2 : Nat} {p1 p2 : Pos} {m : Int} {n : Int} : PE X (.BinOp (.Constant (.int m) k1 p1) .Sub (.Constant (.int n) k2 p2) pos) (tC (.int (m - n))) :=
  (pe_op op_sub' pe_int pe_int).impV fun σ H Q q => ⟨m, n, rfl, rfl, trivial, q⟩
end
end VL
namespace VL
open PySem PySem.Spec PyProof.Rows L2
section
variable {X : Cx} {G : Gx} {W : WX} {e a b tg : Expr} {es : List Expr} {fa fb : Ex} {g : Ax} {pos p : Pos}
def hMin2 : FB := fun cs xs => match xs with
  | [.int i, .int j] => .ok (.int (if j < i then j else i)) cs
  | _ => .no
def hStrA : FB := fun cs xs => match xs with
  | [.str z] => .ok (.str z) cs
  | [.int i] => hStrI cs [.int i]
  | _ => .no
end
section
variable {X : Cx} {G : Gx} {W : WX} {e : Expr} {g : Ax}
/-- enumerate of a list or a tuple -/
def iEnQ (g : Ax) : Ix := fun st => (g st).bind fun xs c1 => match xs with
  | [.lst ds] => .ok (enumD ds, keepAll) c1
  | [.frl ds] => .ok (enumD ds, keepAll) c1
  | [.tup ds] => .ok (enumD ds, keepAll) c1
  | [.btp ds] => .ok (enumD ds, keepAll) c1
  | _ => .no
theorem iEnQ_one (g : Ax) (st : S) : iEnQ g st = iEn g st ∨ iEnQ g st = iEnT g st := by
  unfold iEnQ iEn iEnT
  cases g st with
  | no => exact .inl rfl
  | ex e' cs => exact .inl rfl
  | ok xs c1 =>
    cases xs with
    | nil => exact .inl rfl
    | cons x r =>
      cases r with
      | nil =>
        cases x with
        | tup ds => exact .inr rfl
        | btp ds => exact .inr rfl
        | _ => exact .inl rfl
      | cons y r => exact .inl (by cases x <;> rfl)
theorem di_enumQ {p pos tpos : Pos} {elts : List Expr} {kk : Nat} (hK : X.K = G.K.K) (hg : Gl X "enumerate") (hm : X.mg "enumerate" = none) (ha : PA X [e] (tAs G W g)) (hs : starEach [e] X.env = [(false, eval e X.env)] := by rfl) :
    PI X (.Tuple elts kk tpos) (.Call (.Name "enumerate" p) [e] [] pos) (tI G W (iEnQ g)) := ⟨fun pn s σ H R I ⟨ρ, F, st, r, po⟩ => by
  rcases iEnQ_one g st with q | q
  · exact (di_enum hK hg hm ha hs).run pn s σ H R I ⟨ρ, F, st, r, q ▸ po⟩
  · exact (di_enumT hK hg hm ha hs).run pn s σ H R I ⟨ρ, F, st, r, q ▸ po⟩⟩
end
section
variable {P : Program} {w : World} {K : Kt} {mg : Str → Option Value} {base : Heap} {x : Str} {st : Stmt} {ps N : List Str} {k : Nat} {fn fn' : Fn} {body : Sx} {Φ : FuncData → Prop}
structure DefX (P : Program) (w : World) (K : Kt) (mg : Str → Option Value) (base : Heap) (x : Str) (k : Nat) (ps : List Str) (fn : Fn) (Φ : FuncData → Prop) : Prop where
  ex : ∃ (f : Addr) (fd : FuncData), mg x = some (.ref f) ∧ PySem.W.keepIn K.K (.ref f) = true ∧ Binds K.K fd ps [] ∧ FnOk P w K.K mg base (L2.CX P w) k f fd ps (spF K ps.length fn) ∧ Φ fd
theorem DefX.trim (d : DefX P w K mg base x k ps fn Φ) : DefX P w K mg base x k ps (trimF fn) Φ := by
  obtain ⟨f, fd, h1, h2, h3, h4, h5⟩ := d.ex
  exact ⟨f, fd, h1, h2, h3, fnTrim h4, h5⟩
end
section
variable {X : Cx} {G : Gx} {W : WX} {e : Expr} {es : List Expr} {g gk : Ax} {pos p : Pos} {x : Str} {k : Nat} {fn : Fn} {ps ks : List Str} {kws : List Keyword} {Φ : FuncData → Prop} {ds : List D}
/-- f(e), the rest by defaults -/
def eCallDf (n : Nat) (fn : Fn) (ds : List D) (g : Ax) : Ex := fun st => (g st).bind fun xs c1 => callV n fn (xs ++ ds) c1
end
end VL
namespace VL
open PySem L2 PyProof.Rows
section
variable {X : Cx} {G : Gx} {W : WX} {a b : Expr} {fa fb : Ex} {pos : Pos}
def rInL (neg : Bool) (K : PySem.W.Frag) : R2 := fun x y H Q => ∃ d ds, Dp K H x d ∧ Dp K H y (.list ds) ∧ SeqAt.shaped d = true ∧ SeqAt.shaped (.list ds) = true ∧ Q (.bl (if neg then !(ds.any fun z => PyData.eqv z d) else ds.any fun z => PyData.eqv z d)) H
theorem op_notInL (hu : X.A.units + 65 < cLine) : OpR X (compareOp .NotIn) (rInL true X.K) := by
  intro pins s σ H x y v u Q I rx ry h
  obtain ⟨d, ds, hd, he, sd, se, q⟩ := h
  obtain ⟨as, r1⟩ := Dp.reads I d x v hd rx
  obtain ⟨bs, r2⟩ := Dp.reads I (.list ds) y u he ry
  exact SeqAt.notIn_list_reads r2 r1 (SeqAt.canLay_of_shaped se) (SeqAt.canLay_of_shaped sd) (room_in_shaped sd hu) ⟨.bl _, H, I, rfl, q⟩
def gInL (neg : Bool) : F2 := fun cs x y => match norm cs y with
  | .lst ds => if VL.plain (norm cs x) && SeqAt.shaped (py (norm cs x)) && plains ds && SeqAt.shaped (.list (pys ds)) then .ok (.bl (if neg then !((pys ds).any fun z => PyData.eqv z (py (norm cs x))) else (pys ds).any fun z => PyData.eqv z (py (norm cs x)))) cs else .no
  | _ => .no
theorem v2_inL {neg : Bool} : V2 G W (rInL neg G.K.K) (gInL neg) := by
  intro ρ F st σ H x y v w Q r h1 h2 p
  unfold gInL at p
  cases e : norm st.cs y with
  | lst ds =>
    rw [e] at p
    dsimp only at p
    by_cases c : (VL.plain (norm st.cs x) && SeqAt.shaped (py (norm st.cs x)) && plains ds && SeqAt.shaped (.list (pys ds))) = true
    · rw [if_pos c] at p
      simp only [Bool.and_eq_true] at c
      have h3 := dp_norm r h2 (by rw [e]; unfold VL.plain; exact c.1.2)
      rw [e, show py (.lst ds) = .list (pys ds) from by simp [py]] at h3
      exact ⟨_, _, dp_norm r h1 c.1.1.1, h3, c.1.1.2, c.2, p.here r (.bl _)⟩
    · rw [if_neg c] at p
      exact p.elim
  | _ => rw [e] at p; exact p.elim
theorem dt_notinL (hK : X.K = G.K.K) (hu : X.A.units + 65 < cLine) (ha : PE X a (tE G W fa)) (hb : PE X b (tE G W fb)) (hm : behindInMarks .NotIn b = false) : PT X (.Compare a [.NotIn] [b] pos) (tTs G W (tCmp' (gInL true) fa fb)) := dt_cmp (op_notInL hu) (by rw [hK]; exact v2_inL) ha hb hm
end
end VL
namespace VL
open PySem PySem.Spec PyProof.Rows L2
end VL
namespace VL
open PySem PySem.Spec PyProof.Rows L2
open LamX (CodeO TabS TabB LamS lamEnv lamCx)
end VL
namespace VL
open PySem PySem.Spec PyProof.Rows L2
open LamX (CodeO TabS TabB LamS lamEnv lamCx)
end VL
namespace VL
open PySem PySem.Spec PyProof.Rows L2
open LamX (CodeO TabS TabB LamS lamEnv lamCx)
end VL
namespace VL
open PySem L2 PyProof.Rows
def sameStr (x y : Str) : Bool := x.cps.toList == y.cps.toList
theorem sameStr_eq {x y : Str} : sameStr x y = decide (x = y) := by
  obtain ⟨⟨a⟩⟩ := x
  obtain ⟨⟨b⟩⟩ := y
  by_cases h : a = b
  · subst h
    simp [sameStr]
  · have : (⟨⟨a⟩⟩ : Str) ≠ ⟨⟨b⟩⟩ := fun e => h (by injection e with e; injection e)
    rw [decide_eq_false this]
    simp [sameStr, h]
def sameKey : Key → Key → Bool
  | .inl i, .inl j => i == j
  | .inr x, .inr y => sameStr x y
  | _, _ => false
theorem sameKey_eq {a b : Key} : sameKey a b = decide (a = b) := by
  cases a with
  | inl i =>
    cases b with
    | inl j =>
      show (i == j) = _
      by_cases h : i = j
      · subst h; simp
      · rw [decide_eq_false (fun e => h (Sum.inl.inj e))]
        simp [h]
    | inr y => rw [decide_eq_false (fun e => by cases e)]; rfl
  | inr x =>
    cases b with
    | inl j => rw [decide_eq_false (fun e => by cases e)]; rfl
    | inr y =>
      show sameStr x y = _
      rw [sameStr_eq]
      by_cases h : x = y
      · subst h; simp
      · rw [decide_eq_false h, decide_eq_false (fun e => h (Sum.inr.inj e))]
def keyD : D → Option Key
  | .int i => some (.inl i)
  | .str x => some (.inr x)
  | _ => none
theorem keyD_of {K : Kt} {ρ : List Addr} {F : Hp} {d : D} {v : V} {k : Key} (h : RV K ρ F d v) (e : keyD d = some k) : v = kV k := by
  cases h <;> first | (cases e; rfl) | cases e
def lookK (k : Key) : List Key → List D → Option D
  | j :: ks, d :: ds => if sameKey j k then some d else lookK k ks ds
  | _, _ => none
theorem lookK_rel {K : Kt} {ρ : List Addr} {F : Hp} {k : Key} : ∀ {ks : List Key} {ds : List D} {vs : List V}, RVs K ρ F ds vs → ks.length = vs.length → (∀ d, lookK k ks ds = some d → ∃ v, valV (ks.zip vs) k = some v ∧ RV K ρ F d v) ∧ (lookK k ks ds = none → valV (ks.zip vs) k = none)
  | [], _, _, .nil, _ => ⟨(fun _ e => by cases e), fun _ => rfl⟩
  | [], _, _, .cons _ _, e => by simp at e
  | _ :: _, _, _, .nil, e => by simp at e
  | j :: ks, _, _, @RVs.cons _ _ _ x xs y ys hx r, e => by
    obtain ⟨h1, h2⟩ := lookK_rel (k := k) r (by simpa using e)
    rw [List.zip_cons_cons]
    show (∀ d, (if sameKey j k then some x else lookK k ks xs) = some d → _) ∧ ((if sameKey j k then some x else lookK k ks xs) = none → _)
    by_cases c : j = k
    · rw [sameKey_eq, decide_eq_true c, if_pos rfl, valV_pos (p := (j, y)) c]
      exact ⟨fun d q => by cases q; exact ⟨y, rfl, hx⟩, fun q => by cases q⟩
    · rw [sameKey_eq, decide_eq_false c, if_neg (by simp), valV_neg (p := (j, y)) c]
      exact ⟨h1, h2⟩
def setK (k : Key) (d : D) : List Key → List D → List D
  | j :: ks, x :: xs => (if sameKey j k then d else x) :: setK k d ks xs
  | _, _ => []
def putKD (k : Key) (d : D) (ks : List Key) (ds : List D) : List Key × List D := if ks.any (fun j => sameKey j k) then (ks, setK k d ks ds) else (ks ++ [k], ds ++ [d])
theorem anyK {k : Key} : ∀ {ks : List Key} {vs : List V}, ks.length = vs.length → ((ks.zip vs).any fun kv => decide (kv.1 = k)) = ks.any (fun j => sameKey j k)
  | [], [], _ => rfl
  | [], _ :: _, e => by simp at e
  | _ :: _, [], e => by simp at e
  | j :: ks, v :: vs, e => by
    rw [List.zip_cons_cons, List.any_cons, List.any_cons, anyK (by simpa using e), sameKey_eq]
theorem setK_rel {K : Kt} {ρ : List Addr} {F : Hp} {k : Key} {d : D} {v : V} (h : RV K ρ F d v) : ∀ {ks : List Key} {ds : List D} {vs : List V}, RVs K ρ F ds vs → ks.length = vs.length → ∃ ws, RVs K ρ F (setK k d ks ds) ws ∧ ks.length = ws.length ∧ ((ks.zip vs).map fun kv => if kv.1 = k then (kv.1, v) else kv) = ks.zip ws
  | [], _, _, .nil, _ => ⟨[], .nil, rfl, rfl⟩
  | [], _, _, .cons _ _, e => by simp at e
  | _ :: _, _, _, .nil, e => by simp at e
  | j :: ks, _, _, @RVs.cons _ _ _ x xs y ys hx r, e => by
    obtain ⟨ws, h1, h2, h3⟩ := setK_rel (k := k) h r (by simpa using e)
    by_cases c : j = k
    · refine ⟨v :: ws, ?_, by simp [h2], ?_⟩
      · show RVs K ρ F ((if sameKey j k then d else x) :: setK k d ks xs) _
        rw [sameKey_eq, decide_eq_true c, if_pos rfl]
        exact .cons h h1
      · rw [List.zip_cons_cons, List.map_cons, h3, if_pos c, List.zip_cons_cons]
    · refine ⟨y :: ws, ?_, by simp [h2], ?_⟩
      · show RVs K ρ F ((if sameKey j k then d else x) :: setK k d ks xs) _
        rw [sameKey_eq, decide_eq_false c, if_neg (by simp)]
        exact .cons hx h1
      · rw [List.zip_cons_cons, List.map_cons, h3, if_neg c, List.zip_cons_cons]
theorem putKD_rel {K : Kt} {ρ : List Addr} {F : Hp} {k : Key} {d : D} {v : V} (h : RV K ρ F d v) {ks : List Key} {ds : List D} {vs : List V} (r : RVs K ρ F ds vs) (e : ks.length = vs.length) : ∃ ws, RVs K ρ F (putKD k d ks ds).2 ws ∧ (putKD k d ks ds).1.length = ws.length ∧ putK (ks.zip vs) k v = (putKD k d ks ds).1.zip ws := by
  unfold putK putKD
  rw [anyK e]
  by_cases c : ks.any (fun j => sameKey j k) = true
  · rw [if_pos c, if_pos c]
    exact setK_rel h r e
  · rw [if_neg c, if_neg c]
    refine ⟨vs ++ [v], r.append (RVs.one h), by simp [e], ?_⟩
    show ks.zip vs ++ [(k, v)] = (ks ++ [k]).zip (vs ++ [v])
    rw [List.zip_append e]
    rfl
def dctOf (cs : List Cell) : D → Option (List Key × List D)
  | .dct ks ds => some (ks, ds)
  | .loc n => match cs[n]? with
    | some (.dk ks ds) => some (ks, ds)
    | _ => none
  | _ => none
section
variable {X : Cx} {G : Gx} {W : WX} {a b e : Expr} {es : List Expr} {fa fb : Ex} {g : Ax} {pos p : Pos}
theorem dct_read {ρ : List Addr} {F : Hp} {st : S} {σ : L2.St} {H : Hp} {x : D} {v : V} {ks : List Key} {ds : List D} (r : Rel G ρ F st σ H) (h : RV G.K ρ F x v) (e : dctOf st.cs x = some (ks, ds)) : ∃ a vs, v = .ref a ∧ H a = some (.dK (ks.zip vs)) ∧ ks.length = vs.length ∧ RVs G.K ρ F ds vs := by
  cases h with
  | dct h1 h2 h3 => cases e; exact ⟨_, _, rfl, r.fz _ _ h1, h2, h3⟩
  | loc h1 =>
    rename_i n a
    unfold dctOf at e
    simp only at e
    cases q : st.cs[n]? with
    | none => rw [q] at e; cases e
    | some c =>
      rw [q] at e
      cases c with
      | dk ks' ds' =>
        cases e
        obtain ⟨vs, h2, h3, h4⟩ := r.cell n _ a q h1
        exact ⟨a, vs, rfl, h2, h3, h4⟩
      | _ => cases e
  | _ => cases e
def gInD (neg : Bool) : F2 := fun cs x y => match keyD x, dctOf cs y with
  | some k, some (ks, ds) => .ok (.bl (if neg then !(lookK k ks ds).isSome else (lookK k ks ds).isSome)) cs
  | _, _ => .no
def gIxD : F2 := fun cs x y => match dctOf cs x, keyD y with
  | some (ks, ds), some k => (match lookK k ks ds with
    | some d => .ok d cs
    | none => .no)
  | _, _ => .no
theorem in_dget {ρ : List Addr} {F : Hp} {st : S} {σ : L2.St} {H : Hp} {x y : D} {v w : V} {k : Key} {ks : List Key} {ds : List D} (r : Rel G ρ F st σ H) (h1 : RV G.K ρ F x v) (h2 : RV G.K ρ F y w) (e1 : keyD x = some k) (e2 : dctOf st.cs y = some (ks, ds)) : ∃ a o, w = .ref a ∧ DGet H a v o ∧ o.isSome = (lookK k ks ds).isSome ∧ ∀ d, lookK k ks ds = some d → ∃ u, o = some u ∧ RV G.K ρ F d u := by
  obtain ⟨a, vs, rfl, h3, h4, h5⟩ := dct_read r h2 e2
  have hv := keyD_of h1 e1
  subst hv
  obtain ⟨l1, l2⟩ := lookK_rel (k := k) h5 h4
  refine ⟨a, _, rfl, DGet.k h3, ?_, fun d hd => l1 d hd⟩
  cases q : lookK k ks ds with
  | none => rw [l2 q]; rfl
  | some d => obtain ⟨u, e, _⟩ := l1 d q; rw [e]; rfl
theorem din_of {neg : Bool} {ρ : List Addr} {F : Hp} {st : S} {σ : L2.St} {H : Hp} {x y : D} {v w : V} {Q : VK} (r : Rel G ρ F st σ H) (h1 : RV G.K ρ F x v) (h2 : RV G.K ρ F y w) (p : Post RV G W ρ F st.env σ Q (gInD neg st.cs x y)) : ∃ a o, w = .ref a ∧ DGet H a v o ∧ Q (.bl (if neg then !o.isSome else o.isSome)) H := by
  unfold gInD at p
  cases q1 : keyD x with
  | none => rw [q1] at p; exact p.elim
  | some k =>
    cases q2 : dctOf st.cs y with
    | none => rw [q1, q2] at p; exact p.elim
    | some z =>
      obtain ⟨ks, ds⟩ := z
      rw [q1, q2] at p
      obtain ⟨a, o, e1, e2, e3, _⟩ := in_dget r h1 h2 q1 q2
      refine ⟨a, o, e1, e2, ?_⟩
      rw [e3]
      exact p.here r (.bl _)
theorem tDIn_of : ∀ σ H Q, tE G W (eOp (gInD false) fa fb) σ H Q → tDIn (tE G W fa) (tE G W fb) σ H Q := fun σ H Q ⟨ρ, F, st, r, p⟩ =>
  seqX r p fun ρ1 F1 H1 x c1 v x1 r1 rv1 p1 => seqX (st := ⟨st.env, c1⟩) r1 p1 fun ρ2 F2 H2 y c2 w x2 r2 rv2 p2 => din_of (neg := false) (st := ⟨st.env, c2⟩) r2 (rv1.ext x2) rv2 p2
theorem tDNotIn_of : ∀ σ H Q, tE G W (eOp (gInD true) fa fb) σ H Q → tDNotIn (tE G W fa) (tE G W fb) σ H Q := fun σ H Q ⟨ρ, F, st, r, p⟩ =>
  seqX r p fun ρ1 F1 H1 x c1 v x1 r1 rv1 p1 => seqX (st := ⟨st.env, c1⟩) r1 p1 fun ρ2 F2 H2 y c2 w x2 r2 rv2 p2 => din_of (neg := true) (st := ⟨st.env, c2⟩) r2 (rv1.ext x2) rv2 p2
theorem tBD_of {g : F2} : ∀ σ H Q, tTs G W (tCmp' g fa fb) σ H Q → tE G W (eOp g fa fb) σ H fun v H' => ∃ k, v = .bl k ∧ Q k H' := fun σ H Q ⟨ρ, F, st, r, p⟩ =>
  seqX (R := RV) r p fun ρ1 F1 H1 x c1 v x1 r1 rv1 p1 => by
    cases rv1 with
    | bl k => exact ⟨k, rfl, p1.here (st := ⟨st.env, c1⟩) r1 rfl⟩
    | _ => exact p1.elim
theorem dt_inD (hu : X.A.units + 1 < cLine) (ha : PE X a (tE G W fa)) (hb : PE X b (tE G W fb)) (hm : behindInMarks .In b = false := by rfl) : PT X (.Compare a [.In] [b] pos) (tTs G W (tCmp' (gInD false) fa fb)) := (pt_cmp (pc_din hu ha hb) hm).impV fun σ H Q h => tDIn_of σ H _ (tBD_of σ H Q h)
theorem dt_notinD (hu : X.A.units + 1 < cLine) (ha : PE X a (tE G W fa)) (hb : PE X b (tE G W fb)) (hm : behindInMarks .NotIn b = false := by rfl) : PT X (.Compare a [.NotIn] [b] pos) (tTs G W (tCmp' (gInD true) fa fb)) := (pt_cmp (pc_dnotin hu ha hb) hm).impV fun σ H Q h => tDNotIn_of σ H _ (tBD_of σ H Q h)
theorem de_ixD (hu : X.A.units + 1 < cLine) (ha : PE X a (tE G W fa)) (hb : PE X b (tE G W fb)) (hs : NoSl b := by intro _ _; rfl) : PE X (.Subscript a b pos) (tE G W (eOp gIxD fa fb)) := (pe_dget hu ha hb hs).impV fun σ H Q ⟨ρ, F, st, r, p⟩ =>
  seqX r p fun ρ1 F1 H1 x c1 v x1 r1 rv1 p1 => seqX (st := ⟨st.env, c1⟩) r1 p1 fun ρ2 F2 H2 y c2 w x2 r2 rv2 p2 => by
    unfold gIxD at p2
    cases q2 : dctOf c2 x with
    | none => rw [q2] at p2; exact p2.elim
    | some z =>
      obtain ⟨ks, ds⟩ := z
      cases q1 : keyD y with
      | none => rw [q2, q1] at p2; exact p2.elim
      | some k =>
        rw [q2, q1] at p2
        obtain ⟨a, o, e1, e2, _, e4⟩ := in_dget (st := ⟨st.env, c2⟩) r2 rv2 (rv1.ext x2) q1 q2
        dsimp only at p2
        cases q3 : lookK k ks ds with
        | none => rw [q3] at p2; exact p2.elim
        | some d =>
          rw [q3] at p2
          obtain ⟨u, e5, e6⟩ := e4 d q3
          subst e5
          exact ⟨a, u, e1, e2, p2.here (st := ⟨st.env, c2⟩) r2 e6⟩
end
theorem Rel.freezeD {G : Gx} {ρ0 ρ : List Addr} {F0 F : Hp} {env0 env : List (Option D)} {cs0 cs : List Cell} {ks : List Key} {ds : List D} {σ0 σ : L2.St} {H0 H : Hp} {a : Addr} {n : Nat} (r0 : Rel G ρ0 F0 ⟨env0, cs0⟩ σ0 H0) (hn : n = cs0.length) (x : Ext ρ0 F0 ρ F)
    (r : Rel G ρ F ⟨env, cs ++ [.dk ks ds]⟩ σ H) (hl : cs.length = n) (ha : ρ[n]? = some a) (b1 : belows n ds = true) (b2 : cs.all (belowC n) = true) :
    ∃ F', Ext ρ0 F0 ρ0 F' ∧ Rel G ρ0 F' ⟨env0, cs⟩ σ0 H ∧ RV G.K ρ0 F' (.dct ks ds) (.ref a) := by
  have hρ : ρ.take n = ρ0 := by
    obtain ⟨t, rfl⟩ := x.pre
    rw [hn, ← show ρ0.length = cs0.length from r0.cl, List.take_left]
  obtain ⟨vs, h1, h1l, h2⟩ := r.cell n (.dk ks ds) a (by
    show (cs ++ [Cell.dk ks ds])[n]? = _
    rw [List.getElem?_append_right (by omega), hl, Nat.sub_self]; rfl) ha
  have hm : a ∈ ρ := List.mem_of_getElem? ha
  have hFa : F a = none := r.sep a hm
  have s1 : Same F (upd F a (.dK (ks.zip vs))) := same_upd' hFa
  have hlen : ρ.length = n + 1 := by rw [show ρ.length = (cs ++ [Cell.dk ks ds]).length from r.cl, List.length_append, hl]; rfl
  have hna : a ∉ ρ0 := fun z => by
    rw [← hρ] at z
    obtain ⟨i, hi, e⟩ := List.getElem_of_mem z
    rw [List.length_take] at hi
    have hin : i < n := by omega
    rw [List.getElem_take] at e
    obtain ⟨h3, h3'⟩ := List.getElem?_eq_some_iff.mp ha
    have := (List.getElem_inj r.nd).mp (e.trans h3'.symm)
    omega
  have hA : a ∉ G.A0 := fun z => hna (r0.a0.subset z)
  have hH0 : G.H0 a = none := (r.own a hm).resolve_left hA
  refine ⟨upd F a (.dK (ks.zip vs)), ⟨List.prefix_refl _, x.fz.trans s1⟩, ⟨r0.len, fun i d e => ?_, ?_, fun i c b e1 e2 => ?_, r0.nd, fun b o e => ?_, fun b hb => ?_, r.fr, fun b hb => r.own b (x.pre.subset hb), fun b o e => ?_, r.old.trans s1, r0.a0⟩, ?_⟩
  · obtain ⟨v, e1, e2⟩ := r0.env i d e
    exact ⟨v, e1, e2.ext ⟨List.prefix_refl _, x.fz.trans s1⟩⟩
  · show ρ0.length = cs.length
    rw [hl, hn]; exact r0.cl
  · have e1 : cs[i]? = some c := e1
    have hi : i < cs.length := (List.getElem?_eq_some_iff.mp e1).1
    have e3 : ρ[i]? = some b := x.at e2
    have := r.cell i c b (by show (cs ++ [Cell.dk ks ds])[i]? = _; rw [List.getElem?_append_left hi]; exact e1) e3
    have q := this.cut (n := n) s1 (List.all_eq_true.mp b2 c (List.mem_of_getElem? e1))
    rw [hρ] at q
    exact q
  · by_cases hb : b = a
    · subst hb
      rw [upd_same] at e
      cases e
      exact h1
    · rw [upd_ne hb] at e
      exact r.fz b o e
  · rw [upd_ne (show b ≠ a from fun z => hna (by rw [← z]; exact hb))]
    exact r.sep b (x.pre.subset hb)
  · by_cases hb : b = a
    · subst hb
      exact .inr hH0
    · rw [upd_ne hb] at e
      exact r.new b o e
  · have q := h2.cut (n := n) s1 b1
    rw [hρ] at q
    exact .dct upd_same h1l q
def dcL (g : Gt) (t : Tx) (fk fv : Ex) (keep : List Cell → Bool) (env : List (Option D)) (n : Nat) : List D → List Cell → Option (List Cell)
  | [], cs => if keep cs then some cs else none
  | d :: ds, cs => if keep cs then (match g d ⟨env, cs⟩ with
    | some st1 => (match t st1 with
      | .ok true c2 => (match fk ⟨st1.env, c2⟩ with
        | .ok y c3 => (match fv ⟨st1.env, c3⟩ with
          | .ok z c4 => (match keyD y with
            | some k => (match c4[n]? with
              | some (.dk ks es) => if ks.length < 16777216 then dcL g t fk fv keep env n ds (c4.set n (.dk (putKD k z ks es).1 (putKD k z ks es).2)) else none
              | _ => none)
            | none => none)
          | _ => none)
        | _ => none)
      | .ok false c2 => dcL g t fk fv keep env n ds c2
      | _ => none)
    | none => none) else none
def lastDict (cs : List Cell) : Option (List Cell × List Key × List D) := match cs.reverse with
  | .dk ks ds :: r => some (r.reverse, ks, ds)
  | _ => none
theorem lastDict_eq {cs c1 : List Cell} {ks : List Key} {ds : List D} (h : lastDict cs = some (c1, ks, ds)) : cs = c1 ++ [.dk ks ds] := by
  unfold lastDict at h
  split at h
  · rename_i ks' es r e
    cases h
    rw [← List.reverse_reverse cs, e, List.reverse_cons]
  · cases h
def eDc (src : Ix) (g : Gt) (t : Tx) (fk fv : Ex) (vs : List Nat) : Ex := fun st => (src st).bind fun w c1 => match dcL g t fk fv w.2 (wipeD st.env vs) c1.length w.1 (c1 ++ [.dk [] []]) with
  | some c2 => (match lastDict c2 with
    | some (c3, ks, ds) => if c3.length = c1.length ∧ belows c1.length ds = true ∧ c3.all (belowC c1.length) = true then .ok (.dct ks ds) c3 else .no
    | none => .no)
  | none => .no
section
variable {X : Cx} {G : Gx} {W : WX} {tg iter kx vx : Expr} {ifs : List Expr}
theorem eDc_of {src : Ix} {sl vs : List Nat} {g : Gt} {t : Tx} {fk fv : Ex} (hsl : ∀ i ∈ sl, i ∈ vs) : ∀ σ H Q, tE G W (eDc src g t fk fv vs) σ H Q → tDc (tI G W src) (tG G sl g) (tTs G W0 t) (tE G W0 fk) (tE G W0 fv) vs σ H Q := by
  rintro σ H Q ⟨ρ, F, st, r, p⟩
  refine ⟨ρ, F, st, r, ?_⟩
  unfold eDc at p
  cases q : src st with
  | no => rw [q] at p; exact p
  | ex e' cs =>
    rw [q] at p
    exact fun ρ' F' H' c d x r' xa => p ρ' F' H' c d x r' xa
  | ok w c1 =>
    rw [q] at p
    have pp : Post RV G W ρ F st.env σ Q (match dcL g t fk fv w.2 (wipeD st.env vs) c1.length w.1 (c1 ++ [.dk [] []]) with
      | some c2 => (match lastDict c2 with
        | some (c3, ks, ds) => if c3.length = c1.length ∧ belows c1.length ds = true ∧ c3.all (belowC c1.length) = true then .ok (.dct ks ds) c3 else .no
        | none => .no)
      | none => .no) := p
    cases q2 : dcL g t fk fv w.2 (wipeD st.env vs) c1.length w.1 (c1 ++ [.dk [] []]) with
    | none => rw [q2] at pp; exact pp.elim
    | some c2 =>
    rw [q2] at pp
    obtain ⟨ds, keep⟩ := w
    have q2 : dcL g t fk fv keep (wipeD st.env vs) c1.length ds (c1 ++ [.dk [] []]) = some c2 := q2
    intro ρ1 F1 H1 J x1 r1 wk D hD
    have hl1 : ρ1.length = c1.length := r1.cl
    have y0 : Ext ρ1 F1 (ρ1 ++ [D]) F1 := ⟨List.prefix_append _ _, Same.refl _⟩
    obtain ⟨_, r2⟩ := r1.cellNew (p := D) (o := .dK []) (c := .dk [] []) hD ⟨[], upd_same, rfl, .nil⟩
    have fin : ∀ (ρ2 : List Addr) (F2 H2 : Hp), Ext (ρ1 ++ [D]) F1 ρ2 F2 → Rel G ρ2 F2 ⟨st.env, c2⟩ σ H2 → Q (.ref D) H2 := fun ρ2 F2 H2 x2 r2 => by
      cases q : lastDict c2 with
      | none => simp only [q] at pp; exact pp.elim
      | some z =>
        obtain ⟨c3, ks, ds⟩ := z
        simp only [q] at pp
        have e := lastDict_eq q
        subst e
        by_cases c : c3.length = c1.length ∧ belows c1.length ds = true ∧ c3.all (belowC c1.length) = true
        · rw [if_pos c] at pp
          obtain ⟨F', x3, r3, rv3⟩ := Rel.freezeD (a := D) r1 rfl (y0.trans x2) r2 c.1 (x2.at (by rw [← hl1, List.getElem?_append_right (Nat.le_refl _), Nat.sub_self]; rfl)) c.2.1 c.2.2
          exact pp ρ1 F' H2 _ (x1.trans x3) r3 rv3
        · rw [if_neg c] at pp
          exact pp.elim
    refine ⟨fun i m H2 => ∃ ρ2 F2 cs, Ext (ρ1 ++ [D]) F1 ρ2 F2 ∧ Rel G ρ2 F2 ⟨st.env, cs⟩ σ H2 ∧ i + m = ds.length ∧ dcL g t fk fv keep (wipeD st.env vs) c1.length (ds.drop i) cs = some c2, ⟨ds.length, ρ1 ++ [D], F1, _, Ext.refl, r2, Nat.zero_add _, q2⟩, ?_⟩
    rintro i m H2 ⟨ρ2, F2, cs, x2, r2, em, e2⟩
    cases hd : ds.drop i with
    | nil =>
      rw [hd] at e2
      unfold dcL at e2
      have hi : i = ds.length := by
        have := List.drop_eq_nil_iff.mp hd
        omega
      by_cases hk : keep cs = true
      · rw [if_pos hk] at e2
        cases e2
        exact .inl ⟨(wk ρ2 F2 _ σ H2 i (y0.trans x2) r2 hk).2 hi, fin _ _ _ x2 r2⟩
      · rw [if_neg hk] at e2
        cases e2
    | cons d rest =>
      rw [hd] at e2
      unfold dcL at e2
      have hi : ds[i]? = some d := by
        have := List.getElem?_drop (xs := ds) (i := i) (j := 0)
        rw [hd, Nat.add_zero] at this
        exact this.symm
      have hr : ds.drop (i + 1) = rest := by
        rw [← List.drop_drop, hd]; rfl
      by_cases hk : keep cs = true
      · rw [if_pos hk] at e2
        obtain ⟨go, yl⟩ := (wk ρ2 F2 _ σ H2 i (y0.trans x2) r2 hk).1 d hi
        refine .inr ⟨go, fun H3 => ∃ ρ3 F3 cs3, Ext (ρ1 ++ [D]) F1 ρ3 F3 ∧ Rel G ρ3 F3 ⟨st.env, cs3⟩ σ H3 ∧ dcL g t fk fv keep (wipeD st.env vs) c1.length rest cs3 = some c2, fun H3 ⟨ρ3, F3, cs3, x3, r3, e3⟩ => ⟨m - 1, ?_, ρ3, F3, cs3, x3, r3, ?_, by rw [hr]; exact e3⟩, fun y H3 hy => ?_⟩
        · have := (List.getElem?_eq_some_iff.mp hi).1
          omega
        · have := (List.getElem?_eq_some_iff.mp hi).1
          omega
        · obtain ⟨ρ3, F3, x3, _, _, r3, rv3⟩ := yl y H3 hy
          have x23 := x2.trans x3
          cases q3 : g d ⟨wipeD st.env vs, cs⟩ with
          | none => simp only [q3] at e2; cases e2
          | some st1 =>
            simp only [q3] at e2
            refine ⟨ρ3, F3, _, d, st1, r3.wiped vs, rv3, q3, fun σ4 r4 b4 => ⟨wipe_but b4 hsl, ρ3, F3, st1, r4, ?_⟩⟩
            cases q4 : t st1 with
            | no => simp only [q4] at e2; cases e2
            | ex _ _ => simp only [q4] at e2; cases e2
            | ok b c4 =>
              intro ρ5 F5 H5 b' x5 r5 eb
              have eb : b = b' := eb
              subst eb
              cases b with
              | false =>
                simp only [q4] at e2
                exact ⟨ρ5, F5, c4, x23.trans x5, r3.back x5 r5, e2⟩
              | true =>
                simp only [q4] at e2
                rw [if_pos rfl]
                refine ⟨ρ5, F5, _, r5, ?_⟩
                cases q6 : fk ⟨st1.env, c4⟩ with
                | no => simp only [q6] at e2; cases e2
                | ex _ _ => simp only [q6] at e2; cases e2
                | ok z c6 =>
                  simp only [q6] at e2
                  intro ρ7 F7 H7 v x7 r7 rv7
                  refine ⟨ρ7, F7, _, r7, ?_⟩
                  cases q8 : fv ⟨st1.env, c6⟩ with
                  | no => simp only [q8] at e2; cases e2
                  | ex _ _ => simp only [q8] at e2; cases e2
                  | ok z2 c8 =>
                    simp only [q8] at e2
                    intro ρ9 F9 H9 v2 x9 r9 rv9
                    cases qk : keyD z with
                    | none => simp only [qk] at e2; cases e2
                    | some k =>
                      simp only [qk] at e2
                      cases q7 : c8[c1.length]? with
                      | none => simp only [q7] at e2; cases e2
                      | some c0 =>
                        cases c0 with
                        | lst _ => simp only [q7] at e2; cases e2
                        | tbl _ _ => simp only [q7] at e2; cases e2
                        | dn _ _ => simp only [q7] at e2; cases e2
                        | ins _ _ _ => simp only [q7] at e2; cases e2
                        | dk ks es =>
                          simp only [q7] at e2
                          by_cases hz : ks.length < 16777216
                          · rw [if_pos hz] at e2
                            have x29 := ((x23.trans x5).trans x7).trans x9
                            have hat : ρ9[c1.length]? = some D := x29.at (by
                              rw [← hl1, List.getElem?_append_right (Nat.le_refl _), Nat.sub_self]; rfl)
                            obtain ⟨ws, h8, h8l, h9⟩ := r9.cell _ _ _ q7 hat
                            obtain ⟨us, u1, u2, u3⟩ := putKD_rel (k := k) rv9 h9 h8l
                            refine ⟨ks.zip ws, k, keyD_of rv7 qk, h8, by rw [List.length_zip, ← h8l, Nat.min_self, sizeLine_eq]; exact hz, ρ9, F9, _, x29, ?_, e2⟩
                            have r8 := r3.back ((x5.trans x7).trans x9) r9
                            exact r8.cellSet (c := .dk (putKD k z2 ks es).1 (putKD k z2 ks es).2) hat ⟨us, by rw [← u3]; exact upd_same, u2, u1⟩
                          · rw [if_neg hz] at e2
                            cases e2
      · rw [if_neg hk] at e2
        cases e2
variable {scope : Scope} {own : List (Str × Nat)} {pos : Pos} {src : Ix} {sl : List Nat} {g : Gt} {t : Tx} {fk fv : Ex}
theorem de_dc (hc : X.calm = true) (hN : X.N.Nodup) (hi : PI X tg iter (tI G W src)) (ok : BlkOk X.N X.env.scope scope own) (hsl : ∀ i ∈ sl, i ∈ own.map (·.2))
    (hg : ∀ (s : Shared) (H : Hp) (C : Addr) (cl : List (Str × Addr)) (fp : List Addr), PG (X.blk s H scope (compEnvC scope cl C X.env) fp) tg (tG G sl g)) (ht : ∀ (s : Shared) (H : Hp) (C : Addr) (cl : List (Str × Addr)) (fp : List Addr), PTs (X.blk s H scope (compEnvC scope cl C X.env) fp) ifs (tTs G W0 t))
    (hk : ∀ (s : Shared) (H : Hp) (C : Addr) (cl : List (Str × Addr)) (fp : List Addr), PE (X.blk s H scope (compEnvC scope cl C X.env) fp) kx (tE G W0 fk))
    (he : ∀ (s : Shared) (H : Hp) (C : Addr) (cl : List (Str × Addr)) (fp : List Addr), PE (X.blk s H scope (compEnvC scope cl C X.env) fp) vx (tE G W0 fv)) (hs : ∀ x, foldedSetIterable iter X.env x = pure x := by intro _; rfl) :
    PE X (.DictComp kx vx [⟨tg, iter, ifs, 0⟩] scope pos) (tE G W (eDc src g t fk fv (own.map (·.2)))) := (pe_dc hc hN hi ok hg ht hk he hs).impV (eDc_of hsl)
end
end VL
namespace VL
open PySem L2 PyProof.Rows
section
variable {X : Cx}
/-- tuple(xs) of a list, the new object being told -/
theorem call_tupleB : CallR X (.type "tuple") (fun xs H Q => ∃ p ys, xs = [.ref p] ∧ SqL X.K H p ys ∧ ∀ l o, H l = none → o.dict = none → Q (.ref l) (upd H l (.frz o (.tup ys)))) := by
  intro pins s σ H xs us Q I r h
  obtain ⟨p, ys, rfl, hq, q⟩ := h
  obtain ⟨u, rfl, rx⟩ := vals1 r
  cases rx
  obtain ⟨its, r', pl, hz⟩ := I.list hq
  have hlen := r'.length
  refine call_tuple_list pl.isList (fun h' kp => ?_) (by simp only [List.size_toArray] <;> omega)
  have I1 : Inv X pins σ H { s with heap := h' } := I.kept (t' := s.toks) kp
  have I2 : Inv X pins σ (upd H h'.objs.size (.frz { cls := .type "tuple", data := .seq its.toArray } (.tup ys))) { s with heap := h'.push { cls := .type "tuple", data := .seq its.toArray } } :=
    I1.laid (t' := s.toks) (fun b o e => Heap.get?_push_of_some _ e) (Nat.le_refl _) (show ObjOk X.prog X.w _ _ _ (.frz _ (.tup ys)) from ⟨Heap.get?_push_size _ rfl, hz, its, r', IsTup.new _ _⟩)
  exact ⟨.ref h'.objs.size, _, I2, rfl, q _ _ (I1.hok.fresh (Nat.le_refl _)) rfl⟩
/-- dict(t) of a bare tuple of pairs -/
theorem call_dictB (hcalm : X.calm = true) : CallR X (.type "dict") (fun xs H Q => ∃ (a : Addr) (o : Obj) (ps : List Addr) (kvs : List (Key × V)), xs = [.ref a] ∧ H a = some (.frz o (.tup (ps.map V.ref))) ∧ o.dict = none ∧ Paired (fun p kv => SqT X.K H p [kV kv.1, kv.2]) ps kvs ∧
    ∀ p, H p = none → Q (.ref p) (upd H p (.dK (mergeK [] kvs)))) := by
  intro pins s σ H xs us Q I r q
  obtain ⟨a, o, ps, kvs, ex, hq, hd, hp, q⟩ := q
  subst ex
  obtain ⟨u, eu, rx⟩ := vals1 r
  subst eu
  cases rx
  obtain ⟨ho, hz, its, rv, o', ho', hc', n, hdat⟩ := (show ObjOk X.prog X.w H s.heap a (.frz o (.tup (ps.map V.ref))) from I.hok a _ hq)
  rw [ho] at ho'
  cases ho'
  have ei := refs_at rv
  subst ei
  rw [List.length_map] at hz
  obtain ⟨prs, rel, hl, hpr⟩ := pairs_of I hp
  have hu : ∀ j : Nat, ∃ u : Value, ∀ q' : Key × Value, prs[j]? = some q' → ∃ b, ps[j]? = some b ∧ IsTup s.heap b #[u, q'.2] ∧ keyIs q'.1 u = true := fun j => by
    cases e : prs[j]? with
    | none => exact ⟨.none, fun q' e' => by cases e'⟩
    | some q' =>
      obtain ⟨b, u, e1, e2, e3⟩ := hpr j q' e
      exact ⟨u, fun q'' e'' => by cases e''; exact ⟨b, e1, e2, e3⟩⟩
  have hch := fun j : Nat => Classical.choose_spec (hu j)
  obtain ⟨U, hU⟩ : ∃ U : Nat → Value, U = fun j => Classical.choose (hu j) := ⟨_, rfl⟩
  have hch : ∀ j, ∀ q' : Key × Value, prs[j]? = some q' → ∃ b, ps[j]? = some b ∧ IsTup s.heap b #[U j, q'.2] ∧ keyIs q'.1 (U j) = true := by rw [hU]; exact hch
  have zlen : (List.zipIdx prs).length = prs.length := List.length_zipIdx
  refine PySem.call_dict_pairs (knd := mixKind X.prog X.w) (kvs := prs) (PairArg.tuple a (ps.map Value.ref).toArray (fun j => ps.getD j 0) ((List.zipIdx prs).map fun p => (U p.2, p.1.2))) (I.ok.hd hcalm) ⟨⟨o, n, ho, hc', hd, hdat⟩, by simp [hl], fun j k v e => ?_⟩ ⟨by simp, fun i key v e => ?_⟩ (by simp [hl]; exact hz) fun h' tk hd' k => ?_
  · rw [List.getElem?_map, List.getElem?_zipIdx] at e
    cases e2 : prs[j]? with
    | none => rw [e2] at e; cases e
    | some q' =>
      rw [e2] at e
      simp only [Option.map_some, Option.some.injEq, Prod.mk.injEq, Nat.zero_add] at e
      obtain ⟨b, e3, e4, e5⟩ := hch j q' e2
      obtain ⟨rfl, rfl⟩ := e
      refine ⟨?_, .inl ?_⟩
      · simp [e3]
      · simp only [List.getD_eq_getElem?_getD, e3, Option.getD_some]; exact e4
  · have e : ((List.zipIdx prs).map fun p => (U p.2, p.1.2))[i]? = some (key, v) := e
    rw [List.getElem?_map, List.getElem?_zipIdx] at e
    cases e2 : prs[i]? with
    | none => rw [e2] at e; cases e
    | some q' =>
      rw [e2] at e
      simp only [Option.map_some, Option.some.injEq, Prod.mk.injEq, Nat.zero_add] at e
      obtain ⟨b, e3, e4, e5⟩ := hch i q' e2
      obtain ⟨rfl, rfl⟩ := e
      exact ⟨q'.1, rfl, e5⟩
  · have hm : (s.heap.objs.size == sysModules) = false := beq_eq_false_iff_ne.mpr (Nat.ne_of_gt I.big)
    have hlen : (mergeK [] kvs).length ≤ sizeLine := by
      refine Nat.le_trans (length_mergeK kvs []) ?_
      rw [List.length_nil, Nat.zero_add, rel.length, hl]
      exact hz
    exact ⟨.ref s.heap.objs.size, upd H s.heap.objs.size (.dK (mergeK [] kvs)), I.laid (t' := tk) (fun b o e => k b o (by simp) e) (Nat.le_refl _) (show ObjOk X.prog X.w _ _ _ (.dK (mergeK [] kvs)) from ⟨hlen, hm, merged [] prs, KV.merge rel .nil, hd'⟩), rfl, q _ (I.hok.fresh (Nat.le_refl _))⟩
end
def pairsD : List D → Option (List (Key × D))
  | [] => some []
  | .tup [k, d] :: r => (match keyD k, pairsD r with
    | some j, some l => some ((j, d) :: l)
    | _, _ => none)
  | _ :: _ => none
def mergeD (kvs : List (Key × D)) (acc : List Key × List D) : List Key × List D := kvs.foldl (fun a kv => putKD kv.1 kv.2 a.1 a.2) acc
inductive RKv (K : Kt) (ρ : List Addr) (F : Hp) : List (Key × D) → List (Key × V) → Prop
  | nil : RKv K ρ F [] []
  | cons {k : Key} {d : D} {v : V} {l : List (Key × D)} {m : List (Key × V)} : RV K ρ F d v → RKv K ρ F l m → RKv K ρ F ((k, d) :: l) ((k, v) :: m)
theorem pairsD_rel {K : Kt} {ρ : List Addr} {F H : Hp} (sm : Same F H) : ∀ {xs : List D} {vs : List V} {kvs : List (Key × D)}, RVs K ρ F xs vs → pairsD xs = some kvs → ∃ (ps : List Addr) (m : List (Key × V)), vs = ps.map V.ref ∧ Paired (fun p kv => SqT K.K H p [kV kv.1, kv.2]) ps m ∧ RKv K ρ F kvs m
  | _, _, _, .nil, e => by cases e; exact ⟨[], [], rfl, .nil, .nil⟩
  | _, _, kvs, @RVs.cons _ _ _ x xs y ys hx r, e => by
    cases hx with
    | tup h1 h2 =>
      cases h2 with
      | nil => simp [pairsD] at e
      | cons a1 t1 =>
        cases t1 with
        | nil => simp [pairsD] at e
        | cons a2 t2 =>
          cases t2 with
          | cons a3 t3 => simp [pairsD] at e
          | nil =>
            rename_i kd _ vd _
            unfold pairsD at e
            cases q1 : keyD kd with
            | none => rw [q1] at e; cases e
            | some j =>
              cases q2 : pairsD xs with
              | none => rw [q1, q2] at e; cases e
              | some l =>
                rw [q1, q2] at e
                cases e
                obtain ⟨ps, m, e1, e2, e3⟩ := pairsD_rel sm r q2
                have hk := keyD_of a1 q1
                subst hk
                exact ⟨_ :: ps, (j, _) :: m, by rw [e1]; rfl, .cons (sqT_same sm h1) e2, .cons a2 e3⟩
    | _ => simp [pairsD] at e
theorem mergeD_rel {K : Kt} {ρ : List Addr} {F : Hp} : ∀ {kvs : List (Key × D)} {m : List (Key × V)} {ks : List Key} {ds : List D} {vs : List V}, RKv K ρ F kvs m → RVs K ρ F ds vs → ks.length = vs.length → ∃ ws, RVs K ρ F (mergeD kvs (ks, ds)).2 ws ∧ (mergeD kvs (ks, ds)).1.length = ws.length ∧ mergeK (ks.zip vs) m = (mergeD kvs (ks, ds)).1.zip ws
  | _, _, _, _, vs, .nil, r, e => ⟨vs, r, e, rfl⟩
  | _, _, ks, ds, vs, @RKv.cons _ _ _ k d v l m hv t, r, e => by
    obtain ⟨ws, h1, h2, h3⟩ := putKD_rel (k := k) hv r e
    obtain ⟨us, g1, g2, g3⟩ := mergeD_rel t h1 h2
    refine ⟨us, g1, g2, ?_⟩
    show mergeK (putK (ks.zip vs) k v) m = _
    rw [h3]
    exact g3
def dictD (xs : List D) : Option (List Key × List D) := (pairsD xs).map fun kvs => mergeD kvs ([], [])
def hDict : FB := fun cs ds => match ds with
  | [.btp xs] => (match dictD xs with
    | some (ks, es) => .ok (.dct ks es) cs
    | none => .no)
  | [d] => (match lstOf cs d with
    | some xs => (match dictD xs with
      | some (ks, es) => .ok (.dct ks es) cs
      | none => .no)
    | none => .no)
  | _ => .no
def hTupleB : FB := fun cs ds => match ds with
  | [.btp xs] => .ok (.btp xs) cs
  | [d] => (match lstOf cs d with
    | some xs => .ok (.btp xs) cs
    | none => .no)
  | _ => .no
def rDictA (K : PySem.W.Frag) : List V → Hp → VK → Prop := fun xs H Q => (∃ (a : Addr) (ps : List Addr) (kvs : List (Key × V)), xs = [.ref a] ∧ SqL K H a (ps.map V.ref) ∧ Paired (fun p kv => SqT K H p [kV kv.1, kv.2]) ps kvs ∧ ∀ p, H p = none → Q (.ref p) (upd H p (.dK (mergeK [] kvs)))) ∨
  (∃ (a : Addr) (o : Obj) (ps : List Addr) (kvs : List (Key × V)), xs = [.ref a] ∧ H a = some (.frz o (.tup (ps.map V.ref))) ∧ o.dict = none ∧ Paired (fun p kv => SqT K H p [kV kv.1, kv.2]) ps kvs ∧ ∀ p, H p = none → Q (.ref p) (upd H p (.dK (mergeK [] kvs))))
def rTupB (K : PySem.W.Frag) : List V → Hp → VK → Prop := fun xs H Q => (∃ p ys, xs = [.ref p] ∧ SqL K H p ys ∧ ∀ l o, H l = none → o.dict = none → Q (.ref l) (upd H l (.frz o (.tup ys)))) ∨ (∃ p ys, xs = [.ref p] ∧ ((SqL K H p ys ∧ ∀ l, H l = none → Q (.ref l) (upd H l (.tup ys))) ∨ (SqT K H p ys ∧ Q (.ref p) H)))
section
variable {X : Cx} {G : Gx} {W : WX} {e : Expr} {es : List Expr} {g : Ax} {pos p : Pos}
theorem _root_.L2.CallR.or' {c : Value} {r1 r2 : List V → Hp → VK → Prop} (h1 : CallR X c r1) (h2 : CallR X c r2) : CallR X c (fun xs H Q => r1 xs H Q ∨ r2 xs H Q) := by
  intro pins s σ H xs us Q I r h
  rcases h with h | h
  · exact h1 pins s σ H xs us Q I r h
  · exact h2 pins s σ H xs us Q I r h
theorem call_dictA (hc : X.calm = true) : CallR X (.type "dict") (rDictA X.K) := CallR.or' (call_dictP hc) (call_dictB hc)
theorem call_tupBA : CallR X (.type "tuple") (rTupB X.K) := CallR.or' call_tupleB call_tuple_of
theorem dict_new {ρ : List Addr} {F : Hp} {st : S} {σ : L2.St} {H : Hp} {Q : VK} {xs : List D} {vs : List V} {ks : List Key} {es : List D} (r : Rel G ρ F st σ H) (rv : RVs G.K ρ F xs vs) (e : dictD xs = some (ks, es)) (po : Post RV G W ρ F st.env σ Q (.ok (.dct ks es) st.cs)) :
    ∃ (ps : List Addr) (kvs : List (Key × V)), vs = ps.map V.ref ∧ Paired (fun p kv => SqT G.K.K H p [kV kv.1, kv.2]) ps kvs ∧ ∀ p, H p = none → Q (.ref p) (upd H p (.dK (mergeK [] kvs))) := by
  unfold dictD at e
  cases q : pairsD xs with
  | none => rw [q] at e; cases e
  | some kvs =>
    rw [q] at e
    obtain ⟨ps, m, e1, e2, e3⟩ := pairsD_rel r.fz rv q
    obtain ⟨ws, w1, w2, w3⟩ := mergeD_rel (ks := []) (ds := []) (vs := []) e3 .nil rfl
    have e : mergeD kvs ([], []) = (ks, es) := Option.some.inj e
    rw [e] at w1 w2 w3
    refine ⟨ps, m, e1, e2, fun p hp => ?_⟩
    obtain ⟨x1, r1⟩ := r.fresh (o := .dK (mergeK [] m)) hp
    have w3 : mergeK [] m = ks.zip ws := w3
    exact po _ _ _ _ x1 r1 (.dct (by rw [← w3]; exact upd_same) w2 (w1.ext x1))
theorem vn_dict : VN G W (rDictA G.K.K) hDict := by
  intro ρ F st σ H ds vs Q r rv po
  unfold hDict at po
  split at po
  · rename_i xs
    cases rv with
    | cons h1 h2 =>
      cases h2
      cases h1 with
      | btp g1 g2 g3 =>
        cases q : dictD xs with
        | none => rw [q] at po; exact po.elim
        | some z =>
          obtain ⟨ks, es⟩ := z
          rw [q] at po
          obtain ⟨ps, kvs, e1, e2, e3⟩ := dict_new r g3 q po
          subst e1
          exact .inr ⟨_, _, ps, kvs, rfl, r.fz _ _ g1, g2, e2, e3⟩
  · rename_i d _
    cases rv with
    | cons h1 h2 =>
      cases h2
      cases q1 : lstOf st.cs d with
      | none => rw [q1] at po; exact po.elim
      | some xs =>
        rw [q1] at po
        obtain ⟨a2, ws, rfl, s2, r2⟩ := lst_read r h1 q1
        dsimp only at po
        cases q : dictD xs with
        | none => rw [q] at po; exact po.elim
        | some z =>
          obtain ⟨ks, es⟩ := z
          rw [q] at po
          obtain ⟨ps, kvs, e1, e2, e3⟩ := dict_new r r2 q po
          subst e1
          exact .inl ⟨_, ps, kvs, rfl, s2, e2, e3⟩
  · exact po.elim
theorem vn_tupleB : VN G W (rTupB G.K.K) hTupleB := by
  intro ρ F st σ H ds vs Q r rv po
  unfold hTupleB at po
  split at po
  · cases rv with
    | cons h1 h2 =>
      cases h2
      have h1' := h1
      cases h1 with
      | btp g1 g2 g3 => exact .inr ⟨_, _, rfl, .inr ⟨.inl (.inr ⟨_, r.fz _ _ g1⟩), po.here r h1'⟩⟩
  · rename_i d _
    cases rv with
    | cons h1 h2 =>
      cases h2
      cases q : lstOf st.cs d with
      | none => rw [q] at po; exact po.elim
      | some xs =>
        rw [q] at po
        obtain ⟨a2, ws, rfl, s2, r2⟩ := lst_read r h1 q
        refine .inl ⟨a2, ws, rfl, s2, fun l o hl ho => ?_⟩
        obtain ⟨x2, r3⟩ := r.fresh (o := .frz o (.tup ws)) hl
        exact po _ _ _ _ x2 r3 (.btp upd_same ho (r2.ext x2))
  · exact po.elim
theorem de_dict1 (hc : X.calm = true) (hK : X.K = G.K.K) (hg : Gl X "dict") (hm : X.mg "dict" = none) (ha : PA X (e :: es) (tAs G W g)) (he : starEach (e :: es) X.env = (false, eval e X.env) :: starEach es X.env := by rfl) (hpl : (backTo pos (starEach es X.env)).any (·.1) = false := by rfl) : PE X (.Call (.Name "dict" p) (e :: es) [] pos) (tE G W (eB hDict g)) :=
  de_callTy (call_dictA hc) (by rw [hK]; exact vn_dict) hg hm (by decide +kernel) ha (he := he) (hpl := hpl)
theorem de_tupleB (hK : X.K = G.K.K) (hg : Gl X "tuple") (hm : X.mg "tuple" = none) (ha : PA X (e :: es) (tAs G W g)) (he : starEach (e :: es) X.env = (false, eval e X.env) :: starEach es X.env := by rfl) (hpl : (backTo pos (starEach es X.env)).any (·.1) = false := by rfl) : PE X (.Call (.Name "tuple" p) (e :: es) [] pos) (tE G W (eB hTupleB g)) :=
  de_callTy call_tupBA (by rw [hK]; exact vn_tupleB) hg hm (by decide +kernel) ha (he := he) (hpl := hpl)
end
end VL
namespace VL
open PySem L2 PyProof.Rows
theorem units1 {k : Nat} {A : Around} (r : Room k A) : A.units + 1 < cLine := by
  have := r.un
  omega
end VL
namespace VL
open PySem L2
mutual
def eqN : NestedKey → NestedKey → Bool
  | .none, .none => true
  | .num i, .num j => i == j
  | .text x, .text y => sameStr x y
  | .tup a, .tup b => eqNs a b
  | _, _ => false
def eqNs : List NestedKey → List NestedKey → Bool
  | [], [] => true
  | a :: r, b :: t => eqN a b && eqNs r t
  | _, _ => false
end
mutual
theorem eqN_of : ∀ {a b : NestedKey}, eqN a b = true → a = b
  | .none, b, h => by cases b <;> first | rfl | simp [eqN] at h
  | .num i, b, h => by
    cases b with
    | num j => simp only [eqN, beq_iff_eq] at h; rw [h]
    | _ => simp [eqN] at h
  | .text x, b, h => by
    cases b with
    | text y => simp only [eqN, sameStr_eq, decide_eq_true_eq] at h; rw [h]
    | _ => simp [eqN] at h
  | .tup l, b, h => by
    cases b with
    | tup m => simp only [eqN] at h; rw [eqNs_of h]
    | _ => simp [eqN] at h
theorem eqNs_of : ∀ {a b : List NestedKey}, eqNs a b = true → a = b
  | [], b, h => by cases b <;> first | rfl | simp [eqNs] at h
  | x :: r, b, h => by
    cases b with
    | nil => simp [eqNs] at h
    | cons y t => simp only [eqNs, Bool.and_eq_true] at h; rw [eqN_of h.1, eqNs_of h.2]
end
mutual
theorem eqN_self : ∀ a : NestedKey, eqN a a = true
  | .none => by simp [eqN]
  | .num i => by simp [eqN]
  | .text x => by simp [eqN, sameStr_eq]
  | .tup l => by simp only [eqN]; exact eqNs_self l
theorem eqNs_self : ∀ a : List NestedKey, eqNs a a = true
  | [] => by simp [eqNs]
  | x :: r => by simp only [eqNs, eqN_self x, eqNs_self r, Bool.and_self]
end
theorem eqN_eq {a b : NestedKey} : eqN a b = decide (a = b) := by
  by_cases h : a = b
  · subst h; rw [eqN_self, decide_eq_true rfl]
  · rw [decide_eq_false h]
    cases e : eqN a b with
    | false => rfl
    | true => exact absurd (eqN_of e) h
mutual
inductive NV (K : PySem.W.Frag) (H : Hp) : V → NestedKey → Prop
  | non : NV K H .non .none
  | bl (b : Bool) : NV K H (.bl b) (.num (if b = true then 1 else 0))
  | int (i : Int) : NV K H (.int i) (.num i)
  | str (x : Str) : NV K H (.str x) (.text x)
  | tup {a : Addr} {vs : List V} {ks : List NestedKey} : SqT K H a vs → NVs K H vs ks → NV K H (.ref a) (.tup ks)
inductive NVs (K : PySem.W.Frag) (H : Hp) : List V → List NestedKey → Prop
  | nil : NVs K H [] []
  | cons {v : V} {k : NestedKey} {vs : List V} {ks : List NestedKey} : NV K H v k → NVs K H vs ks → NVs K H (v :: vs) (k :: ks)
end
mutual
theorem nv_of {K : Kt} {ρ : List Addr} {F H : Hp} (sm : Same F H) : ∀ {d : D} {v : V} {k : NestedKey}, RV K ρ F d v → nkD d = some k → NV K.K H v k
  | _, _, k, .non, e => by cases e; exact .non
  | _, _, k, .bl b, e => by cases e; exact .bl b
  | _, _, k, .int i, e => by cases e; exact .int i
  | _, _, k, .str x, e => by cases e; exact .str x
  | .tup ds, _, k, .tup h r, e => by
    have e : (nkDs ds).map NestedKey.tup = some k := by simpa [nkD] using e
    obtain ⟨l, e1, rfl⟩ := Option.map_eq_some_iff.mp e
    exact .tup (sqT_same sm h) (nvs_of sm r e1)
  | .btp ds, _, k, .btp h _ r, e => by
    have e : (nkDs ds).map NestedKey.tup = some k := by simpa [nkD] using e
    obtain ⟨l, e1, rfl⟩ := Option.map_eq_some_iff.mp e
    exact .tup (.inl (.inr ⟨_, sm _ _ h⟩)) (nvs_of sm r e1)
  | _, _, k, .lst _ _, e => by simp [nkD] at e
  | _, _, k, .frl _ _, e => by simp [nkD] at e
  | _, _, k, .obj _ _ _, e => by simp [nkD] at e
  | _, _, k, .dct _ _ _, e => by simp [nkD] at e
  | _, _, k, .dcn _ _ _ _ _, e => by simp [nkD] at e
  | _, _, k, .cls _, e => by simp [nkD] at e
  | _, _, k, .loc _, e => by simp [nkD] at e
theorem nvs_of {K : Kt} {ρ : List Addr} {F H : Hp} (sm : Same F H) : ∀ {ds : List D} {vs : List V} {ks : List NestedKey}, RVs K ρ F ds vs → nkDs ds = some ks → NVs K.K H vs ks
  | _, _, _, .nil, e => by simp [nkDs] at e; subst e; exact .nil
  | d :: ds, _, _, .cons h r, e => by
    unfold nkDs at e
    cases q1 : nkD d with
    | none => rw [q1] at e; cases e
    | some k =>
      cases q2 : nkDs ds with
      | none => rw [q1, q2] at e; cases e
      | some l =>
        rw [q1, q2] at e
        cases e
        exact .cons (nv_of sm h q1) (nvs_of sm r q2)
end
section
variable {X : Cx} {pins : List (Addr × Obj)} {σ : L2.St} {H : Hp} {s : Shared}
mutual
theorem nv_is (I : Inv X pins σ H s) : ∀ {v : V} {k : NestedKey} {u : Value}, NV X.K H v k → RelV v u → NestedIs s.heap k u
  | _, _, _, .non, r => by cases r; exact .none
  | _, _, _, .bl b, r => by cases r; exact .bool rfl
  | _, _, _, .int i, r => by obtain ⟨t, rfl⟩ := r; exact .int i t
  | _, _, _, .str x, r => by obtain ⟨t, rfl⟩ := r; exact .text x t
  | _, _, u, .tup (a := a) h n, r => by
    obtain rfl : u = Value.ref a := r
    obtain ⟨its, rv, ⟨o, h1, h2, m, h3⟩, _⟩ := I.tuple h
    exact .tup h1 h2 h3 (nvs_is I n rv)
theorem nvs_is (I : Inv X pins σ H s) : ∀ {vs : List V} {ks : List NestedKey} {us : List Value}, NVs X.K H vs ks → Vals vs us → NestedAll s.heap ks us
  | _, _, _, .nil, r => by cases r; exact .nil
  | _, _, _, .cons h t, r => by
    cases r with
    | cons r1 r2 => exact .cons (nv_is I h r1) (nvs_is I t r2)
end
/-- at a stands such a dict -/
structure DicN (K : PySem.W.Frag) (w : World) (H : Hp) (a : Addr) (nks : List NestedKey) (bs : List Addr) (vs : List V) : Prop where
  at_ : H a = some (dN w a nks bs vs)
  ok : DnOk a nks bs vs
  ks : NVs K H (bs.map V.ref) nks
def zip3 : List NestedKey → List Addr → List Value → List (NestedKey × Addr × Value)
  | k :: ks, b :: bs, u :: us => (k, b, u) :: zip3 ks bs us
  | _, _, _ => []
theorem zip3_ent {P : Program} {w : World} : ∀ {ks : List NestedKey} {bs : List Addr} {us : List Value}, entN w ks bs us = (zip3 ks bs us).map (entryOfKey (nestedKind P w))
  | [], _, _ => by cases ‹List Addr› <;> rfl
  | _ :: _, [], _ => rfl
  | _ :: _, _ :: _, [] => rfl
  | k :: ks, b :: bs, u :: us => by
    show _ :: entN w ks bs us = _ :: (zip3 ks bs us).map _
    rw [zip3_ent (P := P) (ks := ks) (bs := bs) (us := us)]
    rfl
theorem zip3_keys : ∀ {ks : List NestedKey} {bs : List Addr} {us : List Value}, bs.length = ks.length → us.length = ks.length → (zip3 ks bs us).map (·.1) = ks
  | [], _, _, _, _ => by cases ‹List Addr› <;> rfl
  | _ :: _, [], _, e, _ => by simp at e
  | _ :: _, _ :: _, [], _, e => by simp at e
  | k :: ks, b :: bs, u :: us, e1, e2 => by
    show k :: (zip3 ks bs us).map (·.1) = _
    rw [zip3_keys (by simpa using e1) (by simpa using e2)]
theorem zip3_is {h : Heap} {K : PySem.W.Frag} : ∀ {ks : List NestedKey} {bs : List Addr} {us : List Value}, NestedAll h ks (bs.map Value.ref) → (∀ k ∈ ks, k.depth ≤ 8) → ∀ x ∈ zip3 ks bs us, NestedIs h x.1 (.ref x.2.1) ∧ x.1.depth ≤ 8
  | [], _, _, _, _ => fun x hx => by cases ‹List Addr› <;> cases hx
  | _ :: _, [], _, _, _ => fun x hx => by cases hx
  | _ :: _, _ :: _, [], _, _ => fun x hx => by cases hx
  | k :: ks, b :: bs, u :: us, n, dp => fun x hx => by
    cases n with
    | cons n1 n2 =>
      rcases List.mem_cons.mp hx with rfl | hx
      · exact ⟨n1, dp k List.mem_cons_self⟩
      · exact zip3_is (K := K) n2 (fun j hj => dp j (List.mem_cons_of_mem _ hj)) x hx
theorem vals_refs : ∀ {bs : List Addr}, Vals (bs.map V.ref) (bs.map Value.ref)
  | [] => .nil
  | _ :: _ => .cons rfl vals_refs
/-- the kit's word for it -/
theorem DicN.heap (I : Inv X pins σ H s) {a : Addr} {nks : List NestedKey} {bs : List Addr} {vs : List V} (d : DicN X.K X.w H a nks bs vs) : ∃ us, Vals vs us ∧ s.heap.DictOfH (nestedKind X.prog X.w) a (zip3 nks bs us) := by
  obtain ⟨⟨o, es, ep, us, h1, h2, h3, h4, h5⟩, _, _⟩ := (show ObjOk X.prog X.w H s.heap a (dN X.w a nks bs vs) from I.hok a _ d.at_)
  have lu : us.length = nks.length := by rw [← h4.length]; exact d.ok.lv
  refine ⟨us, h4, o, es, ep, h1, h2, h3, by rw [h5]; exact zip3_ent, ?_, by rw [zip3_keys d.ok.lb lu]; exact d.ok.nd⟩
  exact zip3_is (K := X.K) (nvs_is I d.ks vals_refs) fun k hk => (d.ok.dp k hk).2
end
end VL
namespace VL
open PySem L2
def lookV (k : NestedKey) : List NestedKey → List V → Option V
  | j :: ks, v :: vs => if eqN j k then some v else lookV k ks vs
  | _, _ => none
def setVs (k : NestedKey) (y : V) : List NestedKey → List V → List V
  | j :: ks, v :: vs => (if eqN j k then y else v) :: setVs k y ks vs
  | _, _ => []
theorem atKey_zip {k : NestedKey} : ∀ {nks : List NestedKey} {bs : List Addr} {vs : List V} {us : List Value}, bs.length = nks.length → vs.length = nks.length → Vals vs us → (∀ v, lookV k nks vs = some v → ∃ b u, atKey (zip3 nks bs us) k = some (b, u) ∧ RelV v u) ∧ (lookV k nks vs = none → atKey (zip3 nks bs us) k = none)
  | [], bs, vs, us, e1, e2, r => by
    refine ⟨(fun v h => by simp [lookV] at h), fun _ => ?_⟩
    cases bs <;> rfl
  | j :: nks, [], _, _, e1, _, _ => by simp at e1
  | j :: nks, _ :: _, [], _, _, e2, _ => by simp at e2
  | j :: nks, b :: bs, v :: vs, _, e1, e2, .cons (b := u) (l₂ := us) r1 r2 => by
    obtain ⟨h1, h2⟩ := atKey_zip (k := k) (nks := nks) (bs := bs) (vs := vs) (us := us) (by simpa using e1) (by simpa using e2) r2
    have ez : zip3 (j :: nks) (b :: bs) (u :: us) = (j, b, u) :: zip3 nks bs us := rfl
    rw [ez]
    show (∀ v', (if eqN j k then some v else lookV k nks vs) = some v' → _) ∧ ((if eqN j k then some v else lookV k nks vs) = none → _)
    by_cases c : j = k
    · rw [eqN_eq, decide_eq_true c, if_pos rfl]
      exact ⟨fun v' h => by cases h; exact ⟨b, u, by simp [atKey, c], r1⟩, fun h => by cases h⟩
    · rw [eqN_eq, decide_eq_false c, if_neg (by simp)]
      have ea : atKey ((j, b, u) :: zip3 nks bs us) k = atKey (zip3 nks bs us) k := by simp [atKey, List.find?_cons, c]
      rw [ea]
      exact ⟨h1, h2⟩
theorem room9 {prog : Program} {w : World} {A : Around} (hu : A.units + 9 < cLine) : (nestedKind prog w).room A.in1 := by
  show A.units + 1 + 8 < cLine
  omega
theorem DicN.typ {X : Cx} {pins : List (Addr × Obj)} {σ : L2.St} {H : Hp} {s : Shared} (I : Inv X pins σ H s) {a : Addr} {nks : List NestedKey} {bs : List Addr} {vs : List V} (d : DicN X.K X.w H a nks bs vs) : s.TypeIs (.ref a) "dict" ∧ (∀ b, Value.ref a = .ref b → ∃ ob, s.heap.get? b = some ob ∧ ob.dict = none) := by
  obtain ⟨us, _, hx⟩ := d.heap I
  refine ⟨hx.typeIs, fun b q => ?_⟩
  cases q
  obtain ⟨ob, _, _, h1, h2, _⟩ := hx
  exact ⟨ob, h1, h2.2.1⟩
/-- the value b stands as the key k -/
structure KeyN (K : PySem.W.Frag) (H : Hp) (v : V) (b : Addr) (k : NestedKey) : Prop where
  is : v = .ref b
  nv : NV K H (.ref b) k
  dp : k.depth ≤ 8
section
variable {X : Cx} {o i e : Expr} {td ty : TE} {pos apos cpos : Pos}
/-- {} -/
def tNewN (w : World) : TE := fun _ H Q => ∀ p, H p = none → (p == sysModules) = false → Q (.ref p) (upd H p (dN w p [] [] []))
theorem pe_newN : PE X (.Dict [] [] pos) (tNewN X.w) := ⟨fun pins s σ H Q I h =>
  wpAny_Dict_empty ⟨.ref s.heap.objs.size, _, I.laid (a := s.heap.objs.size) (o := dN X.w s.heap.objs.size [] [] []) (t' := s.toks) (fun _ _ q => Heap.get?_push_of_some _ q) (Nat.le_refl _) ⟨⟨_, #[], 0, [], Heap.get?_push_size _ rfl, ⟨rfl, rfl, rfl⟩, rfl, .nil, rfl⟩, ⟨_, Heap.get?_push_size _ rfl⟩, fun h1 h2 ⟨o, es, ep, us, a1, a2, a3, a4, a5⟩ k => ⟨o, es, ep, us, k o a1, a2, a3, a4, a5⟩⟩, rfl, h _ (I.hok.fresh (Nat.le_refl _)) (beq_eq_false_iff_ne.mpr (Nat.ne_of_gt I.big))⟩⟩
end
end VL
namespace VL
open PySem L2
theorem map_put {k : NestedKey} {y : V} {r : Value} (ry : RelV y r) : ∀ {nks : List NestedKey} {bs : List Addr} {vs : List V} {us : List Value}, bs.length = nks.length → vs.length = nks.length → Vals vs us → ∃ us', Vals (setVs k y nks vs) us' ∧ (zip3 nks bs us).map (putAt k r) = zip3 nks bs us' ∧ (setVs k y nks vs).length = nks.length
  | [], bs, vs, us, e1, e2, h => by
    cases vs with
    | cons _ _ => simp at e2
    | nil => cases h; refine ⟨[], .nil, ?_, rfl⟩; cases bs <;> rfl
  | j :: nks, [], _, _, e1, _, _ => by simp at e1
  | j :: nks, _ :: _, [], _, _, e2, _ => by simp at e2
  | j :: nks, b :: bs, v :: vs, _, e1, e2, .cons (b := u) (l₂ := us) r1 r2 => by
    obtain ⟨us', h1, h2, h3⟩ := map_put ry (k := k) (nks := nks) (bs := bs) (vs := vs) (us := us) (by simpa using e1) (by simpa using e2) r2
    have ez : ∀ u us, zip3 (j :: nks) (b :: bs) (u :: us) = (j, b, u) :: zip3 nks bs us := fun _ _ => rfl
    have es : setVs k y (j :: nks) (v :: vs) = (if eqN j k then y else v) :: setVs k y nks vs := rfl
    rw [ez, es, List.map_cons, h2]
    by_cases c : j = k
    · rw [eqN_eq, decide_eq_true c, if_pos rfl]
      refine ⟨r :: us', .cons ry h1, ?_, by simp [h3]⟩
      rw [ez, show putAt k r (j, b, u) = (j, b, r) from by unfold putAt; rw [if_pos c]]
    · rw [eqN_eq, decide_eq_false c, if_neg (by simp)]
      refine ⟨u :: us', .cons r1 h1, ?_, by simp [h3]⟩
      rw [ez, show putAt k r (j, b, u) = (j, b, u) from by unfold putAt; rw [if_neg c]]
theorem zip3_snoc {k : NestedKey} {b : Addr} {r : Value} : ∀ {nks : List NestedKey} {bs : List Addr} {us : List Value}, bs.length = nks.length → us.length = nks.length → zip3 nks bs us ++ [(k, b, r)] = zip3 (nks ++ [k]) (bs ++ [b]) (us ++ [r])
  | [], bs, us, e1, e2 => by
    cases bs with
    | cons _ _ => simp at e1
    | nil => cases us with
      | cons _ _ => simp at e2
      | nil => rfl
  | j :: nks, [], _, e1, _ => by simp at e1
  | j :: nks, _ :: _, [], _, e2 => by simp at e2
  | j :: nks, c :: bs, u :: us, e1, e2 => by
    show (j, c, u) :: (zip3 nks bs us ++ _) = (j, c, u) :: zip3 (nks ++ [k]) (bs ++ [b]) (us ++ [r])
    rw [zip3_snoc (by simpa using e1) (by simpa using e2)]
theorem lookV_none {k : NestedKey} : ∀ {nks : List NestedKey} {vs : List V}, vs.length = nks.length → lookV k nks vs = none → k ∉ nks
  | [], _, _, _ => by simp
  | j :: nks, [], e, _ => by simp at e
  | j :: nks, v :: vs, e, h => by
    have h : (if eqN j k then some v else lookV k nks vs) = none := h
    by_cases c : j = k
    · rw [eqN_eq, decide_eq_true c, if_pos rfl] at h; cases h
    · rw [eqN_eq, decide_eq_false c, if_neg (by simp)] at h
      intro hm
      rcases List.mem_cons.mp hm with q | q
      · exact c q.symm
      · exact lookV_none (by simpa using e) h q
theorem dn_ok {P : Program} {w : World} {H : Hp} {h' : Heap} {a : Addr} {nks : List NestedKey} {bs : List Addr} {vs : List V} {us : List Value} (hv : Vals vs us) (hx : h'.DictOfH (nestedKind P w) a (zip3 nks bs us)) : ObjOk P w H h' a (dN w a nks bs vs) := by
  obtain ⟨o, es, ep, h1, h2, h3, h4, _, _⟩ := hx
  exact ⟨⟨o, es, ep, us, h1, h2, h3, hv, by rw [h4]; exact zip3_ent.symm⟩, ⟨o, h1⟩, fun g1 g2 ⟨o, es, ep, us, a1, a2, a3, a4, a5⟩ k => ⟨o, es, ep, us, k o a1, a2, a3, a4, a5⟩⟩
def rSetN (K : PySem.W.Frag) (w : World) (o i v : V) (H : Hp) (Q : Hp → Prop) : Prop := ∃ b k a nks bs vs, KeyN K H i b k ∧ o = .ref a ∧ DicN K w H a nks bs vs ∧ nks.length < 16777216 ∧ ((lookV k nks vs).isSome = true → Q (upd H a (dN w a nks bs (setVs k v nks vs)))) ∧ (lookV k nks vs = none → Q (upd H a (dN w a (nks ++ [k]) (bs ++ [b]) (vs ++ [v]))))
section
variable {X : Cx}
theorem set_N (hu : X.A.units + 9 < cLine) : PSet X (rSetN X.K X.w) := by
  intro pins s σ H o i v ov iv r Q I ro ri rv h
  obtain ⟨b, k, a, nks, bs, vs, hk, rfl, d, hl, q1, q2⟩ := h
  obtain ⟨rfl, nv, dp⟩ := hk
  cases (show ov = Value.ref a from ro)
  cases (show iv = Value.ref b from ri)
  obtain ⟨us, hv, hx⟩ := d.heap I
  have lu : us.length = nks.length := by rw [← hv.length]; exact d.ok.lv
  have lz : (zip3 nks bs us).length = nks.length := by
    have := congrArg List.length (zip3_keys d.ok.lb lu)
    rwa [List.length_map] at this
  obtain ⟨h1, h2⟩ := atKey_zip (k := k) d.ok.lb d.ok.lv hv
  have mu : Mut (H a) := by rw [d.at_]; exact True.intro
  refine wpAny_setItem_heap (hsz := by rw [lz, sizeLine_eq]; omega) (room9 hu) ⟨nv_is I nv rfl, dp⟩ hx fun h' hm' hs => ?_
  have he : ∃ q, h'.get? a = some q := let ⟨q, _, _, hq, _⟩ := hm'; ⟨q, hq⟩
  cases ql : lookV k nks vs with
  | some v0 =>
    obtain ⟨b', u', e1, _⟩ := h1 v0 ql
    rw [storedH_old e1] at hm'
    obtain ⟨us', g1, g2, _⟩ := map_put (k := k) rv d.ok.lb d.ok.lv hv
    rw [g2] at hm'
    exact ⟨_, d_write I mu hs he (dn_ok g1 hm'), q1 (by rw [ql]; rfl)⟩
  | none =>
    rw [storedH_new (h2 ql), zip3_snoc d.ok.lb lu] at hm'
    exact ⟨_, d_write I mu hs he (dn_ok (hv.append (.cons rv .nil)) hm'), q2 ql⟩
end
def eqKD (j : D) (k : NestedKey) : Bool := match nkD j with
  | some n => eqN n k
  | none => false
def lookN (k : NestedKey) : List D → List D → Option D
  | j :: ks, d :: ds => if eqKD j k then some d else lookN k ks ds
  | _, _ => none
def setN (k : NestedKey) (y : D) : List D → List D → List D
  | j :: ks, d :: ds => (if eqKD j k then y else d) :: setN k y ks ds
  | _, _ => []
def dcnOf (cs : List Cell) : D → Option (List D × List D)
  | .dcn ks ds => some (ks, ds)
  | .loc n => match cs[n]? with
    | some (.dn ks ds) => some (ks, ds)
    | _ => none
  | _ => none
/-- a tuple as a key -/
def nkT (d : D) : Option NestedKey := match nkD d with
  | some (.tup l) => if (NestedKey.tup l).depth ≤ 8 then some (.tup l) else none
  | _ => none
theorem nkT_of {d : D} {k : NestedKey} (h : nkT d = some k) : nkD d = some k ∧ (∃ l, k = .tup l) ∧ k.depth ≤ 8 := by
  unfold nkT at h
  split at h
  · rename_i l e
    by_cases c : (NestedKey.tup l).depth ≤ 8
    · rw [if_pos c] at h; cases h; exact ⟨e, ⟨l, rfl⟩, c⟩
    · rw [if_neg c] at h; cases h
  · cases h
theorem nkDs_cons {j : D} {ks : List D} {nks : List NestedKey} (h : nkDs (j :: ks) = some nks) : ∃ n l, nks = n :: l ∧ nkD j = some n ∧ nkDs ks = some l := by
  unfold nkDs at h
  cases q1 : nkD j with
  | none => rw [q1] at h; cases h
  | some n =>
    cases q2 : nkDs ks with
    | none => rw [q1, q2] at h; cases h
    | some l => rw [q1, q2] at h; cases h; exact ⟨n, l, rfl, rfl, rfl⟩
theorem look_relN {K : Kt} {ρ : List Addr} {F : Hp} {k : NestedKey} : ∀ {ks : List D} {nks : List NestedKey} {ds : List D} {vs : List V}, nkDs ks = some nks → RVs K ρ F ds vs → (∀ d, lookN k ks ds = some d → ∃ v, lookV k nks vs = some v ∧ RV K ρ F d v) ∧ (lookN k ks ds = none → lookV k nks vs = none)
  | [], nks, ds, vs, e, r => by
    simp [nkDs] at e
    subst e
    exact ⟨(fun d h => by simp [lookN] at h), fun _ => by simp [lookV]⟩
  | j :: ks, nks, _, _, e, .nil => by
    obtain ⟨n, l, rfl, _, _⟩ := nkDs_cons e
    exact ⟨(fun d h => by simp [lookN] at h), fun _ => by simp [lookV]⟩
  | j :: ks, nks, _, _, e, @RVs.cons _ _ _ x xs y ys hx r => by
    obtain ⟨n, l, rfl, e1, e2⟩ := nkDs_cons e
    obtain ⟨h1, h2⟩ := look_relN (k := k) e2 r
    have ek : eqKD j k = eqN n k := by unfold eqKD; rw [e1]
    show (∀ d, (if eqKD j k then some x else lookN k ks xs) = some d → ∃ v, (if eqN n k then some y else lookV k l ys) = some v ∧ _) ∧ ((if eqKD j k then some x else lookN k ks xs) = none → (if eqN n k then some y else lookV k l ys) = none)
    rw [ek]
    by_cases c : eqN n k = true
    · rw [if_pos c, if_pos c]
      exact ⟨fun d h => by cases h; exact ⟨y, rfl, hx⟩, fun h => by cases h⟩
    · rw [if_neg c, if_neg c]
      exact ⟨h1, h2⟩
theorem set_relN {K : Kt} {ρ : List Addr} {F : Hp} {k : NestedKey} {z : D} {w : V} (hz : RV K ρ F z w) : ∀ {ks : List D} {nks : List NestedKey} {ds : List D} {vs : List V}, nkDs ks = some nks → RVs K ρ F ds vs → RVs K ρ F (setN k z ks ds) (setVs k w nks vs)
  | [], nks, ds, vs, e, r => by
    simp [nkDs] at e
    subst e
    simp only [setN, setVs]
    exact .nil
  | j :: ks, nks, _, _, e, .nil => by
    obtain ⟨n, l, rfl, _, _⟩ := nkDs_cons e
    simp only [setN, setVs]
    exact .nil
  | j :: ks, nks, _, _, e, @RVs.cons _ _ _ x xs y ys hx r => by
    obtain ⟨n, l, rfl, e1, e2⟩ := nkDs_cons e
    have ek : eqKD j k = eqN n k := by unfold eqKD; rw [e1]
    show RVs K ρ F ((if eqKD j k then z else x) :: setN k z ks xs) ((if eqN n k then w else y) :: setVs k w l ys)
    rw [ek]
    by_cases c : eqN n k = true
    · rw [if_pos c, if_pos c]; exact .cons hz (set_relN hz e2 r)
    · rw [if_neg c, if_neg c]; exact .cons hx (set_relN hz e2 r)
theorem setVs_len {k : NestedKey} {w : V} : ∀ {nks : List NestedKey} {vs : List V}, vs.length = nks.length → (setVs k w nks vs).length = nks.length
  | [], vs, e => by cases vs <;> simp_all [setVs]
  | j :: nks, [], e => by simp at e
  | j :: nks, v :: vs, e => by
    show ((if eqN j k then w else v) :: setVs k w nks vs).length = _
    rw [List.length_cons, setVs_len (by simpa using e), List.length_cons]
theorem nkDs_snoc {d : D} {k : NestedKey} (hk : nkD d = some k) : ∀ {ks : List D} {nks : List NestedKey}, nkDs ks = some nks → nkDs (ks ++ [d]) = some (nks ++ [k])
  | [], nks, e => by simp [nkDs] at e; subst e; simp [nkDs, hk]
  | j :: ks, nks, e => by
    obtain ⟨n, l, rfl, e1, e2⟩ := nkDs_cons e
    show nkDs (j :: (ks ++ [d])) = _
    unfold nkDs
    rw [e1, nkDs_snoc hk e2]
    rfl
section
variable {G : Gx} {W : WX}
theorem dcn_read {ρ : List Addr} {F : Hp} {st : S} {σ : L2.St} {H : Hp} {x : D} {v : V} {ks ds : List D} (r : Rel G ρ F st σ H) (h : RV G.K ρ F x v) (e : dcnOf st.cs x = some (ks, ds)) : ∃ a nks bs vs, v = .ref a ∧ nkDs ks = some nks ∧ DicN G.K.K G.K.w H a nks bs vs ∧ RVs G.K ρ F ds vs := by
  cases h with
  | dcn h1 h2 h3 h4 h5 => cases e; exact ⟨_, _, _, _, rfl, h2, ⟨r.fz _ _ h1, h3, nvs_of r.fz h4 h2⟩, h5⟩
  | loc h1 =>
    rename_i n a
    unfold dcnOf at e
    simp only at e
    cases q : st.cs[n]? with
    | none => rw [q] at e; cases e
    | some c =>
      rw [q] at e
      cases c with
      | dn ks' ds' =>
        cases e
        obtain ⟨nks, bs, vs, h2, h3, h4, h5, h6⟩ := r.cell n _ a q h1
        exact ⟨a, nks, bs, vs, rfl, h3, ⟨h2, h4, nvs_of r.fz h5 h3⟩, h6⟩
      | _ => cases e
  | _ => cases e
theorem key_read {ρ : List Addr} {F : Hp} {st : S} {σ : L2.St} {H : Hp} {x : D} {v : V} {k : NestedKey} (r : Rel G ρ F st σ H) (h : RV G.K ρ F x v) (e : nkT x = some k) : ∃ b, KeyN G.K.K H v b k := by
  obtain ⟨e1, ⟨l, rfl⟩, dp⟩ := nkT_of e
  have n := nv_of r.fz h e1
  cases n with
  | tup s n => exact ⟨_, rfl, .tup s n, dp⟩
end
end VL
namespace VL
open PySem L2
def eNewN : Ex := fun st => .ok (.loc st.cs.length) (st.cs ++ [.dn [] []])
def setKN (o k v : D) (st : S) : SOut := match o, nkT k with
  | .loc n, some kk => (match st.cs[n]? with
    | some (.dn ks ds) => if ks.length < 16777216 then (match lookN kk ks ds with
      | some _ => .nx ⟨st.env, st.cs.set n (.dn ks (setN kk v ks ds))⟩
      | none => .nx ⟨st.env, st.cs.set n (.dn (ks ++ [k]) (ds ++ [v]))⟩) else .no
    | _ => .no)
  | _, _ => .no
def sSetKN (fv fo fi : Ex) : Sx := fun st => thenS (fv st) st.env fun v st1 => thenS (fo st1) st1.env fun o st2 => thenS (fi st2) st2.env fun k st3 => setKN o k v st3
theorem units9 {k : Nat} {A : Around} (r : Room k A) : A.units + 9 < cLine := by
  have := r.un
  omega
theorem nkDs_len : ∀ {ks : List D} {nks : List NestedKey}, nkDs ks = some nks → nks.length = ks.length
  | [], nks, e => by simp [nkDs] at e; subst e; rfl
  | j :: ks, nks, e => by
    obtain ⟨n, l, rfl, _, e2⟩ := nkDs_cons e
    simp [nkDs_len e2]
section
variable {X : Cx} {G : Gx} {W : WX} {a b e o i : Expr} {fa fb fo fe : Ex} {pos apos cpos : Pos}
theorem look_isSome {K : Kt} {ρ : List Addr} {F : Hp} {k : NestedKey} {ks : List D} {nks : List NestedKey} {ds : List D} {vs : List V} (e : nkDs ks = some nks) (r : RVs K ρ F ds vs) : (lookN k ks ds).isSome = (lookV k nks vs).isSome := by
  obtain ⟨h1, h2⟩ := look_relN (k := k) e r
  cases q : lookN k ks ds with
  | none => rw [h2 q]; rfl
  | some d => obtain ⟨v, e, _⟩ := h1 d q; rw [e]; rfl
theorem de_newN (hw : X.w = G.K.w) : PE X (.Dict [] [] pos) (tE G W eNewN) := by
  refine pe_newN.impV ?_
  rintro σ H Q ⟨ρ, F, st, r, p⟩
  intro q hq hs
  rw [hw]
  obtain ⟨x2, r2⟩ := r.cellNew (p := q) (o := dN G.K.w q [] [] []) (c := .dn [] []) hq ⟨[], [], [], upd_same, by simp [nkDs], ⟨by simp, hs, by simp, rfl, rfl, fun k hk => by cases hk⟩, .nil, .nil⟩
  refine p _ _ _ _ x2 r2 (.loc ?_)
  rw [← r.cl, List.getElem?_append_right (Nat.le_refl _), Nat.sub_self]
  rfl
theorem RVs.snoc {K : Kt} {ρ : List Addr} {F : Hp} {ds : List D} {vs : List V} {d : D} {v : V} (r : RVs K ρ F ds vs) (h : RV K ρ F d v) : RVs K ρ F (ds ++ [d]) (vs ++ [v]) := r.append (RVs.one h)
variable {ρ : List Addr} {F : Hp} {st : S} {σ : L2.St} {H : Hp} {E : Ends}
theorem setKN_of {o k d : D} {ov kv v : V} (r : Rel G ρ F st σ H) (h1 : RV G.K ρ F o ov) (h2 : RV G.K ρ F k kv) (h3 : RV G.K ρ F d v) (p : SPost G W ρ F E (setKN o k d st)) : rSetN G.K.K G.K.w ov kv v H fun H3 => E.nx σ H3 := by
  unfold setKN at p
  cases h1 with
  | @loc n a0 h1 =>
    cases q1 : nkT k with
    | none => simp only [q1] at p; exact p.elim
    | some kk =>
      simp only [q1] at p
      obtain ⟨bb, hk⟩ := key_read r h2 q1
      obtain ⟨ek, ⟨l, el⟩, dp⟩ := nkT_of q1
      cases q : st.cs[n]? with
      | none => simp only [q] at p; exact p.elim
      | some c0 =>
        cases c0 with
        | dn ks ds =>
          simp only [q] at p
          obtain ⟨nks, bs, vs, g1, g2, g3, g4, g5⟩ := r.cell n _ _ q h1
          have dN0 : DicN G.K.K G.K.w H a0 nks bs vs := ⟨g1, g3, nvs_of r.fz g4 g2⟩
          have ln := nkDs_len g2
          by_cases c : ks.length < 16777216
          · rw [if_pos c] at p
            obtain ⟨l1, l2⟩ := look_relN (k := kk) g2 g5
            refine ⟨bb, kk, a0, nks, bs, vs, hk, rfl, dN0, by rw [ln]; exact c, fun hs => ?_, fun hn => ?_⟩
            · rw [← look_isSome g2 g5] at hs
              cases q3 : lookN kk ks ds with
              | none => rw [q3] at hs; cases hs
              | some dv =>
                simp only [q3] at p
                exact p ρ F σ _ Ext.refl (r.cellSet (c := .dn ks (setN kk d ks ds)) h1 ⟨nks, bs, _, upd_same, g2, ⟨g3.nd, g3.sm, g3.le, g3.lb, setVs_len g3.lv, g3.dp⟩, g4, set_relN h3 g2 g5⟩)
            · cases q3 : lookN kk ks ds with
              | some dv => obtain ⟨u, e2, _⟩ := l1 dv q3; rw [e2] at hn; cases hn
              | none =>
                simp only [q3] at p
                have nin := lookV_none g3.lv hn
                have hkk := hk.is
                subst hkk
                refine p ρ F σ _ Ext.refl (r.cellSet (c := .dn (ks ++ [k]) (ds ++ [d])) h1 ⟨nks ++ [kk], bs ++ [bb], vs ++ [v], upd_same, nkDs_snoc ek g2, ⟨?_, g3.sm, ?_, ?_, ?_, ?_⟩, ?_, g5.snoc h3⟩)
                · rw [List.nodup_append]
                  exact ⟨g3.nd, by simp, fun x hx y hy => by rw [List.mem_singleton.mp hy]; exact fun e => nin (e ▸ hx)⟩
                · rw [List.length_append]; simp; omega
                · simp [g3.lb]
                · simp [g3.lv]
                · intro x hx
                  rcases List.mem_append.mp hx with hx | hx
                  · exact g3.dp x hx
                  · rw [List.mem_singleton.mp hx]; exact ⟨⟨l, el⟩, dp⟩
                · rw [List.map_append]; exact g4.snoc h2
          · rw [if_neg c] at p
            exact p.elim
        | lst _ => simp only [q] at p; exact p.elim
        | dk _ _ => simp only [q] at p; exact p.elim
        | tbl _ _ => simp only [q] at p; exact p.elim
        | ins _ _ _ => simp only [q] at p; exact p.elim
  | _ => exact p.elim
theorem ds_setKN {fv fi : Ex} {k v : Expr} {spos : Pos} (hK : X.K = G.K.K) (hw : X.w = G.K.w) (hu : X.A.units + 9 < cLine) (hv : PE X v (tE G W fv)) (ho : PE X o (tE G W fo)) (hi : PE X k (tE G W fi))
    (ha : ∀ u, assign (.Subscript o k spos) X.env u = (do
      let ov ← holding [u] (eval o X.env)
      let iv ← holding [u, ov] (eval k X.env)
      standAt spos
      holding [u, ov, iv] (setItem ov iv u)
      release [u, ov, iv] []) := by intro _; rfl)
    (hs : swapsWithSole [.Subscript o k spos] v pos.line X.env = pure false := by rfl) (hw2 : swappedStores [.Subscript o k spos] v X.env = pure none := by rfl) (h1 : (assignEach [.Subscript o k spos] X.env).map (·.2) = [assign (.Subscript o k spos) X.env] := by rfl) :
    PS X (.Assign [.Subscript o k spos] v pos) (tS G W (sSetKN fv fo fi)) :=
  (ps_asg hv (pg_sub ho hi (set_N hu) ha) hs hw2 h1).impV fun D σ H ⟨ρ, F, st, r, p⟩ => seqS (f := fv) r p fun ρ1 F1 H1 x c1 v x1 r1 rv1 p1 => seqS (st := ⟨st.env, c1⟩) (f := fo) r1 p1 fun ρ2 F2 H2 o c2 ov x2 r2 rv2 p2 => seqS (st := ⟨st.env, c2⟩) (f := fi) r2 p2 fun ρ3 F3 H3 k c3 kv x3 r3 rv3 p3 => by
    rw [hK, hw]
    exact setKN_of (st := ⟨st.env, c3⟩) r3 (rv2.ext x3) rv3 ((rv1.ext x2).ext x3) p3
end
end VL
namespace VL
open PySem L2 PyProof.Rows
end VL
namespace VL
open PySem L2 PyProof.Rows PySem.W
section
variable {α : Type} (le : α → α → Bool)
def insO (x : α) : List α → List α
  | [] => [x]
  | y :: ys => if le x y then x :: y :: ys else y :: insO x ys
def isort : List α → List α
  | [] => []
  | x :: xs => insO le x (isort xs)
variable {le}
theorem insO_mem {x z : α} : ∀ {ys : List α}, z ∈ insO le x ys → z = x ∨ z ∈ ys
  | [], h => by simp [insO] at h; exact .inl h
  | y :: ys, h => by
    unfold insO at h
    split at h
    · rcases List.mem_cons.mp h with h | h
      · exact .inl h
      · exact .inr h
    · rcases List.mem_cons.mp h with h | h
      · exact .inr (h ▸ List.mem_cons_self)
      · rcases insO_mem h with q | q
        · exact .inl q
        · exact .inr (List.mem_cons_of_mem _ q)
theorem insO_pw (T : TotalLe le) {x : α} : ∀ {ys : List α}, ys.Pairwise (fun a b => le a b = true) → (insO le x ys).Pairwise (fun a b => le a b = true)
  | [], _ => by simp [insO]
  | y :: ys, h => by
    obtain ⟨h1, h2⟩ := List.pairwise_cons.mp h
    unfold insO
    by_cases c : le x y = true
    · rw [if_pos c]
      refine List.pairwise_cons.mpr ⟨fun z hz => ?_, h⟩
      rcases List.mem_cons.mp hz with q | q
      · rw [q]; exact c
      · exact T.trans _ _ _ c (h1 z q)
    · rw [if_neg c]
      refine List.pairwise_cons.mpr ⟨fun z hz => ?_, insO_pw T h2⟩
      rcases insO_mem hz with q | q
      · rw [q]; exact (T.total x y).resolve_left c
      · exact h1 z q
theorem isort_pw (T : TotalLe le) : ∀ xs : List α, (isort le xs).Pairwise (fun a b => le a b = true)
  | [] => .nil
  | x :: xs => insO_pw T (isort_pw T xs)
theorem insO_filter (T : TotalLe le) {x c : α} : ∀ {ys : List α}, (insO le x ys).filter (sameRank le c) = (x :: ys).filter (sameRank le c)
  | [] => rfl
  | y :: ys => by
    unfold insO
    by_cases h : le x y = true
    · rw [if_pos h]
    · rw [if_neg h]
      rw [List.filter_cons, insO_filter T, List.filter_cons, List.filter_cons (x := x) (xs := y :: ys), List.filter_cons]
      by_cases cx : sameRank le c x = true
      · have cy : sameRank le c y = false := by
          cases q : sameRank le c y with
          | false => rfl
          | true =>
            unfold sameRank at cx q
            rw [Bool.and_eq_true] at cx q
            exact absurd (T.trans _ _ _ cx.2 q.1) h
        rw [cx, cy]
        simp
      · have cx : sameRank le c x = false := by simpa using cx
        rw [cx]
        simp
theorem isort_filter (T : TotalLe le) (c : α) : ∀ xs : List α, (isort le xs).filter (sameRank le c) = xs.filter (sameRank le c)
  | [] => rfl
  | x :: xs => by
    show (insO le x (isort le xs)).filter _ = _
    rw [insO_filter T, List.filter_cons, List.filter_cons, isort_filter T c xs]
theorem isort_eq (T : TotalLe le) (xs : List α) : isort le xs = xs.mergeSort le := sort_unique T (isort_pw T xs) fun c => isort_filter T c xs
end
section
variable {X : Cx}
def rSortG (K : PySem.W.Frag) : List V → Hp → VK → Prop := fun us H Q => ∃ (c : Addr) (bs : List (V × PyData)), us = [.ref c] ∧ SqL K H c (bs.map Prod.fst) ∧ (∀ b ∈ bs, Dp K H b.1 b.2) ∧ AllAlike (bs.map Prod.snd) ∧ Sortable (bs.map Prod.snd) ∧ (∀ b ∈ bs, b.2.depth ≤ 60) ∧
  ∀ p, H p = none → Q (.ref p) (upd H p (.lst ((bs.mergeSort (dataLe false Prod.snd)).map Prod.fst)))
theorem each_reads {pins : List (Addr × Obj)} {σ : L2.St} {H : Hp} {s : Shared} (I : Inv X pins σ H s) : ∀ {bs : List (V × PyData)} {its : List Value}, Vals (bs.map Prod.fst) its → (∀ b ∈ bs, Dp X.K H b.1 b.2) → EachIs (fun (u : Value) (b : V × PyData) => RelV b.1 u) its bs ∧ EachIs (fun (u : Value) (b : V × PyData) => ∃ as, Reads s.heap u b.2 as) its bs
  | [], _, r, _ => by cases r; exact ⟨.nil, .nil⟩
  | b :: bs, _, r, h => by
    cases r with
    | cons r1 r2 =>
      obtain ⟨h1, h2⟩ := each_reads I r2 fun z hz => h z (List.mem_cons_of_mem _ hz)
      exact ⟨.cons r1 h1, .cons (Dp.reads I _ _ _ (h b List.mem_cons_self) r1) h2⟩
theorem vals_each : ∀ {bs : List (V × PyData)} {out : List Value}, EachIs (fun (u : Value) (b : V × PyData) => RelV b.1 u) out bs → Vals (bs.map Prod.fst) out
  | _, _, .nil => .nil
  | _, _, .cons h t => .cons h (vals_each t)
theorem cr_sortG (hu : X.A.units + 65 < cLine) : CallR X (.builtin "sorted") (rSortG X.K) := by
  intro pins s σ H vs us Q I r h
  obtain ⟨c, bs, rfl, hs, hd, hal, hk, hdep, q⟩ := h
  obtain ⟨its, rv, hl, hz⟩ := I.list hs
  rw [Vals.ref1 r]
  obtain ⟨e1, e2⟩ := each_reads I rv hd
  rw [List.length_map] at hz
  refine sorted_data (β := V × PyData) (enc := Prod.snd) hl.isList e1 e2 hal hk hz (fun b hb => ?_) fun out ho he => ?_
  · have := hdep b hb
    omega
  · obtain ⟨ep, hat⟩ := PyProof.Rows.sortedAll_at s.heap its out.toArray
    have hlen : ((bs.mergeSort (dataLe false Prod.snd)).map Prod.fst).length ≤ sizeLine := by
      rw [List.length_map, List.length_mergeSort]
      exact hz
    exact ⟨.ref _, upd H (s.heap.objs.size + 1) (.lst ((bs.mergeSort (dataLe false Prod.snd)).map Prod.fst)), I.laid (t' := s.toks) (fun _ _ => PyProof.Rows.sortedAll_old) (Nat.le_succ _) ⟨hlen, out, ep, vals_each he, hat⟩, rfl, q _ (I.hok.fresh (Nat.le_succ _))⟩
end
def alikeRow (ps : List PyData) : Bool := ps.all fun a => ps.all fun b => alike a b
def sortableB (ps : List PyData) : Bool := (ps.all fun d => match d with | .tuple (_ :: _) => true | _ => false) || ps.all fun d => match d with | .none => false | .tuple _ => false | _ => true
theorem sortable_of {ps : List PyData} (h : sortableB ps = true) : Sortable ps := by
  unfold sortableB at h
  rw [Bool.or_eq_true] at h
  rcases h with h | h
  · refine .inl fun d hd => ?_
    have := List.all_eq_true.mp h d hd
    split at this
    · exact ⟨_, _, rfl⟩
    · cases this
  · refine .inr fun d hd => ?_
    have := List.all_eq_true.mp h d hd
    split at this
    · cases this
    · cases this
    · rename_i h1 h2
      exact ⟨h1, h2⟩
def leD (a b : D) : Bool := dataLe false py a b
def sortG (xs : List D) : List D := isort leD xs
def hSortG : FB := fun cs ds => match ds with
  | [d] => (match lstOf cs d with
    | some xs => if plains xs && alikeRow (pys xs) && sortableB (pys xs) && (pys xs).all (fun p => decide (p.depth ≤ 60)) then .ok (.lst (sortG xs)) cs else .no
    | none => .no)
  | _ => .no
theorem pys_map : ∀ (xs : List D), pys xs = xs.map py
  | [] => rfl
  | x :: xs => by rw [List.map_cons, ← pys_map xs]; rfl
theorem plains_mem : ∀ {xs : List D}, plains xs = true → ∀ x ∈ xs, plain x = true
  | x :: xs, h, z, hz => by
    simp only [plains, Bool.and_eq_true] at h
    rcases List.mem_cons.mp hz with q | q
    · rw [q]; exact h.1
    · exact plains_mem h.2 z q
theorem leD_total : TotalLe leD := sortLe_total (listOrd itemOrd) false fun d => keyToks (py d)
theorem zip_rvs {K : Kt} {ρ : List Addr} {F : Hp} : ∀ {zs : List (V × D)}, (∀ z ∈ zs, RV K ρ F z.2 z.1) → RVs K ρ F (zs.map Prod.snd) (zs.map Prod.fst)
  | [], _ => .nil
  | z :: zs, h => .cons (h z List.mem_cons_self) (zip_rvs fun y hy => h y (List.mem_cons_of_mem _ hy))
theorem rvs_zip {K : Kt} {ρ : List Addr} {F : Hp} : ∀ {xs : List D} {vs : List V}, RVs K ρ F xs vs → ∃ zs : List (V × D), zs.map Prod.snd = xs ∧ zs.map Prod.fst = vs ∧ ∀ z ∈ zs, RV K ρ F z.2 z.1
  | _, _, .nil => ⟨[], rfl, rfl, fun z hz => by cases hz⟩
  | _, _, .cons (d := d) (v := v) h t => by
    obtain ⟨zs, h1, h2, h3⟩ := rvs_zip t
    refine ⟨(v, d) :: zs, by simp [h1], by simp [h2], fun z hz => ?_⟩
    rcases List.mem_cons.mp hz with q | q
    · rw [q]; exact h
    · exact h3 z q
section
variable {X : Cx} {G : Gx} {W : WX} {e : Expr} {es : List Expr} {g : Ax} {pos p : Pos}
theorem vn_sortG : VN G W (rSortG G.K.K) hSortG := by
  intro ρ F st σ H ds vs Q r rv po
  unfold hSortG at po
  split at po
  · rename_i d
    cases rv with
    | cons h1 h2 =>
      cases h2
      cases q : lstOf st.cs d with
      | none => rw [q] at po; exact po.elim
      | some xs =>
        rw [q] at po
        obtain ⟨c, ws, rfl, hsq, rvs⟩ := lst_read r h1 q
        by_cases ok : (plains xs && alikeRow (pys xs) && sortableB (pys xs) && (pys xs).all (fun p => decide (p.depth ≤ 60))) = true
        · simp only [ok, if_true] at po
          simp only [Bool.and_eq_true] at ok
          obtain ⟨⟨⟨k1, k2⟩, k3⟩, k4⟩ := ok
          obtain ⟨zs, z1, z2, z3⟩ := rvs_zip rvs
          have em : (zs.map fun z => (z.1, py z.2)).map Prod.snd = pys xs := by
            rw [pys_map, ← z1, List.map_map, List.map_map]; rfl
          have ef : (zs.map fun z => (z.1, py z.2)).map Prod.fst = ws := by
            rw [← z2, List.map_map]; rfl
          have hin : ∀ z ∈ zs, z.2 ∈ xs := fun z hz => by rw [← z1]; exact List.mem_map_of_mem hz
          refine ⟨c, zs.map fun z => (z.1, py z.2), rfl, by rw [ef]; exact hsq, fun b hb => ?_, ?_, ?_, fun b hb => ?_, fun p hp => ?_⟩
          · obtain ⟨z, hz, rfl⟩ := List.mem_map.mp hb
            exact dp_of r.fz (z3 z hz) (plains_mem k1 _ (hin z hz))
          · rw [em]
            intro a ha b hb
            exact List.all_eq_true.mp (List.all_eq_true.mp k2 a ha) b hb
          · rw [em]
            exact sortable_of k3
          · have : b.2 ∈ pys xs := by rw [← em]; exact List.mem_map_of_mem hb
            exact of_decide_eq_true (List.all_eq_true.mp k4 _ this)
          · have s1 : ((zs.map fun z => (z.1, py z.2)).mergeSort (dataLe false Prod.snd)) = (zs.mergeSort fun a b => leD a.2 b.2).map fun z => (z.1, py z.2) := (sort_maps (r := fun a b : V × D => leD a.2 b.2) (s := dataLe false Prod.snd) (fun z : V × D => (z.1, py z.2)) (l := zs) fun a _ b _ => rfl).symm
            have s2 : (zs.mergeSort fun a b => leD a.2 b.2).map Prod.snd = sortG xs := by
              unfold sortG
              rw [isort_eq leD_total, ← z1]
              exact sort_maps (r := fun a b : V × D => leD a.2 b.2) (s := leD) Prod.snd (l := zs) fun a _ b _ => rfl
            rw [s1, List.map_map]
            have rr : RVs G.K ρ F (sortG xs) ((zs.mergeSort fun a b => leD a.2 b.2).map Prod.fst) := by
              rw [← s2]
              exact zip_rvs fun z hz => z3 z ((List.mergeSort_perm zs _).subset hz)
            obtain ⟨x3, r3⟩ := r.fresh (o := .lst ((zs.mergeSort fun a b => leD a.2 b.2).map Prod.fst)) hp
            exact po _ _ _ _ x3 r3 (.lst upd_same (rr.ext x3))
        · simp only [ok, if_false] at po
          exact po.elim
  · exact po.elim
theorem de_sortG (hK : X.K = G.K.K) (hu : X.A.units + 65 < cLine) (hg : Gl X "sorted") (hm : X.mg "sorted" = none) (ha : PA X (e :: es) (tAs G W g)) (he : starEach (e :: es) X.env = (false, eval e X.env) :: starEach es X.env := by rfl) (hpl : (backTo pos (starEach es X.env)).any (·.1) = false := by rfl) : PE X (.Call (.Name "sorted" p) (e :: es) [] pos) (tE G W (eB hSortG g)) :=
  de_callB (cr_sortG hu) (by rw [hK]; exact vn_sortG) hg hm (by decide +kernel) ha (he := he) (hpl := hpl)
end
end VL
namespace VL
open PySem L2 PyProof.Rows
end VL
namespace VL
open PySem L2 PyProof.Rows
section
variable {X : Cx} {G : Gx} {W : WX} {ρ : List Addr} {F : Hp} {st : S} {σ : L2.St} {H : Hp} {e : Expr} {es : List Expr} {g : Ax} {pos p : Pos} {x m : Str} {cn k : Nat} {fn : Fn} {ps : List Str}
variable {o : Expr} {fo : Ex} {apos : Pos}
def trimX (f : Ex) : Ex := fun st => match f st with
  | .ok d c => if (c.take st.cs.length).all (belowC st.cs.length) then (match outD st.cs.length c d with
    | some d' => .ok d' (c.take st.cs.length)
    | none => .no) else .no
  | .ex e c => if (c.take st.cs.length).all (belowC st.cs.length) && belows st.cs.length e.ds then .ex e (c.take st.cs.length) else .no
  | .no => .no
theorem Rel.trimAt {ρ' : List Addr} {F' H' : Hp} {c : List Cell} (r : Rel G ρ F st σ H) (x : Ext ρ F ρ' F') (r' : Rel G ρ' F' ⟨st.env, c⟩ σ H') (hb : (c.take st.cs.length).all (belowC st.cs.length) = true) :
    ρ'.take st.cs.length = ρ ∧ Same F' (lentF ρ' st.cs.length F' H') ∧ Ext ρ F ρ (lentF ρ' st.cs.length F' H') ∧ Rel G ρ (lentF ρ' st.cs.length F' H') ⟨st.env, c.take st.cs.length⟩ σ H' := by
  have eρ : ρ'.take st.cs.length = ρ := by
    obtain ⟨t, ht⟩ := x.pre
    rw [← ht, ← r.cl, List.take_left]
  have hn : st.cs.length ≤ c.length := by
    have h1 := x.pre.length_le
    rw [show ρ'.length = c.length from r'.cl, r.cl] at h1
    exact h1
  have hs := r'.sameLent (n := st.cs.length)
  have en := r'.entryN (n := st.cs.length) hn hb
  rw [eρ] at en
  have y : Ext ρ F ρ (lentF ρ' st.cs.length F' H') := ⟨List.prefix_refl _, x.fz.trans hs⟩
  refine ⟨eρ, hs, y, ⟨r.len, fun i d q => ?_, en.cl, en.cell, r.nd, en.fz, en.sep, r'.fr, r.own, fun a o q => ?_, r'.old.trans hs, r.a0⟩⟩
  · obtain ⟨v, e1, e2⟩ := r.env i d q
    exact ⟨v, e1, e2.ext y⟩
  · unfold lentF at q
    by_cases h : a ∈ ρ'.drop st.cs.length
    · rcases r'.own a (drop_mem h) with z | z
      · exact (take_drop_ne r'.nd (by rw [eρ]; exact r.a0.subset z) h).elim
      · exact .inr z
    · rw [if_neg h] at q
      exact r'.new a o q
theorem de_trimX {f : Ex} (h : PE X e (tE G W f)) : PE X e (tE G W (trimX f)) := by
  refine h.impV ?_
  rintro σ H Q ⟨ρ, F, st, r, po⟩
  refine ⟨ρ, F, st, r, ?_⟩
  unfold trimX at po
  cases q : f st with
  | no => rw [q] at po; exact po
  | ex e' c =>
    rw [q] at po
    simp only at po
    by_cases hc : ((c.take st.cs.length).all (belowC st.cs.length) && belows st.cs.length e'.ds) = true
    · rw [if_pos hc] at po
      rw [Bool.and_eq_true] at hc
      intro ρ' F' H' cls dx x r' xa
      obtain ⟨eρ, s1, y, r2⟩ := r.trimAt x r' hc.1
      refine po ρ _ H' cls dx y r2 (xa.imp (fun _ _ z => s1 _ _ z) fun vs z => ?_)
      have z2 := z.cut (n := st.cs.length) s1 hc.2
      rw [eρ] at z2
      exact z2
    · rw [if_neg hc] at po
      exact po.elim
  | ok d c =>
    rw [q] at po
    simp only at po
    by_cases hc : (c.take st.cs.length).all (belowC st.cs.length) = true
    · rw [if_pos hc] at po
      cases q2 : outD st.cs.length c d with
      | none => rw [q2] at po; exact po.elim
      | some d' =>
        rw [q2] at po
        simp only at po
        intro ρ' F' H' v x r' rv
        obtain ⟨eρ, s1, y, r2⟩ := r.trimAt x r' hc
        refine po ρ _ H' v y r2 ?_
        have low : below st.cs.length d = true → d' = d → RV G.K ρ (lentF ρ' st.cs.length F' H') d' v := fun hb ed => by
          subst ed
          have z := rv.cut (n := st.cs.length) s1 hb
          rw [eρ] at z
          exact z
        cases d with
        | loc n =>
          unfold outD at q2
          simp only at q2
          by_cases hm : n < st.cs.length
          · rw [if_pos hm] at q2
            exact low (by simp [below_non, below_bl, below_int, below_str, below_tup, below_lst, below_frl, below_obj, below_dct, below_btp, below_dcn, below_exn, below_cls, below_loc, hm]) (Option.some.inj q2).symm
          · rw [if_neg hm] at q2
            cases q3 : c[n]? with
            | none => rw [q3] at q2; cases q2
            | some c0 =>
              rw [q3] at q2
              cases c0 with
              | lst ds =>
                simp only at q2
                by_cases hb : belows st.cs.length ds = true
                · rw [if_pos hb] at q2
                  cases q2
                  cases rv with
                  | @loc _ a h =>
                    obtain ⟨ws, h1, h2⟩ := r'.cell n _ _ q3 h
                    have hmem : a ∈ ρ'.drop st.cs.length := by
                      refine List.mem_of_getElem? (i := n - st.cs.length) ?_
                      rw [List.getElem?_drop, Nat.add_sub_cancel' (by omega)]
                      exact h
                    have z := h2.cut (n := st.cs.length) s1 hb
                    rw [eρ] at z
                    refine .lst ?_ z
                    unfold lentF
                    rw [if_pos hmem, h1]
                · rw [if_neg hb] at q2
                  cases q2
              | _ => cases q2
        | _ =>
          unfold outD at q2
          simp only at q2
          split at q2
          · rename_i hb
            exact low hb (Option.some.inj q2).symm
          · cases q2
    · rw [if_neg hc] at po
      exact po.elim
end
end VL
namespace VL
open PySem PySem.Spec PyProof.Rows L2
end VL
namespace VL
open PySem PySem.Spec PyProof.Rows L2
section
variable {X : Cx} {G : Gx} {W : WX} {a b e o : Expr} {es : List Expr} {fa fb fo fe f : Ex} {g : Ax} {pos p cpos apos : Pos}
theorem RVs.eraseIdx {K : Kt} {ρ : List Addr} {F : Hp} : ∀ {ds : List D} {vs : List V} (k : Nat), RVs K ρ F ds vs → RVs K ρ F (ds.eraseIdx k) (vs.eraseIdx k)
  | _, _, 0, .nil => .nil
  | _, _, 0, .cons _ t => t
  | _, _, _ + 1, .nil => .nil
  | _, _, k + 1, .cons h t => .cons h (RVs.eraseIdx k t)
variable {ans : Ty → Option Bool} {x : Str} {p1 p2 : Pos}
end
end VL
namespace VL
open PySem PySem.Spec PyProof.Rows L2
end VL
namespace VL
open PySem L2 PyProof.Rows
end VL
namespace VL
open PySem L2
end VL
namespace VL
open PySem L2 PyProof.Rows
section
variable {X : Cx} {G : Gx} {W : WX} {o e f k v : Expr} {fo fe fx fv fi : Ex} {pos apos cpos : Pos} {ρ : List Addr} {F : Hp} {st : S} {σ : L2.St} {H : Hp} {E : Ends}
def eNewD : Ex := fun st => .ok (.loc st.cs.length) (st.cs ++ [.dk [] []])
theorem dk_cell0 {K : Kt} {ρ : List Addr} {F H : Hp} {a : Addr} : CellAt K ρ F (upd H a (.dK [])) a (.dk [] []) := ⟨[], upd_same, rfl, .nil⟩
theorem de_newD : PE X (.Dict [] [] pos) (tE G W eNewD) := by
  refine pe_dnewK.impV ?_
  rintro σ H Q ⟨ρ, F, st, r, p⟩
  intro q hq
  obtain ⟨x2, r2⟩ := r.cellNew (p := q) (o := .dK []) (c := .dk [] []) hq dk_cell0
  refine p _ _ _ _ x2 r2 (.loc ?_)
  rw [← r.cl, List.getElem?_append_right (Nat.le_refl _), Nat.sub_self]
  rfl
/-- an own dict -/
def dkAt (cs : List Cell) (d : D) : Option (Nat × List Key × List D) := match d with
  | .loc n => match cs[n]? with
    | some (.dk ks ds) => some (n, ks, ds)
    | _ => none
  | _ => none
theorem dkAt_of {d : D} {w : V} {n : Nat} {ks : List Key} {ds : List D} (r : Rel G ρ F st σ H) (h : RV G.K ρ F d w) (q : dkAt st.cs d = some (n, ks, ds)) : ∃ a vs, d = .loc n ∧ w = .ref a ∧ ρ[n]? = some a ∧ H a = some (.dK (ks.zip vs)) ∧ ks.length = vs.length ∧ RVs G.K ρ F ds vs := by
  unfold dkAt at q
  cases h with
  | @loc m a h1 =>
    simp only at q
    cases q2 : st.cs[m]? with
    | none => rw [q2] at q; cases q
    | some c =>
      rw [q2] at q
      cases c with
      | dk ks' ds' =>
        cases q
        obtain ⟨vs, h2, h3, h4⟩ := r.cell _ _ _ q2 h1
        exact ⟨a, vs, rfl, rfl, h1, h2, h3, h4⟩
      | _ => cases q
  | _ => cases q
theorem zip_len {ks : List Key} {vs : List V} (h : ks.length = vs.length) : (ks.zip vs).length = ks.length := by
  rw [List.length_zip, ← h, Nat.min_self]
/-- the cell n of a dict, one more key in it -/
theorem put_cell {n : Nat} {a : Addr} {j : Key} {d : D} {w : V} {ks : List Key} {ds : List D} {vs : List V} (r : Rel G ρ F st σ H) (ha : ρ[n]? = some a) (h : RV G.K ρ F d w) (rv : RVs G.K ρ F ds vs) (hl : ks.length = vs.length) :
    Rel G ρ F ⟨st.env, st.cs.set n (.dk (putKD j d ks ds).1 (putKD j d ks ds).2)⟩ σ (upd H a (.dK (putK (ks.zip vs) j w))) := by
  obtain ⟨ws, h1, h2, h3⟩ := putKD_rel (k := j) h rv hl
  exact r.cellSet ha ⟨ws, by rw [h3]; exact upd_same, h2, h1⟩
def setKD (o k d : D) (st : S) : SOut := match dkAt st.cs o, keyD k with
  | some (n, ks, ds), some j => if ks.length < 16777216 then .nx ⟨st.env, st.cs.set n (.dk (putKD j d ks ds).1 (putKD j d ks ds).2)⟩ else .no
  | _, _ => .no
def sSetKD (fv fo fi : Ex) : Sx := fun st => thenS (fv st) st.env fun v st1 => thenS (fo st1) st1.env fun o st2 => thenS (fi st2) st2.env fun k st3 => setKD o k v st3
theorem ds_setKD {spos : Pos} (hu : X.A.units + 1 < cLine) (hv : PE X v (tE G W fv)) (ho : PE X o (tE G W fo)) (hi : PE X k (tE G W fi)) (hs : swapsWith v (some (.Subscript o k spos)) pos.line X.env = pure false := by rfl) :
    PS X (.Assign [.Subscript o k spos] v pos) (tS G W (sSetKD fv fo fi)) :=
  (ps_dput hu ho hi hv hs).impV fun D σ H ⟨ρ, F, st, r, p⟩ => seqS (f := fv) r p fun ρ1 F1 H1 x c1 w x1 r1 rv1 p1 => seqS (st := ⟨st.env, c1⟩) (f := fo) r1 p1 fun ρ2 F2 H2 o c2 ov x2 r2 rv2 p2 => seqS (st := ⟨st.env, c2⟩) (f := fi) r2 p2 fun ρ3 F3 H3 k c3 kv x3 r3 rv3 p3 => by
    unfold setKD at p3
    cases q : dkAt c3 o with
    | none => simp only [q] at p3; exact p3.elim
    | some z =>
      obtain ⟨n, ks, ds⟩ := z
      cases q2 : keyD k with
      | none => simp only [q, q2] at p3; exact p3.elim
      | some j =>
        simp only [q, q2] at p3
        obtain ⟨a, vs, e1, e2, h1, h2, h3, h4⟩ := dkAt_of (st := ⟨st.env, c3⟩) r3 (rv2.ext x3) q
        subst e1 e2
        have hk := keyD_of rv3 q2
        subst hk
        by_cases c : ks.length < 16777216
        · rw [if_pos c] at p3
          refine ⟨a, _, rfl, DPut.k h2 (by rw [zip_len h3, sizeLine_eq]; exact c), ?_⟩
          exact p3 ρ3 F3 σ _ Ext.refl (put_cell (st := ⟨st.env, c3⟩) r3 h1 ((rv1.ext x2).ext x3) h4 h3)
        · rw [if_neg c] at p3
          exact p3.elim
def eGetD2 (fo fe fx : Ex) : Ex := fun st => (fo st).bind fun x c1 => match dctOf c1 x with
  | some _ => (fe ⟨st.env, c1⟩).bind fun y c2 => (fx ⟨st.env, c2⟩).bind fun z c3 => (match dctOf c3 x, keyD y with
    | some (ks, ds), some k => .ok ((lookK k ks ds).getD z) c3
    | _, _ => .no)
  | none => .no
theorem de_getD2 (hu : X.A.units + 1 < cLine) (ho : PE X o (tE G W fo)) (he : PE X e (tE G W fe)) (hf : PE X f (tE G W fx)) (m : M2 X o "get" apos e f cpos := by exact ⟨rfl, rfl, rfl, rfl⟩) : PE X (.Call (.Attribute o "get" apos) [e, f] [] cpos) (tE G W (eGetD2 fo fe fx)) := by
  refine (pe_dget2 hu ho he hf m).impV ?_
  rintro σ H Q ⟨ρ, F, st, r, p⟩
  unfold eGetD2 at p
  refine seqX r p fun ρ1 F1 H1 x c1 v x1 r1 rv1 p1 => ?_
  cases q1 : dctOf c1 x with
  | none => rw [q1] at p1; exact p1.elim
  | some z =>
    rw [q1] at p1
    obtain ⟨ks0, ds0⟩ := z
    obtain ⟨a0, vs0, rfl, h3, _, _⟩ := dct_read (st := ⟨st.env, c1⟩) r1 rv1 q1
    refine ⟨a0, rfl, .inl ⟨_, .inl h3⟩, ?_⟩
    refine seqX (st := ⟨st.env, c1⟩) r1 p1 fun ρ2 F2 H2 y c2 w x2 r2 rv2 p2 => ?_
    refine seqX (st := ⟨st.env, c2⟩) r2 p2 fun ρ3 F3 H3 z c3 u x3 r3 rv3 p3 => ?_
    cases q2 : dctOf c3 x with
    | none => rw [q2] at p3; exact p3.elim
    | some z' =>
      obtain ⟨ks, ds⟩ := z'
      cases q3 : keyD y with
      | none => rw [q2, q3] at p3; exact p3.elim
      | some k =>
        rw [q2, q3] at p3
        obtain ⟨a1, vs, e1, h4, h5, h6⟩ := dct_read (st := ⟨st.env, c3⟩) r3 ((rv1.ext x2).ext x3) q2
        cases e1
        have hv := keyD_of rv2 q3
        subst hv
        obtain ⟨l1, l2⟩ := lookK_rel (k := k) h6 h5
        refine ⟨_, DGet.k h4, ?_⟩
        have p3 : Post RV G W ρ3 F3 st.env σ Q (.ok ((lookK k ks ds).getD z) c3) := p3
        cases q : lookK k ks ds with
        | none => rw [q] at p3; rw [l2 q]; exact p3.here (st := ⟨st.env, c3⟩) r3 rv3
        | some d =>
          rw [q] at p3
          obtain ⟨u', e2, ru⟩ := l1 d q
          rw [e2]
          exact p3.here (st := ⟨st.env, c3⟩) r3 ru
def eSetd (fo fe fx : Ex) : Ex := fun st => (fo st).bind fun x c1 => match dkAt c1 x with
  | some _ => (fe ⟨st.env, c1⟩).bind fun y c2 => (fx ⟨st.env, c2⟩).bind fun z c3 => (match dkAt c3 x, keyD y with
    | some (n, ks, ds), some k => if ks.length < 16777216 then (match lookK k ks ds with
      | some d => .ok d c3
      | none => .ok z (c3.set n (.dk (putKD k z ks ds).1 (putKD k z ks ds).2))) else .no
    | _, _ => .no)
  | none => .no
theorem de_setd (ho : PE X o (tE G W fo)) (he : PE X e (tE G W fe)) (hf : PE X f (tE G W fx)) (m : M2 X o "setdefault" apos e f cpos := by exact ⟨rfl, rfl, rfl, rfl⟩) : PE X (.Call (.Attribute o "setdefault" apos) [e, f] [] cpos) (tE G W (eSetd fo fe fx)) := by
  refine (pe_dsetd ho he hf m).impV ?_
  rintro σ H Q ⟨ρ, F, st, r, p⟩
  unfold eSetd at p
  refine seqX r p fun ρ1 F1 H1 x c1 v x1 r1 rv1 p1 => ?_
  cases q1 : dkAt c1 x with
  | none => rw [q1] at p1; exact p1.elim
  | some z =>
    rw [q1] at p1
    obtain ⟨n0, ks0, ds0⟩ := z
    obtain ⟨a0, vs0, e1, e2, h1, h2, h3, h4⟩ := dkAt_of (st := ⟨st.env, c1⟩) r1 rv1 q1
    subst e1 e2
    refine ⟨a0, rfl, .inl ⟨_, .inl h2⟩, ?_⟩
    refine seqX (st := ⟨st.env, c1⟩) r1 p1 fun ρ2 F2 H2 y c2 w x2 r2 rv2 p2 => ?_
    refine seqX (st := ⟨st.env, c2⟩) r2 p2 fun ρ3 F3 H3 z c3 u x3 r3 rv3 p3 => ?_
    cases q2 : dkAt c3 (.loc n0) with
    | none => rw [q2] at p3; exact p3.elim
    | some z' =>
      obtain ⟨n, ks, ds⟩ := z'
      cases q3 : keyD y with
      | none => rw [q2, q3] at p3; exact p3.elim
      | some k =>
        rw [q2, q3] at p3
        obtain ⟨a1, vs, e1, e2, h5, h6, h7, h8⟩ := dkAt_of (st := ⟨st.env, c3⟩) r3 ((rv1.ext x2).ext x3) q2
        cases e1
        cases e2
        have hv := keyD_of rv2 q3
        subst hv
        obtain ⟨l1, l2⟩ := lookK_rel (k := k) h8 h7
        by_cases c : ks.length < 16777216
        · simp only [if_pos c] at p3
          refine ⟨_, k, h6, rfl, by rw [zip_len h7, sizeLine_eq]; exact c, fun v0 hv0 => ?_, fun hn => ?_⟩
          · cases q : lookK k ks ds with
            | none => rw [l2 q] at hv0; cases hv0
            | some d =>
              rw [q] at p3
              obtain ⟨u', e2, ru⟩ := l1 d q
              rw [hv0] at e2
              cases e2
              exact p3.here (st := ⟨st.env, c3⟩) r3 ru
          · cases q : lookK k ks ds with
            | some d =>
              obtain ⟨u', e2, ru⟩ := l1 d q
              rw [hn] at e2
              cases e2
            | none =>
              rw [q] at p3
              exact p3 ρ3 F3 _ _ Ext.refl (put_cell (st := ⟨st.env, c3⟩) r3 h5 rv3 h8 h7) rv3
        · simp only [if_neg c] at p3
          exact p3.elim
def pairsX : List (Str × Ex) → S → Out (List D)
  | [], st => .ok [] st.cs
  | (_, f) :: r, st => (f st).bind fun d c1 => (pairsX r ⟨st.env, c1⟩).bind fun ds c2 => .ok (d :: ds) c2
def eDisp (l : List (Str × Ex)) : Ex := fun st => (pairsX l ⟨st.env, st.cs ++ [.dk [] []]⟩).bind fun ds c => match c[st.cs.length]? with
  | some (.dk [] []) => .ok (.loc st.cs.length) (c.set st.cs.length (.dk (mergeD ((l.map fun p => (Sum.inr p.1 : Key)).zip ds) ([], [])).1 (mergeD ((l.map fun p => (Sum.inr p.1 : Key)).zip ds) ([], [])).2))
  | _ => .no
/-- what the display's pairs read -/
inductive DPs (X : Cx) (G : Gx) (W : WX) (pos : Pos) : List (Option Expr) → List Expr → List (Str × Ex) → Prop
  | nil : DPs X G W pos [] [] []
  | cons {x : Str} {j : Nat} {kp : Pos} {v : Expr} {fv : Ex} {ks : List (Option Expr)} {vs : List Expr} {l : List (Str × Ex)} : PE X v (tE G W fv) → DPs X G W pos ks vs l → DPs X G W pos (some (.Constant (.str x) j kp) :: ks) (v :: vs) ((x, fv) :: l)
theorem dps_trs {ks : List (Option Expr)} {vs : List Expr} {l : List (Str × Ex)} (h : DPs X G W pos ks vs l) : ∃ trs, PPs X pos ks vs trs ∧ ks.all (·.isSome) = true ∧ ks.length = vs.length ∧ ks.length = l.length ∧
    ∀ (ρ : List Addr) (F : Hp) (st : S) (σ : L2.St) (H : Hp) (Q : List (V × V) → Hp → Prop), Rel G ρ F st σ H → (match pairsX l st with
      | .ok ds c => ∀ ρ' F' H' vs, Ext ρ F ρ' F' → Rel G ρ' F' ⟨st.env, c⟩ σ H' → RVs G.K ρ' F' ds vs → Q ((l.map fun p => V.str p.1).zip vs) H'
      | .ex e c => ∀ ρ' F' H' cls dx, Ext ρ F ρ' F' → Rel G ρ' F' ⟨st.env, c⟩ σ H' → XAt G.K ρ' F' e cls dx → W cls dx σ H'
      | .no => False) → tPairs trs σ H Q := by
  induction h with
  | nil => exact ⟨[], pps_nil, rfl, rfl, rfl, fun ρ F st σ H Q r p => p ρ F H [] Ext.refl r .nil⟩
  | @cons x j kp v fv ks vs l hv _ ih =>
    obtain ⟨trs, h1, h2, h3, h4, h5⟩ := ih
    refine ⟨(tC (.str x), tE G W fv) :: trs, pps_cons pe_str hv h1, by simpa using h2, by simp [h3], by simp [h4], fun ρ F st σ H Q r p => ?_⟩
    show tC (.str x) σ H fun x H1 => _
    show tE G W fv σ H _
    refine ⟨ρ, F, st, r, ?_⟩
    unfold pairsX at p
    cases q : fv st with
    | no => rw [q] at p; exact p.elim
    | ex e' cs => rw [q] at p; exact p
    | ok d c1 =>
      rw [q] at p
      intro ρ1 F1 H1 w x1 r1 rv1
      refine h5 ρ1 F1 ⟨st.env, c1⟩ σ H1 _ r1 ?_
      simp only [Out.bind] at p
      cases q2 : pairsX l ⟨st.env, c1⟩ with
      | no => rw [q2] at p; exact p.elim
      | ex e' cs => rw [q2] at p; exact fun ρ' F' H' cls dx x' r' xa => p ρ' F' H' cls dx (x1.trans x') r' xa
      | ok ds c2 =>
        rw [q2] at p
        exact fun ρ' F' H' vs x' r' rvs => p ρ' F' H' (w :: vs) (x1.trans x') r' (.cons (rv1.ext x') rvs)
theorem rkv_zip {K : Kt} {ρ : List Addr} {F : Hp} : ∀ {l : List Key} {ds : List D} {vs : List V}, RVs K ρ F ds vs → RKv K ρ F (l.zip ds) (l.zip vs)
  | [], _, _, _ => .nil
  | _ :: _, _, _, .nil => .nil
  | _ :: _, _, _, .cons h t => .cons h (rkv_zip t)
theorem zip_keys : ∀ (l : List (Str × Ex)) (vs : List V), (l.map fun p => V.str p.1).zip vs = ((l.map fun p => (Sum.inr p.1 : Key)).zip vs).map fun kv => (kV kv.1, kv.2)
  | [], _ => rfl
  | _ :: _, [] => rfl
  | p :: l, v :: vs => by
    have ih := zip_keys l vs
    show (V.str p.1, v) :: ((l.map fun p => V.str p.1).zip vs) = (kV (.inr p.1), v) :: (((l.map fun p => (Sum.inr p.1 : Key)).zip vs).map fun kv => (kV kv.1, kv.2))
    rw [ih]
    rfl
theorem de_disp {ks : List (Option Expr)} {vs : List Expr} {l : List (Str × Ex)} (h : DPs X G W pos ks vs l) (h0 : ks ≠ []) (h15 : ks.length ≤ 15) : PE X (.Dict ks vs pos) (tE G W (eDisp l)) := by
  obtain ⟨trs, h1, h2, h3, h4, h5⟩ := dps_trs h
  refine (pe_disp h1 h2 h3 h0 h15).impV ?_
  rintro σ H Q ⟨ρ, F, st, r, po⟩
  intro q hq
  obtain ⟨x2, r2⟩ := r.cellNew (p := q) (o := .dK []) (c := .dk [] []) hq dk_cell0
  have hat : (ρ ++ [q])[st.cs.length]? = some q := by rw [← r.cl, List.getElem?_append_right (Nat.le_refl _), Nat.sub_self]; rfl
  refine h5 _ _ ⟨st.env, st.cs ++ [.dk [] []]⟩ σ _ _ r2 ?_
  unfold eDisp at po
  cases q1 : pairsX l ⟨st.env, st.cs ++ [.dk [] []]⟩ with
  | no => rw [q1] at po; exact po.elim
  | ex e' c => rw [q1] at po; exact fun ρ' F' H' cls dx x' r' xa => po ρ' F' H' cls dx (x2.trans x') r' xa
  | ok ds c =>
    rw [q1] at po
    intro ρ' F' H' ws x' r' rvs
    have po : Post RV G W ρ F st.env σ Q (match c[st.cs.length]? with
      | some (.dk [] []) => .ok (.loc st.cs.length) (c.set st.cs.length (.dk (mergeD ((l.map fun p => (Sum.inr p.1 : Key)).zip ds) ([], [])).1 (mergeD ((l.map fun p => (Sum.inr p.1 : Key)).zip ds) ([], [])).2))
      | _ => .no) := po
    split at po
    · rename_i q2
      have ha := x'.at hat
      obtain ⟨us, g1, g2, g3⟩ := r'.cell _ _ _ q2 ha
      cases g3
      refine ⟨g1, (l.map fun p => (Sum.inr p.1 : Key)).zip ws, zip_keys l ws, ?_, ?_⟩
      · rw [List.length_zip, List.length_map]
        omega
      · obtain ⟨us, k1, k2, k3⟩ := mergeD_rel (ks := []) (ds := []) (vs := []) (rkv_zip (l := l.map fun p => (Sum.inr p.1 : Key)) rvs) .nil rfl
        have k3 : mergeK [] ((l.map fun p => (Sum.inr p.1 : Key)).zip ws) = _ := k3
        refine po ρ' F' _ _ (x2.trans x') (r'.cellSet ha ⟨us, by rw [k3]; exact upd_same, k2, k1⟩) (.loc ha)
    · exact po.elim
end
end VL
namespace VL
open PySem PySem.Spec PyProof.Rows L2
theorem dn_empty {P : Program} {w : World} {H : Hp} (h : Heap) : ObjOk P w H (h.push { cls := .type "dict", data := .dict #[] }) h.objs.size (dN w h.objs.size [] [] []) :=
  ⟨⟨_, #[], 0, [], Heap.get?_push_size _ rfl, ⟨rfl, rfl, rfl⟩, rfl, .nil, rfl⟩, ⟨_, Heap.get?_push_size _ rfl⟩, fun h1 h2 ⟨o, es, ep, us, a1, a2, a3, a4, a5⟩ k => ⟨o, es, ep, us, k o a1, a2, a3, a4, a5⟩⟩
/-- one pair laid into the dict that a comprehension makes -/
theorem dictSetN {X : Cx} {pins : List (Addr × Obj)} {σ : L2.St} {H : Hp} {s : Shared} {E : Value → Shared → Prop} {D : Addr} {y z : V} {u r : Value} {Nx : Hp → Prop} {Q : Unit → Shared → Prop} (hu : X.A.units + 9 < cLine) (I : Inv X pins σ H s)
    (ry : RelV y u) (rv : RelV z r) (h : rSetN X.K X.w (.ref D) y z H Nx) (fin : ∀ s' H', Inv X pins σ H' s' → Nx H' → Q () s') : wpAny (model X.prog X.w) X.A (dictSet D u r) Q E s := by
  obtain ⟨b, k, a, nks, bs, vs, ⟨e1, nv, dp⟩, e2, dic, hl, old, new⟩ := h
  subst e1
  injection e2 with e2
  subst e2
  cases (show u = Value.ref b from ry)
  obtain ⟨us, hv, hx⟩ := dic.heap I
  have lu : us.length = nks.length := hv.length.symm.trans dic.ok.lv
  have lz : (zip3 nks bs us).length = nks.length := by
    rw [← List.length_map (f := fun x : NestedKey × Addr × Value => x.1), zip3_keys dic.ok.lb lu]
  have at_ := atKey_zip (k := k) dic.ok.lb dic.ok.lv hv
  have mu : Mut (H D) := by rw [dic.at_]; trivial
  refine wpAny_dictSet_heap (knd := nestedKind X.prog X.w) (hsz := by rw [lz, sizeLine_eq]; omega) (by show X.A.units + 8 < cLine; omega) ⟨nv_is I nv rfl, dp⟩ hx fun h' hm' hs => ?_
  have he : ∃ q, h'.get? D = some q := by
    obtain ⟨q, _, _, hq, _⟩ := hm'
    exact ⟨q, hq⟩
  cases ql : lookV k nks vs with
  | none =>
    have hm2 : h'.DictOfH (nestedKind X.prog X.w) D (zip3 (nks ++ [k]) (bs ++ [b]) (us ++ [r])) := by
      rw [← zip3_snoc dic.ok.lb lu, ← storedH_new (at_.2 ql)]
      exact hm'
    exact fin _ _ (d_write I mu hs he (dn_ok (hv.append (.cons rv .nil)) hm2)) (new ql)
  | some v0 =>
    obtain ⟨b', u', e1, _⟩ := at_.1 v0 ql
    obtain ⟨us', g1, g2, _⟩ := map_put (k := k) rv dic.ok.lb dic.ok.lv hv
    rw [storedH_old e1, g2] at hm'
    exact fin _ _ (d_write I mu hs he (dn_ok g1 hm')) (old (by rw [ql]; rfl))
section
variable {Y : Cx} {fp : List Addr} {tn : Nat → Heap → Prop} {σ0 : L2.St} {it D : Addr} {J : It} {tg kx vx : Expr} {ifs : List Expr} {g : TG} {tt : TT} {tk tv : TE} {W : Nat → Nat → Hp → Prop}
theorem walk_free (hex : ∀ b ∈ fp, b ∈ Y.ex) (hpn : Y.pn = []) {H : Hp} {s : Shared} (I : Inv Y [] σ0 H s) (hn : ∀ b ∈ fp, H b = none) : ∀ b ∈ fp, FpOk Y [] H b := by
  intro b hb
  obtain ⟨q1, q2⟩ := I.ok.exf b (hex b hb)
  refine ⟨hn b hb, q1, I.ok.exfs b (hex b hb), Or.inl (hex b hb), q2, ?_⟩
  rw [hpn]
  intro p hp
  cases hp
/-- nothing is raised within the block -/
theorem thn0 {α : Type} {M : Model} {A : Around} {t : Sem α} {Q Q' : α → Shared → Prop} {E E' : Value → Shared → Prop} {s : Shared} (hx : ∀ v s, E v s → False) (h : wpAny M A t Q E s) (hQ : ∀ a s, Q a s → Q' a s) : wpAny M A t Q' E' s := wpAny_mono h hQ fun v s e => (hx v s e).elim
end
end VL
namespace VL
open PySem L2 PyProof.Rows
def dcNL (g : Gt) (t : Tx) (fk fv : Ex) (keep : List Cell → Bool) (env : List (Option D)) (n : Nat) : List D → List Cell → Option (List Cell)
  | [], cs => if keep cs then some cs else none
  | d :: ds, cs => if keep cs then (match g d ⟨env, cs⟩ with
    | some st1 => (match t st1 with
      | .ok true c2 => (match fk ⟨st1.env, c2⟩ with
        | .ok y c3 => (match fv ⟨st1.env, c3⟩ with
          | .ok z c4 => (match setKN (.loc n) y z ⟨st1.env, c4⟩ with
            | .nx st2 => dcNL g t fk fv keep env n ds st2.cs
            | _ => none)
          | _ => none)
        | _ => none)
      | .ok false c2 => dcNL g t fk fv keep env n ds c2
      | _ => none)
    | none => none) else none
end VL
namespace VL
open PySem PySem.Spec PyProof.Rows L2
theorem zip3_get : ∀ {nks : List NestedKey} {bs : List Addr} {us : List Value} (i : Nat) (x : NestedKey × Addr × Value), (zip3 nks bs us)[i]? = some x → bs[i]? = some x.2.1
  | [], bs, us, i, x, e => by cases bs <;> simp [zip3] at e
  | _ :: _, [], us, i, x, e => by simp [zip3] at e
  | _ :: _, _ :: _, [], i, x, e => by simp [zip3] at e
  | k :: nks, b :: bs, u :: us, 0, x, e => by
    have e : some (k, b, u) = some x := e
    cases e
    rfl
  | k :: nks, b :: bs, u :: us, i + 1, x, e => zip3_get (nks := nks) (bs := bs) (us := us) i x e
def rListN (K : PySem.W.Frag) (w : World) : List V → Hp → VK → Prop := fun xs H Q => ∃ a nks bs vs, xs = [.ref a] ∧ DicN K w H a nks bs vs ∧ ∀ q, H q = none → Q (.ref q) (upd H q (.lst (bs.map V.ref)))
theorem call_list_N {X : Cx} (hc : X.calm = true) : CallR X (.type "list") (rListN X.K X.w) := by
  intro pins s σ H xs us Q I r h
  obtain ⟨a, nks, bs, vs, rfl, dic, q⟩ := h
  obtain ⟨u, rfl, rx⟩ := vals1 r
  cases (show u = Value.ref a from rx)
  obtain ⟨ws, hv, o, es, ep, ho, hx, hd, hes, _, _⟩ := dic.heap I
  have lw : ws.length = nks.length := hv.length.symm.trans dic.ok.lv
  have lz : (zip3 nks bs ws).length = nks.length := by
    rw [← List.length_map (f := fun x : NestedKey × Addr × Value => x.1), zip3_keys dic.ok.lb lw]
  have le : es.size = bs.length := by
    rw [← Array.length_toList, hes, List.length_map, lz, dic.ok.lb]
  refine PySem.W.kdl_call (kdl_raw (o := o) (es := es) (ep := ep) dic.ok.sm hx hd) (I.ok.hd hc) ho (by rw [le, dic.ok.lb, sizeLine_eq]; exact dic.ok.le) fun h' tk acc' c' hkeep hS hacc => ?_
  refine ⟨.ref s.heap.objs.size, upd H s.heap.objs.size (.lst (bs.map V.ref)), I.laid hkeep (Nat.le_refl _) (show ObjOk X.prog X.w _ _ _ (.lst (bs.map V.ref)) from ⟨?_, acc'.toList, c', ?_, ?_⟩), rfl, q _ (I.hok.fresh (Nat.le_refl _))⟩
  · rw [List.length_map, dic.ok.lb, sizeLine_eq]
    exact dic.ok.le
  · have el : acc'.toList.length = acc'.size := by simp
    refine vals_of_at (by rw [List.length_map, el, hacc.1, le]) fun j x v h1 h2 => ?_
    obtain ⟨en, he, rfl⟩ := hacc.2 j v (by rw [← Array.getElem?_toList]; exact h2)
    have he : es.toList[j]? = some en := by rw [Array.getElem?_toList]; exact he
    rw [hes, List.getElem?_map] at he
    cases hz : (zip3 nks bs ws)[j]? with
    | none => rw [hz] at he; cases he
    | some x3 =>
      rw [hz] at he
      have he : entryOfKey (nestedKind X.prog X.w) x3 = en := Option.some.inj he
      have hb := zip3_get j x3 hz
      rw [List.getElem?_map, hb] at h1
      have h1 : V.ref x3.2.1 = x := Option.some.inj h1
      subst h1
      subst he
      rfl
  · rw [Array.toArray_toList]
    exact hS
def hListN (own : Bool) : FB := fun cs ds => match ds with
  | [d] => (match dcnOf cs d with
    | some (ks, _) => if own then newCell ks cs else .ok (.lst ks) cs
    | none => .no)
  | _ => .no
section
variable {X : Cx} {G : Gx} {W : WX} {e : Expr} {es : List Expr} {g : Ax} {pos p : Pos}
theorem dcn_keys {ρ : List Addr} {F : Hp} {st : S} {σ : L2.St} {H : Hp} {x : D} {v : V} {ks ds : List D} (r : Rel G ρ F st σ H) (h : RV G.K ρ F x v) (e : dcnOf st.cs x = some (ks, ds)) : ∃ a nks bs vs, v = .ref a ∧ DicN G.K.K G.K.w H a nks bs vs ∧ RVs G.K ρ F ks (bs.map V.ref) := by
  cases h with
  | dcn h1 h2 h3 h4 h5 => cases e; exact ⟨_, _, _, _, rfl, ⟨r.fz _ _ h1, h3, nvs_of r.fz h4 h2⟩, h4⟩
  | @loc n a h1 =>
    unfold dcnOf at e
    simp only at e
    cases q : st.cs[n]? with
    | none => rw [q] at e; cases e
    | some c =>
      rw [q] at e
      cases c with
      | dn ks' ds' =>
        cases e
        obtain ⟨nks, bs, vs, h2, h3, h4, h5, h6⟩ := r.cell n _ a q h1
        exact ⟨a, nks, bs, vs, rfl, ⟨h2, h4, nvs_of r.fz h5 h3⟩, h5⟩
      | _ => cases e
  | _ => cases e
theorem vn_listN {own : Bool} : VN G W (rListN G.K.K G.K.w) (hListN own) := by
  intro ρ F st σ H ds vs Q r rv po
  unfold hListN at po
  split at po
  · rename_i d
    cases rv with
    | cons h1 h2 =>
      cases h2
      cases q : dcnOf st.cs d with
      | none => rw [q] at po; exact po.elim
      | some z =>
        obtain ⟨ks, es⟩ := z
        rw [q] at po
        simp only at po
        obtain ⟨a, nks, bs, vs, rfl, dic, rk⟩ := dcn_keys r h1 q
        refine ⟨a, nks, bs, vs, rfl, dic, fun l hl => ?_⟩
        cases own with
        | false =>
          rw [if_neg (by decide)] at po
          obtain ⟨x2, r2⟩ := r.fresh (o := .lst (bs.map V.ref)) hl
          exact po _ _ _ _ x2 r2 (.lst upd_same (rk.ext x2))
        | true =>
          rw [if_pos rfl] at po
          unfold newCell at po
          obtain ⟨x2, r2⟩ := r.cellNew (p := l) (o := .lst (bs.map V.ref)) (c := .lst ks) hl ⟨_, upd_same, rk.ext ⟨List.prefix_append _ _, Same.refl _⟩⟩
          exact po _ _ _ _ x2 r2 (.loc (by rw [← r.cl, List.getElem?_append_right (Nat.le_refl _), Nat.sub_self]; rfl))
  · exact po.elim
theorem de_listN (own : Bool) (hc : X.calm = true) (hK : X.K = G.K.K) (hw : X.w = G.K.w) (hg : Gl X "list") (hm : X.mg "list" = none) (ha : PA X (e :: es) (tAs G W g)) (he : starEach (e :: es) X.env = (false, eval e X.env) :: starEach es X.env := by rfl) (hpl : (backTo pos (starEach es X.env)).any (·.1) = false := by rfl) : PE X (.Call (.Name "list" p) (e :: es) [] pos) (tE G W (eB (hListN own) g)) :=
  de_callTy (call_list_N hc) (by rw [hK, hw]; exact vn_listN) hg hm (by decide +kernel) ha (he := he) (hpl := hpl)
end
end VL
namespace VL
open PySem PySem.Calls PyProof.Rows PyProof.V PySem.Spec L2 PySem.W
def rSortN (K : PySem.W.Frag) (w : World) : List V → Hp → VK → Prop := fun us H Q => ∃ (a : Addr) (nks : List NestedKey) (ks : List Addr) (vs : List V) (bs : List (V × PyData)), us = [.ref a] ∧ DicN K w H a nks ks vs ∧ bs.map Prod.fst = ks.map V.ref ∧ (∀ b ∈ bs, Dp K H b.1 b.2) ∧ AllAlike (bs.map Prod.snd) ∧ Sortable (bs.map Prod.snd) ∧ (∀ b ∈ bs, b.2.depth ≤ 60) ∧
  ∀ p, H p = none → Q (.ref p) (upd H p (.lst ((bs.mergeSort (dataLe false Prod.snd)).map Prod.fst)))
theorem cr_sortN {X : Cx} (hc : X.calm = true) (hu : X.A.units + 65 < cLine) : CallR X (.builtin "sorted") (rSortN X.K X.w) := by
  intro pins s σ H xs us Q I r h
  obtain ⟨a, nks, ks, vs, bs, rfl, dic, hbs, hd, hal, hk, hdep, q⟩ := h
  rw [Vals.ref1 r]
  obtain ⟨ws, hv, o, es, ep, ho, hx, hd', hes, _, _⟩ := dic.heap I
  have lw : ws.length = nks.length := hv.length.symm.trans dic.ok.lv
  have lz : (zip3 nks ks ws).length = nks.length := by
    rw [← List.length_map (f := fun x : NestedKey × Addr × Value => x.1), zip3_keys dic.ok.lb lw]
  have le : es.size = ks.length := by
    rw [← Array.length_toList, hes, List.length_map, lz, dic.ok.lb]
  have lbs : bs.length = ks.length := by
    have := congrArg List.length hbs
    rwa [List.length_map, List.length_map] at this
  have hL : ks.length ≤ sizeLine := by
    rw [dic.ok.lb, sizeLine_eq]
    exact dic.ok.le
  refine call_function_entry kind_sorted plain_sorted entry_sorted (args_sorted1 _) ?_
  unfold Builtin.«sorted»
  refine wpAny_bind (m := checkCount "sorted" 1 1 _) (wpAny_pure ?_)
  refine wpAny_bind (kdu_collect (A := X.A.in1) (kdl_raw (o := o) (es := es) (ep := ep) dic.ok.sm hx hd') (I.ok.hd hc) ho (by rw [le]; exact hL) fun h' tk acc hkeep hacc => ?_)
  have hal' : acc.toList.length = ks.length := by rw [Array.length_toList, hacc.1, le]
  refine wpAny_bind (wpAny_newList ?_ (by rw [hal']; exact hL))
  have rv : Vals (ks.map V.ref) acc.toList := by
    refine vals_of_at (by rw [List.length_map, hal']) fun j x v h1 h2 => ?_
    obtain ⟨en, he, rfl⟩ := hacc.2 j v (by rw [← Array.getElem?_toList]; exact h2)
    have he : es.toList[j]? = some en := by rw [Array.getElem?_toList]; exact he
    rw [hes, List.getElem?_map] at he
    cases hz : (zip3 nks ks ws)[j]? with
    | none => rw [hz] at he; cases he
    | some x3 =>
      rw [hz] at he
      have he : entryOfKey (nestedKind X.prog X.w) x3 = en := Option.some.inj he
      have hb := zip3_get j x3 hz
      rw [List.getElem?_map, hb] at h1
      have h1 : V.ref x3.2.1 = x := Option.some.inj h1
      subst h1
      subst he
      rfl
  rw [← hbs] at rv
  obtain ⟨e1, e2⟩ := each_reads I rv hd
  have hlt := fun b (u : Obj) (e : s.heap.get? b = some u) => Heap.lt_size (hkeep b u e)
  have hat : (h'.push { cls := .type "list", data := .seq acc.toList.toArray }).get? h'.objs.size = some (seqObj "list" acc.toList.toArray 0) := Heap.get?_push_size _ rfl
  have hold : ∀ b u, s.heap.get? b = some u → (h'.push { cls := .type "list", data := .seq acc.toList.toArray }).get? b = some u := fun b u e => Heap.get?_push_of_some _ (hkeep b u e)
  have er' : EachIs (fun v (b : V × PyData) => ∃ as, Reads (sortingHeap (h'.push { cls := .type "list", data := .seq acc.toList.toArray }) h'.objs.size acc.toList) v b.2 as) acc.toList bs :=
    e2.mono fun _ _ ⟨as, r⟩ => ⟨as, PyProof.Rows.Reads.keeps (fun b u e => sortingHeap_old (Nat.ne_of_lt (hlt b u e)) (hold b u e)) r⟩
  have hnone : s.heap.get? h'.objs.size = none := by
    cases c : s.heap.get? h'.objs.size with
    | none => rfl
    | some u => exact absurd (hlt _ _ c) (Nat.lt_irrefl _)
  have hn : H h'.objs.size = none := I.hok.gone hnone
  have hg : ∀ E' : Value → Shared → Prop, wpAny (model X.prog X.w) X.A.in1 (call (.builtin "list.sort") [.ref h'.objs.size]) (fun _ s' => ∃ v H', Inv X pins σ H' s' ∧ RelV v (.ref h'.objs.size) ∧ Q v H') E' { s with heap := h'.push { cls := .type "list", data := .seq acc.toList.toArray }, toks := tk } := by
    intro E'
    refine wpAny_call_entry slot_list_sort ⟨_, hat, rfl⟩ entry_list_sort (list_sort_vals (κ := dataKind (sortingHeap (h'.push { cls := .type "list", data := .seq acc.toList.toArray }) h'.objs.size acc.toList) (bs.map Prod.snd)) hat (SortsAt.data (s := { s with heap := sortingHeap (h'.push { cls := .type "list", data := .seq acc.toList.toArray }) h'.objs.size acc.toList, toks := tk }) (each_map (R := fun v d => ∃ as, Reads (sortingHeap (h'.push { cls := .type "list", data := .seq acc.toList.toArray }) h'.objs.size acc.toList) v d as) Prod.snd er') hal hk (bound_map fun b hb => ?_)) (by rw [hal']; exact hL) ⟨.none, rfl, ?_⟩) (args_list_sort _)
    · have := hdep b hb
      show X.A.units + 2 + _ < cLine
      omega
    · have e3 := sortVals_data false e1 er' hal
      have hlen : ((bs.mergeSort (dataLe false Prod.snd)).map Prod.fst).length ≤ sizeLine := by
        rw [List.length_map, List.length_mergeSort, lbs]
        exact hL
      obtain ⟨ep', hat'⟩ := sortedHeap_at (out := (sortVals (dataKind (sortingHeap (h'.push { cls := .type "list", data := .seq acc.toList.toArray }) h'.objs.size acc.toList) (bs.map Prod.snd)) false acc.toList acc.toList).toArray) hat
      exact ⟨.ref _, upd H h'.objs.size (.lst ((bs.mergeSort (dataLe false Prod.snd)).map Prod.fst)), I.laidN (t' := tk) (fun b u e => (sortedHeap_old (Nat.ne_of_lt (hlt b u e)) (Heap.lt_size (hold b u e))).trans (hold b u e)) hnone hn ⟨hlen, _, ep', vals_each e3, hat'⟩, rfl, q _ hn⟩
  refine wpAny_bind (wpAny_holding (wpAny_mono (hg _) (fun _ s' ⟨v, H', I', r', q'⟩ => ?_) fun _ _ e => e))
  exact wpAny_pure ⟨_, rfl, ⟨v, H', I', r', q'⟩⟩
def hSortN : FB := fun cs ds => match ds with
  | [d] => (match dcnOf cs d with
    | some (xs, _) => if plains xs && alikeRow (pys xs) && sortableB (pys xs) && (pys xs).all (fun p => decide (p.depth ≤ 60)) then .ok (.lst (sortG xs)) cs else .no
    | none => .no)
  | _ => .no
section
variable {X : Cx} {G : Gx} {W : WX} {e : PySem.Expr} {es : List PySem.Expr} {g : Ax} {pos p : Pos}
theorem vn_sortN : VN G W (rSortN G.K.K G.K.w) hSortN := by
  intro ρ F st σ H ds vs Q r rv po
  unfold hSortN at po
  split at po
  · rename_i d
    cases rv with
    | cons h1 h2 =>
      cases h2
      cases q : dcnOf st.cs d with
      | none => rw [q] at po; exact po.elim
      | some z =>
        obtain ⟨xs, es⟩ := z
        rw [q] at po
        obtain ⟨a, nks, ks, vs, rfl, dic, rvs⟩ := dcn_keys r h1 q
        by_cases ok : (plains xs && alikeRow (pys xs) && sortableB (pys xs) && (pys xs).all (fun p => decide (p.depth ≤ 60))) = true
        · simp only [ok, if_true] at po
          simp only [Bool.and_eq_true] at ok
          obtain ⟨⟨⟨k1, k2⟩, k3⟩, k4⟩ := ok
          obtain ⟨zs, z1, z2, z3⟩ := rvs_zip rvs
          have em : (zs.map fun z => (z.1, py z.2)).map Prod.snd = pys xs := by
            rw [pys_map, ← z1, List.map_map, List.map_map]; rfl
          have ef : (zs.map fun z => (z.1, py z.2)).map Prod.fst = ks.map V.ref := by
            rw [← z2, List.map_map]; rfl
          have hin : ∀ z ∈ zs, z.2 ∈ xs := fun z hz => by rw [← z1]; exact List.mem_map_of_mem hz
          refine ⟨a, nks, ks, vs, zs.map fun z => (z.1, py z.2), rfl, dic, ef, fun b hb => ?_, ?_, ?_, fun b hb => ?_, fun p hp => ?_⟩
          · obtain ⟨z, hz, rfl⟩ := List.mem_map.mp hb
            exact dp_of r.fz (z3 z hz) (plains_mem k1 _ (hin z hz))
          · rw [em]
            intro a ha b hb
            exact List.all_eq_true.mp (List.all_eq_true.mp k2 a ha) b hb
          · rw [em]
            exact sortable_of k3
          · have : b.2 ∈ pys xs := by rw [← em]; exact List.mem_map_of_mem hb
            exact of_decide_eq_true (List.all_eq_true.mp k4 _ this)
          · have s1 : ((zs.map fun z => (z.1, py z.2)).mergeSort (dataLe false Prod.snd)) = (zs.mergeSort fun a b => leD a.2 b.2).map fun z => (z.1, py z.2) := (sort_maps (r := fun a b : V × D => leD a.2 b.2) (s := dataLe false Prod.snd) (fun z : V × D => (z.1, py z.2)) (l := zs) fun a _ b _ => rfl).symm
            have s2 : (zs.mergeSort fun a b => leD a.2 b.2).map Prod.snd = sortG xs := by
              unfold sortG
              rw [isort_eq leD_total, ← z1]
              exact sort_maps (r := fun a b : V × D => leD a.2 b.2) (s := leD) Prod.snd (l := zs) fun a _ b _ => rfl
            rw [s1, List.map_map]
            have rr : RVs G.K ρ F (sortG xs) ((zs.mergeSort fun a b => leD a.2 b.2).map Prod.fst) := by
              rw [← s2]
              exact zip_rvs fun z hz => z3 z ((List.mergeSort_perm zs _).subset hz)
            obtain ⟨x3, r3⟩ := r.fresh (o := .lst ((zs.mergeSort fun a b => leD a.2 b.2).map Prod.fst)) hp
            exact po _ _ _ _ x3 r3 (.lst upd_same (rr.ext x3))
        · simp only [ok, if_false] at po
          exact po.elim
  · exact po.elim
theorem de_sortN (hc : X.calm = true) (hK : X.K = G.K.K) (hw : X.w = G.K.w) (hu : X.A.units + 65 < cLine) (hg : Gl X "sorted") (hm : X.mg "sorted" = none) (ha : PA X (e :: es) (tAs G W g)) (he : starEach (e :: es) X.env = (false, eval e X.env) :: starEach es X.env := by rfl) (hpl : (backTo pos (starEach es X.env)).any (·.1) = false := by rfl) : PE X (.Call (.Name "sorted" p) (e :: es) [] pos) (tE G W (eB hSortN g)) :=
  de_callB (cr_sortN hc hu) (by rw [hK, hw]; exact vn_sortN) hg hm (by decide +kernel) ha (he := he) (hpl := hpl)
end
end VL
namespace VL
open PySem L2
end VL
namespace VL
open PySem L2
end VL
namespace VL
open PySem PySem.Spec PyProof.Rows L2
def kD : Key → D
  | .inl i => .int i
  | .inr x => .str x
def outDs (n : Nat) (cs : List Cell) : List D → Option (List D)
  | [] => some []
  | d :: r => match outD n cs d, outDs n cs r with
    | some e, some t => some (e :: t)
    | _, _ => none
def itemsD : List Key → List D → List D
  | k :: ks, d :: ds => .tup [kD k, d] :: itemsD ks ds
  | _, _ => []
theorem itemsD_len : ∀ {ks : List Key} {ds : List D}, ks.length = ds.length → (itemsD ks ds).length = ks.length
  | [], [], _ => rfl
  | k :: ks, d :: ds, h => by
    show (itemsD ks ds).length + 1 = ks.length + 1
    rw [itemsD_len (Nat.succ.inj h)]
theorem itemsD_at : ∀ {ks : List Key} {ds : List D} {i : Nat} {z : D}, (itemsD ks ds)[i]? = some z → ∃ k d, ks[i]? = some k ∧ ds[i]? = some d ∧ z = .tup [kD k, d]
  | k :: ks, d :: ds, 0, z, e => by
    cases (show some (D.tup [kD k, d]) = some z from e)
    exact ⟨k, d, rfl, rfl, rfl⟩
  | k :: ks, d :: ds, i + 1, z, e => itemsD_at (ks := ks) (ds := ds) (i := i) e
  | [], ds, i, z, e => by cases ds <;> simp [itemsD] at e
  | k :: ks, [], i, z, e => by simp [itemsD] at e
theorem rv_kD {K : Kt} {ρ : List Addr} {F : Hp} : ∀ {k : Key}, RV K ρ F (kD k) (kV k)
  | .inl i => .int i
  | .inr x => .str x
section
variable {G : Gx} {ρ ρ' : List Addr} {F F' : Hp} {st : S} {σ : L2.St} {H H' : Hp} {c : List Cell}
/-- what leaves the def, behind the trim -/
theorem outD_rv (r : Rel G ρ F st σ H) (x : Ext ρ F ρ' F') (r' : Rel G ρ' F' ⟨st.env, c⟩ σ H') (hb : (c.take st.cs.length).all (belowC st.cs.length) = true) {d d' : D} {v : V} (rv : RV G.K ρ' F' d v) (q2 : outD st.cs.length c d = some d') : RV G.K ρ (lentF ρ' st.cs.length F' H') d' v := by
  obtain ⟨eρ, s1, y, r2⟩ := r.trimAt x r' hb
  have low : below st.cs.length d = true → d' = d → RV G.K ρ (lentF ρ' st.cs.length F' H') d' v := fun hb ed => by
    subst ed
    have z := rv.cut (n := st.cs.length) s1 hb
    rw [eρ] at z
    exact z
  cases d with
  | loc n =>
    unfold outD at q2
    simp only at q2
    by_cases hm : n < st.cs.length
    · rw [if_pos hm] at q2
      exact low (by rw [below_loc]; exact decide_eq_true hm) (Option.some.inj q2).symm
    · rw [if_neg hm] at q2
      cases q3 : c[n]? with
      | none => rw [q3] at q2; cases q2
      | some c0 =>
        rw [q3] at q2
        cases c0 with
        | lst ds =>
          simp only at q2
          by_cases hb : belows st.cs.length ds = true
          · rw [if_pos hb] at q2
            cases q2
            cases rv with
            | @loc _ a h =>
              obtain ⟨ws, h1, h2⟩ := r'.cell n _ _ q3 h
              have hmem : a ∈ ρ'.drop st.cs.length := by
                refine List.mem_of_getElem? (i := n - st.cs.length) ?_
                rw [List.getElem?_drop, Nat.add_sub_cancel' (by omega)]
                exact h
              have z := h2.cut (n := st.cs.length) s1 hb
              rw [eρ] at z
              refine .lst ?_ z
              unfold lentF
              rw [if_pos hmem, h1]
          · rw [if_neg hb] at q2
            cases q2
        | _ => cases q2
  | _ =>
    unfold outD at q2
    simp only at q2
    split at q2
    · rename_i hb
      exact low hb (Option.some.inj q2).symm
    · cases q2
theorem outDs_rv (r : Rel G ρ F st σ H) (x : Ext ρ F ρ' F') (r' : Rel G ρ' F' ⟨st.env, c⟩ σ H') (hb : (c.take st.cs.length).all (belowC st.cs.length) = true) : ∀ {ds ds' : List D} {vs : List V}, RVs G.K ρ' F' ds vs → outDs st.cs.length c ds = some ds' → RVs G.K ρ (lentF ρ' st.cs.length F' H') ds' vs
  | _, _, _, .nil, q => by
    cases q
    exact .nil
  | _, _, _, .cons (d := d) (ds := ds) h t, q => by
    unfold outDs at q
    cases q1 : outD st.cs.length c d with
    | none => rw [q1] at q; cases q
    | some e =>
      rw [q1] at q
      cases q2 : outDs st.cs.length c ds with
      | none => rw [q2] at q; cases q
      | some s =>
        rw [q2] at q
        cases q
        exact .cons (outD_rv r x r' hb h q1) (outDs_rv r x r' hb t q2)
/-- a thing beside the cells is locked -/
theorem Rel.locked (r : Rel G ρ F st σ H) {a : Addr} {o : HO} (ha : a ∉ ρ) (hF : F a = none) (h0 : G.H0 a = none) : Ext ρ F ρ (upd F a o) ∧ Rel G ρ (upd F a o) st σ (upd H a o) := by
  have hne : ∀ b ∈ ρ, b ≠ a := fun b hb e => ha (e ▸ hb)
  have x : Ext ρ F ρ (upd F a o) := ⟨List.prefix_refl _, same_upd' hF⟩
  refine ⟨x, ⟨r.len, fun i d e => ?_, r.cl, fun i c b e1 e2 => ?_, r.nd, fun b u e => ?_, fun b hb => ?_, fun b u e1 e2 => ?_, r.own, fun b u e => ?_, r.old.trans x.fz, r.a0⟩⟩
  · obtain ⟨v, e1, e2⟩ := r.env i d e
    exact ⟨v, e1, e2.ext x⟩
  · exact (r.cell i c b e1 e2).ext x (upd_ne (hne b (List.mem_of_getElem? e2)))
  · by_cases hb : b = a
    · subst hb
      rw [upd_same] at e ⊢
      exact e
    · rw [upd_ne hb] at e ⊢
      exact r.fz b u e
  · rw [upd_ne (hne b hb)]
    exact r.sep b hb
  · rw [upd_ne (fun z => by rw [z, h0] at e1; cases e1)]
    exact r.fr b u e1 e2
  · by_cases hb : b = a
    · subst hb
      exact .inr h0
    · rw [upd_ne hb] at e
      exact r.new b u e
end
section
variable {X : Cx} {G : Gx} {W : WX} {e : Expr} {fo : Ex} {td : TE} {apos cpos : Pos}
/-- the dict is locked when it stands -/
def tLockK (td : TE) : TE := fun σ H Q => td σ H fun x H1 => ∃ d kvs, x = .ref d ∧ H1 d = some (.dK kvs) ∧ ∀ od, Q (.ref d) (upd H1 d (.frz od (.dK kvs)))
theorem pe_lockK (h : PE X e td) : PE X e (tLockK td) := by
  refine ⟨fun pins s σ H Q I hw => ?_⟩
  refine thn (h.run pins s σ H _ I hw) fun u s1 ⟨x, H1, I1, rx, d, kvs, e, hd, q⟩ => ?_
  subst e
  obtain ⟨od, I2⟩ := I1.lock hd trivial
  exact ⟨_, _, I2, rx, q od⟩
def iItm (fo : Ex) : Ix := fun st => match fo st with
  | .ok (.loc m) c => if st.cs.length ≤ m ∧ (c.take st.cs.length).all (belowC st.cs.length) = true then (match c[m]? with
    | some (.dk ks ds) => (match outDs st.cs.length c ds with
      | some es => .ok (itemsD ks es, keepAll) (c.take st.cs.length)
      | none => .no)
    | _ => .no) else .no
  | _ => .no
theorem wk_items {ρ : List Addr} {F : Hp} {a : Addr} {od : Obj} {ks : List Key} {ds : List D} {vs : List V} (h : F a = some (.frz od (.dK (ks.zip vs)))) (hl : ks.length = vs.length) (rv : RVs G.K ρ F ds vs) : Wk G ρ F (Iti a od (ks.zip vs)) (itemsD ks ds) keepAll := fun ρ1 F1 st1 σ1 H1 i x r _ => by
  have h1 : H1 a = some (.frz od (.dK (ks.zip vs))) := r.fz _ _ (x.fz _ _ h)
  have hz : (ks.zip vs).length = ks.length := by rw [List.length_zip, hl, Nat.min_self]
  have hd : ks.length = ds.length := hl.trans rv.length.symm
  refine ⟨fun z ez => ?_, fun ez => ⟨h1, ?_⟩⟩
  · obtain ⟨k, d, e1, e2, rfl⟩ := itemsD_at ez
    have hi : i < ks.length := (List.getElem?_eq_some_iff.mp e1).1
    refine ⟨⟨h1, by rw [hz]; exact hi⟩, fun y H' ⟨T, k', v, e3, e4, e5, e6⟩ => ?_⟩
    subst e4
    subst e6
    obtain ⟨v0, e7, e8⟩ := (rv.ext x).get e2
    have e9 : (ks.zip vs)[i]? = some (k, v0) := by
      rw [List.getElem?_zip_eq_some]
      exact ⟨e1, e7⟩
    rw [e9] at e3
    have e10 : k = k' ∧ v0 = v := Prod.mk.inj (Option.some.inj e3)
    rw [← e10.1, ← e10.2]
    obtain ⟨x2, r2⟩ := r.fresh (o := .tup [kV k, v0]) e5
    exact ⟨ρ1, _, x2, rfl, same_upd' e5, r2, .tup (SqT.of upd_same) (.cons rv_kD (.cons (e8.ext x2) .nil))⟩
  · rw [hz, ez, itemsD_len hd]
    exact Nat.le_refl _
theorem di_items {elts : List Expr} {kk : Nat} {tpos : Pos} (he : PE X e (tE G W fo)) (hbase : attributeBase e "items" X.env (eval e X.env) = eval e X.env := by rfl) (hline : (apos.endLine == cpos.line) = true := by rfl) :
    PI X (.Tuple elts kk tpos) (.Call (.Attribute e "items" apos) [] [] cpos) (tI G W (iItm fo)) :=
  (pi_items (pe_lockK he) hbase hline).impV fun σ H R ⟨ρ, F, st, r, po⟩ => by
    unfold iItm at po
    show tE G W fo σ H _
    refine ⟨ρ, F, st, r, ?_⟩
    cases q : fo st with
    | no => rw [q] at po; exact po.elim
    | ex e' c => rw [q] at po; exact po.elim
    | ok d c =>
      rw [q] at po
      cases d with
      | loc m =>
        simp only at po
        by_cases hc : st.cs.length ≤ m ∧ (c.take st.cs.length).all (belowC st.cs.length) = true
        · rw [if_pos hc] at po
          cases q2 : c[m]? with
          | none => rw [q2] at po; exact po.elim
          | some c0 =>
            rw [q2] at po
            cases c0 with
            | dk ks ds =>
              simp only at po
              cases q3 : outDs st.cs.length c ds with
              | none => rw [q3] at po; exact po.elim
              | some es =>
                rw [q3] at po
                simp only at po
                intro ρ' F' H' v x r' rv
                cases rv with
                | @loc _ a ha =>
                  obtain ⟨vs, h1, h2, h3⟩ := r'.cell m _ _ q2 ha
                  refine ⟨a, ks.zip vs, rfl, h1, fun od => ?_⟩
                  refine ⟨a, od, ks.zip vs, rfl, upd_same, ?_⟩
                  obtain ⟨eρ, s1, y, r2⟩ := r.trimAt x r' hc.2
                  have rs := outDs_rv r x r' hc.2 h3 q3
                  have hmem : a ∈ ρ'.drop st.cs.length := by
                    refine List.mem_of_getElem? (i := m - st.cs.length) ?_
                    rw [List.getElem?_drop, Nat.add_sub_cancel' hc.1]
                    exact ha
                  have hF : lentF ρ' st.cs.length F' H' a = none := by
                    unfold lentF
                    rw [if_pos hmem, h1]
                  have hnρ : a ∉ ρ := fun z => take_drop_ne r'.nd (by rw [eρ]; exact z) hmem
                  have h0 : G.H0 a = none := by
                    rcases r'.own a (List.mem_of_getElem? ha) with z | z
                    · exact absurd (r.a0.subset z) hnρ
                    · exact z
                  obtain ⟨x3, r3⟩ := r2.locked (o := .frz od (.dK (ks.zip vs))) hnρ hF h0
                  exact po ρ _ _ _ (y.trans x3) r3 (wk_items upd_same h2 (rs.ext x3))
            | _ => exact po.elim
        · rw [if_neg hc] at po
          exact po.elim
      | _ => exact po.elim
end
end VL
namespace VL
open PySem PySem.Spec PyProof.Rows L2
/-- the entries js, es laid behind ks, ds -/
def mergeN : List D → List D → List D → List D → List D × List D
  | ks, ds, j :: js, e :: es => (match nkD j with
    | some k => (match lookN k ks ds with
      | some _ => mergeN ks (setN k e ks ds) js es
      | none => mergeN (ks ++ [j]) (ds ++ [e]) js es)
    | none => (ks, ds))
  | ks, ds, _, _ => (ks, ds)
/-- what is known of both sides while they are laid -/
structure MgN (K : Kt) (ρ : List Addr) (F : Hp) (a : Addr) (ks ds : List D) (nks : List NestedKey) (bs : List Addr) (vs : List V) : Prop where
  k : nkDs ks = some nks
  rk : RVs K ρ F ks (bs.map V.ref)
  rd : RVs K ρ F ds vs
  nd : nks.Nodup
  lb : bs.length = nks.length
  lv : vs.length = nks.length
  dp : ∀ k ∈ nks, (∃ l, k = .tup l) ∧ k.depth ≤ 8
section
variable {K : Kt} {ρ : List Addr} {F : Hp} {a : Addr}
theorem MgN.old {ks ds : List D} {nks : List NestedKey} {bs : List Addr} {vs : List V} (m : MgN K ρ F a ks ds nks bs vs) {k : NestedKey} {e : D} {w : V} (re : RV K ρ F e w) : MgN K ρ F a ks (setN k e ks ds) nks bs (setVs k w nks vs) :=
  ⟨m.k, m.rk, set_relN re m.k m.rd, m.nd, m.lb, setVs_len m.lv, m.dp⟩
theorem MgN.more {ks ds : List D} {nks : List NestedKey} {bs : List Addr} {vs : List V} (m : MgN K ρ F a ks ds nks bs vs) {k : NestedKey} {j e : D} {c : Addr} {w : V} (hj : nkD j = some k) (ht : (∃ l, k = .tup l) ∧ k.depth ≤ 8) (rj : RV K ρ F j (.ref c)) (re : RV K ρ F e w) (hn : lookV k nks vs = none) : MgN K ρ F a (ks ++ [j]) (ds ++ [e]) (nks ++ [k]) (bs ++ [c]) (vs ++ [w]) := by
  have nin := lookV_none m.lv hn
  refine ⟨nkDs_snoc hj m.k, by rw [List.map_append]; exact m.rk.snoc rj, m.rd.snoc re, ?_, by simp [m.lb], by simp [m.lv], fun x hx => ?_⟩
  · rw [List.nodup_append]
    exact ⟨m.nd, by simp, fun x hx y hy => by rw [List.mem_singleton.mp hy]; exact fun e => nin (e ▸ hx)⟩
  · rcases List.mem_append.mp hx with hx | hx
    · exact m.dp x hx
    · rw [List.mem_singleton.mp hx]; exact ht
def mergeV : List NestedKey → List Addr → List V → List NestedKey → List Addr → List V → List NestedKey × List Addr × List V
  | nks, bs, vs, k :: ks, c :: cs, w :: ws => (match lookV k nks vs with
    | some _ => mergeV nks bs (setVs k w nks vs) ks cs ws
    | none => mergeV (nks ++ [k]) (bs ++ [c]) (vs ++ [w]) ks cs ws)
  | nks, bs, vs, _, _, _ => (nks, bs, vs)
/-- the entries laid, as the model does it -/
theorem merge_heap : ∀ {mks : List NestedKey} {cs : List Addr} {ws : List V} {zs : List Value} {nks : List NestedKey} {bs : List Addr} {vs : List V} {us : List Value}, bs.length = nks.length → vs.length = nks.length → cs.length = mks.length → ws.length = mks.length → Vals vs us → Vals ws zs →
    ∃ us', Vals (mergeV nks bs vs mks cs ws).2.2 us' ∧ storedAllH (zip3 nks bs us) (zip3 mks cs zs) = zip3 (mergeV nks bs vs mks cs ws).1 (mergeV nks bs vs mks cs ws).2.1 us'
  | [], cs, ws, zs, nks, bs, vs, us, h1, h2, h3, h4, hv, hz => by
    refine ⟨us, ?_, ?_⟩
    · cases cs <;> cases ws <;> exact hv
    · have e1 : mergeV nks bs vs [] cs ws = (nks, bs, vs) := by cases cs <;> cases ws <;> rfl
      rw [e1]
      have e2 : zip3 [] cs zs = [] := by cases cs <;> cases zs <;> rfl
      rw [e2]
      rfl
  | k :: mks, [], ws, zs, nks, bs, vs, us, h1, h2, h3, h4, hv, hz => by cases h3
  | k :: mks, c :: cs, [], zs, nks, bs, vs, us, h1, h2, h3, h4, hv, hz => by cases h4
  | k :: mks, c :: cs, w :: ws, _, nks, bs, vs, us, h1, h2, h3, h4, hv, .cons (b := z) (l₂ := zs) ru hz => by
    obtain ⟨g1, g2⟩ := atKey_zip (k := k) h1 h2 hv
    have lu : us.length = nks.length := hv.length.symm.trans h2
    show ∃ us', Vals (mergeV nks bs vs (k :: mks) (c :: cs) (w :: ws)).2.2 us' ∧ storedAllH (storedH (zip3 nks bs us) k c z) (zip3 mks cs zs) = _
    cases q : lookV k nks vs with
    | some v0 =>
      have em : mergeV nks bs vs (k :: mks) (c :: cs) (w :: ws) = mergeV nks bs (setVs k w nks vs) mks cs ws := by
        show (match lookV k nks vs with
          | some _ => mergeV nks bs (setVs k w nks vs) mks cs ws
          | none => mergeV (nks ++ [k]) (bs ++ [c]) (vs ++ [w]) mks cs ws) = _
        rw [q]
      obtain ⟨b', u', e2, _⟩ := g1 v0 q
      obtain ⟨us1, f1, f2, _⟩ := map_put (k := k) ru h1 h2 hv
      rw [em, storedH_old e2, f2]
      exact merge_heap h1 (setVs_len h2) (by simpa using h3) (by simpa using h4) f1 hz
    | none =>
      have em : mergeV nks bs vs (k :: mks) (c :: cs) (w :: ws) = mergeV (nks ++ [k]) (bs ++ [c]) (vs ++ [w]) mks cs ws := by
        show (match lookV k nks vs with
          | some _ => mergeV nks bs (setVs k w nks vs) mks cs ws
          | none => mergeV (nks ++ [k]) (bs ++ [c]) (vs ++ [w]) mks cs ws) = _
        rw [q]
      rw [em, storedH_new (g2 q), zip3_snoc h1 lu]
      exact merge_heap (by simp [h1]) (by simp [h2]) (by simpa using h3) (by simpa using h4) (hv.append (.cons ru .nil)) hz
/-- .. and as values -/
theorem merge_vals : ∀ {js es : List D} {mks : List NestedKey} {cs : List Addr} {ws : List V} {ks ds : List D} {nks : List NestedKey} {bs : List Addr} {vs : List V}, MgN K ρ F a ks ds nks bs vs → nkDs js = some mks → (∀ k ∈ mks, (∃ l, k = .tup l) ∧ k.depth ≤ 8) → RVs K ρ F js (cs.map V.ref) → RVs K ρ F es ws → cs.length = mks.length → ws.length = mks.length →
    MgN K ρ F a (mergeN ks ds js es).1 (mergeN ks ds js es).2 (mergeV nks bs vs mks cs ws).1 (mergeV nks bs vs mks cs ws).2.1 (mergeV nks bs vs mks cs ws).2.2 ∧ (mergeV nks bs vs mks cs ws).1.length ≤ nks.length + mks.length
  | [], es, mks, cs, ws, ks, ds, nks, bs, vs, m, hj, ht, rj, re, l1, l2 => by
    have e0 : mks = [] := by simp [nkDs] at hj; exact hj
    subst e0
    have e1 : mergeV nks bs vs [] cs ws = (nks, bs, vs) := by cases cs <;> cases ws <;> rfl
    have e2 : mergeN ks ds [] es = (ks, ds) := by cases es <;> rfl
    rw [e1, e2]
    exact ⟨m, by simp⟩
  | j :: js, es, mks, cs, ws, ks, ds, nks, bs, vs, m, hj, ht, rj, re, l1, l2 => by
    obtain ⟨k, l, rfl, e1, e2⟩ := nkDs_cons hj
    match cs, l1, rj with
    | [], l1, _ => cases l1
    | c :: cs, l1, .cons r1 r2 =>
      match ws, es, l2, re with
      | [], _, l2, _ => cases l2
      | w :: ws, e :: es, l2, .cons r3 r4 =>
        obtain ⟨g1, g2⟩ := look_relN (k := k) m.k m.rd
        have em : mergeN ks ds (j :: js) (e :: es) = (match lookN k ks ds with
            | some _ => mergeN ks (setN k e ks ds) js es
            | none => mergeN (ks ++ [j]) (ds ++ [e]) js es) := by
          show (match nkD j with
            | some k => (match lookN k ks ds with
              | some _ => mergeN ks (setN k e ks ds) js es
              | none => mergeN (ks ++ [j]) (ds ++ [e]) js es)
            | none => (ks, ds)) = _
          rw [e1]
        have ev : mergeV nks bs vs (k :: l) (c :: cs) (w :: ws) = (match lookV k nks vs with
            | some _ => mergeV nks bs (setVs k w nks vs) l cs ws
            | none => mergeV (nks ++ [k]) (bs ++ [c]) (vs ++ [w]) l cs ws) := rfl
        rw [em, ev]
        cases q : lookN k ks ds with
        | some d0 =>
          obtain ⟨v0, e3, _⟩ := g1 d0 q
          rw [e3]
          obtain ⟨h1, h2⟩ := merge_vals (js := js) (es := es) (m.old (k := k) r3) e2 (fun x hx => ht x (List.mem_cons_of_mem _ hx)) r2 r4 (by simpa using l1) (by simpa using l2)
          exact ⟨h1, by rw [List.length_cons]; dsimp only; omega⟩
        | none =>
          have e3 := g2 q
          rw [e3]
          obtain ⟨h1, h2⟩ := merge_vals (js := js) (es := es) (m.more e1 (ht k List.mem_cons_self) r1 r3 e3) e2 (fun x hx => ht x (List.mem_cons_of_mem _ hx)) r2 r4 (by simpa using l1) (by simpa using l2)
          exact ⟨h1, by rw [List.length_append] at h2; rw [List.length_cons]; simp at h2; dsimp only; omega⟩
end
/-- d.update(e) -/
def tUpdN (K : PySem.W.Frag) (w : World) (td ty : TE) : TE := fun σ H Q => td σ H fun x H1 => ∃ a, x = .ref a ∧ (∃ nks bs vs, DicN K w H1 a nks bs vs) ∧ ty σ H1 fun y H2 => ∃ o nks bs vs mks cs ws, y = .ref o ∧ a ≠ o ∧ DicN K w H2 a nks bs vs ∧ DicN K w H2 o mks cs ws ∧ (nks ≠ [] ∨ (mks.map fun k => k.hash w).Nodup) ∧ nks.length + mks.length ≤ 16777216 ∧
  Q .non (upd H2 a (dN w a (mergeV nks bs vs mks cs ws).1 (mergeV nks bs vs mks cs ws).2.1 (mergeV nks bs vs mks cs ws).2.2))
section
variable {X : Cx} {o e : Expr} {td ty : TE} {apos cpos : Pos}
theorem pe_updN (hu : X.A.units + 9 < cLine) (ho : PE X o td) (he : PE X e ty) (m : M1 X o "update" apos e cpos) : PE X (.Call (.Attribute o "update" apos) [e] [] cpos) (tUpdN X.K X.w td ty) := by
  refine ⟨fun pins s σ H Q I h => ?_⟩
  refine wpAny_Call_method m.base m.few m.line PySem.F.plainAttrs_dict PySem.F.slot_dict_update PySem.F.type_dict_update (thn (ho.run pins s σ H _ I h) fun u s1 ⟨x, H1, I1, rx, a, ex, ⟨n1, b1, v1, d1⟩, q1⟩ => ?_)
  subst ex
  obtain rfl : u = Value.ref a := rx
  obtain ⟨t1, t2⟩ := d1.typ I1
  refine ⟨t1, t2, ?_⟩
  rw [m.trees]
  refine Calls.callWith_builtin rfl (Calls.evalArgs_plain (Calls.spliced_cons (thn (he.run pins s1 σ H1 _ I1 q1) fun iv s2 ⟨y, H2, I2, ry, b, nks, bs, vs, mks, cs, ws, ey, hne, d, d2, hap, hsz, q2⟩ => Calls.spliced_nil ?_)))
  subst ey
  cases (show iv = Value.ref b from ry)
  obtain ⟨us, hv, hx⟩ := d.heap I2
  obtain ⟨zs, hz, hy⟩ := d2.heap I2
  have lu : us.length = nks.length := hv.length.symm.trans d.ok.lv
  have lz : zs.length = mks.length := hz.length.symm.trans d2.ok.lv
  have n1 : (zip3 nks bs us).length = nks.length := by
    have := congrArg List.length (zip3_keys d.ok.lb lu)
    rwa [List.length_map] at this
  have n2 : (zip3 mks cs zs).length = mks.length := by
    have := congrArg List.length (zip3_keys d2.ok.lb lz)
    rwa [List.length_map] at this
  have mu : Mut (H2 a) := by rw [d.at_]; exact True.intro
  obtain ⟨us', g1, g2⟩ := merge_heap d.ok.lb d.ok.lv d2.ok.lb d2.ok.lv hv hz
  refine call_update_dictH (room9 hu) hne d2.ok.sm hx hy ?_ (by rw [n1, n2, sizeLine_eq]; exact hsz) fun h' hm' _ hs => ?_
  · rcases hap with q | q
    · refine .inl fun e => q ?_
      have := congrArg List.length e
      rw [n1] at this
      exact List.length_eq_zero_iff.mp this
    · refine .inr ⟨keyed_apart nestedKind_stays hy, ?_⟩
      have e3 : (zip3 mks cs zs).map (fun x => NestedKey.hash X.w x.1) = mks.map fun k => k.hash X.w := by
        have z := congrArg (List.map fun k => NestedKey.hash X.w k) (zip3_keys d2.ok.lb lz)
        rw [List.map_map] at z
        exact z
      show ((zip3 mks cs zs).map fun x => NestedKey.hash X.w x.1).Nodup
      rw [e3]
      exact q
  · rw [g2] at hm'
    have he : ∃ q, h'.get? a = some q := let ⟨q, _, _, hq, _⟩ := hm'; ⟨q, hq⟩
    exact ⟨.non, _, d_write I2 mu hs he (dn_ok g1 hm'), rfl, q2⟩
end
/-- two whole numbers below 20, as a key -/
def pr20 : D → Bool
  | .tup [.int i, .int j] => decide (0 ≤ i) && decide (i < 20) && decide (0 ≤ j) && decide (j < 20)
  | _ => false
def apartN (js : List D) : Bool := js.all pr20
def samePl (x y : D) : Bool := match x, y with
  | .loc n, .loc m => n == m
  | _, _ => false
def eUpdN (fo fe : Ex) : Ex := fun st => (fo st).bind fun x c1 => match dcnOf c1 x with
  | some _ => (fe ⟨st.env, c1⟩).bind fun y c2 => (match x with
    | .loc n => (match c2[n]?, dcnOf c2 y with
      | some (.dn ks ds), some (js, es) => if samePl x y = false ∧ (ks ≠ [] ∨ apartN js = true) ∧ ks.length + js.length ≤ 16777216 then .ok .non (c2.set n (.dn (mergeN ks ds js es).1 (mergeN ks ds js es).2)) else .no
      | _, _ => .no)
    | _ => .no)
  | none => .no
def ndN : List Nat → Bool
  | [] => true
  | x :: r => !(r.any (Nat.beq x)) && ndN r
theorem ndN_nodup : ∀ {l : List Nat}, ndN l = true → l.Nodup
  | [], _ => List.nodup_nil
  | x :: r, h => by
    simp only [ndN, Bool.and_eq_true, Bool.not_eq_true', List.any_eq_false] at h
    refine List.nodup_cons.mpr ⟨fun hm => ?_, ndN_nodup h.2⟩
    exact h.1 x hm (Nat.beq_refl x)
def h20 (n : Nat) : Int := reduceHash (Builtin.Tuple.tupleHashOf [hashInt ((n / 20 : Nat) : Int), hashInt ((n % 20 : Nat) : Int)])
theorem h20_table : ndN ((List.range 400).map fun n => (h20 n % 18446744073709551616).toNat) = true := by kernel_rfl
theorem h20_inj {n m : Nat} (hn : n < 400) (hm : m < 400) (h : h20 n = h20 m) : n = m := by
  have nd := ndN_nodup h20_table
  have e : ((List.range 400).map fun n => (h20 n % 18446744073709551616).toNat)[n]? = ((List.range 400).map fun n => (h20 n % 18446744073709551616).toNat)[m]? := by
    rw [List.getElem?_map, List.getElem?_map, List.getElem?_range hn, List.getElem?_range hm]
    show some ((h20 n % 18446744073709551616).toNat) = some ((h20 m % 18446744073709551616).toNat)
    rw [h]
  exact (List.getElem?_inj (by simpa using hn) nd).mp e
theorem hash_pr {w : World} {k : NestedKey} {d : D} (hd : pr20 d = true) (hk : nkD d = some k) : ∃ i j : Nat, i < 20 ∧ j < 20 ∧ k = .tup [.num i, .num j] ∧ k.hash w = h20 (i * 20 + j) := by
  unfold pr20 at hd
  split at hd
  · rename_i i j
    simp only [Bool.and_eq_true, decide_eq_true_eq] at hd
    obtain ⟨⟨⟨a, b⟩, c⟩, e⟩ := hd
    refine ⟨i.toNat, j.toNat, by omega, by omega, ?_, ?_⟩
    · simp [nkD, nkDs] at hk
      rw [← hk, Int.toNat_of_nonneg a, Int.toNat_of_nonneg c]
    · have hk : k = .tup [.num i, .num j] := by
        simp [nkD, nkDs] at hk
        exact hk.symm
      subst hk
      have e1 : (i.toNat * 20 + j.toNat) / 20 = i.toNat := by omega
      have e2 : (i.toNat * 20 + j.toNat) % 20 = j.toNat := by omega
      unfold h20
      rw [e1, e2, Int.toNat_of_nonneg a, Int.toNat_of_nonneg c]
      simp only [NestedKey.hash, NestedKey.hashes]
  · cases hd
theorem nkDs_mem : ∀ {js : List D} {l : List NestedKey} {k : NestedKey}, nkDs js = some l → k ∈ l → ∃ d ∈ js, nkD d = some k
  | [], l, k, e, h => by
    simp [nkDs] at e
    subst e
    cases h
  | d :: ds, l, k, e, h => by
    obtain ⟨n, l', rfl, f1, f2⟩ := nkDs_cons e
    rcases List.mem_cons.mp h with q | q
    · subst q; exact ⟨d, List.mem_cons_self, f1⟩
    · obtain ⟨d', h1, h2⟩ := nkDs_mem f2 q
      exact ⟨d', List.mem_cons_of_mem _ h1, h2⟩
theorem apart_hash {w : World} : ∀ {js : List D} {mks : List NestedKey}, nkDs js = some mks → apartN js = true → mks.Nodup → (mks.map fun k => k.hash w).Nodup
  | [], mks, h, _, _ => by
    have e0 : mks = [] := by simp [nkDs] at h; exact h
    subst e0
    exact List.nodup_nil
  | j :: js, mks, h, ha, nd => by
    obtain ⟨k, l, rfl, e1, e2⟩ := nkDs_cons h
    have ha' : (pr20 j && js.all pr20) = true := ha
    rw [Bool.and_eq_true] at ha'
    have ndc := List.nodup_cons.mp nd
    refine List.nodup_cons.mpr ⟨fun hm => ?_, apart_hash e2 ha'.2 ndc.2⟩
    obtain ⟨k2, hk2, e3⟩ := List.mem_map.mp hm
    obtain ⟨i, j1, hi, hj, rfl, e4⟩ := hash_pr (w := w) ha'.1 e1
    obtain ⟨d, hd, f⟩ := nkDs_mem e2 hk2
    obtain ⟨i2, j2, hi2, hj2, rfl, e5⟩ := hash_pr (w := w) (List.all_eq_true.mp ha'.2 d hd) f
    have e3 : NestedKey.hash w (.tup [.num i2, .num j2]) = NestedKey.hash w (.tup [.num i, .num j1]) := e3
    rw [e4, e5] at e3
    have := h20_inj (by omega) (by omega) e3
    have q1 : i2 = i := by omega
    have q2 : j2 = j1 := by omega
    subst q1 q2
    exact ndc.1 hk2
section
variable {X : Cx} {G : Gx} {W : WX} {o e : Expr} {fo fe : Ex} {apos cpos : Pos}
theorem de_updN (hK : X.K = G.K.K) (hw : X.w = G.K.w) (hu : X.A.units + 9 < cLine) (ho : PE X o (tE G W fo)) (he : PE X e (tE G W fe)) (m : M1 X o "update" apos e cpos := by exact ⟨rfl, rfl, rfl, rfl⟩) : PE X (.Call (.Attribute o "update" apos) [e] [] cpos) (tE G W (eUpdN fo fe)) := by
  refine (pe_updN hu ho he m).impV ?_
  rintro σ H Q ⟨ρ, F, st, r, p⟩
  unfold eUpdN at p
  refine seqX r p fun ρ1 F1 H1 x c1 v x1 r1 rv1 p1 => ?_
  cases q1 : dcnOf c1 x with
  | none => rw [q1] at p1; exact p1.elim
  | some z =>
    rw [q1] at p1
    obtain ⟨ks, ds⟩ := z
    obtain ⟨aa, nks, bs, vs, rfl, e1, d, rv⟩ := dcn_read (st := ⟨st.env, c1⟩) r1 rv1 q1
    rw [hK, hw]
    refine ⟨aa, rfl, ⟨nks, bs, vs, d⟩, ?_⟩
    refine seqX (st := ⟨st.env, c1⟩) r1 p1 fun ρ2 F2 H2 y c2 w x2 r2 rv2 p2 => ?_
    cases rv1 with
    | @loc n _ hn =>
      simp only at p2
      cases q2 : c2[n]? with
      | none => rw [q2] at p2; exact p2.elim
      | some cc =>
        cases q3 : dcnOf c2 y with
        | none => rw [q2, q3] at p2; cases cc <;> exact p2.elim
        | some z =>
          obtain ⟨js, es⟩ := z
          rw [q2, q3] at p2
          cases cc with
          | dn ks ds =>
            simp only at p2
            by_cases hc : samePl (.loc n) y = false ∧ (ks ≠ [] ∨ apartN js = true) ∧ ks.length + js.length ≤ 16777216
            · rw [if_pos hc] at p2
              obtain ⟨c1', c2', c3'⟩ := hc
              have hn2 := x2.at hn
              obtain ⟨nks, bs, vs, g1, g2, g3, g4, g5⟩ := r2.cell n _ _ q2 hn2
              have d0 : DicN G.K.K G.K.w H2 aa nks bs vs := ⟨g1, g3, nvs_of r2.fz g4 g2⟩
              have ln := nkDs_len g2
              -- the other dict
              have oth : ∃ oo mks cs ws, w = .ref oo ∧ nkDs js = some mks ∧ DicN G.K.K G.K.w H2 oo mks cs ws ∧ RVs G.K ρ2 F2 js (cs.map V.ref) ∧ RVs G.K ρ2 F2 es ws ∧ aa ≠ oo := by
                cases rv2 with
                | dcn h1 h2 h3 h4 h5 =>
                  cases q3
                  refine ⟨_, _, _, _, rfl, h2, ⟨r2.fz _ _ h1, h3, nvs_of r2.fz h4 h2⟩, h4, h5, fun z => ?_⟩
                  have := r2.sep aa (List.mem_of_getElem? hn2)
                  rw [z, h1] at this
                  cases this
                | @loc m b h1 =>
                  unfold dcnOf at q3
                  simp only at q3
                  cases q : c2[m]? with
                  | none => rw [q] at q3; cases q3
                  | some c =>
                    rw [q] at q3
                    cases c with
                    | dn ks' ds' =>
                      cases q3
                      obtain ⟨mks, cs, ws, f1, f2, f3, f4, f5⟩ := r2.cell m _ b q h1
                      refine ⟨b, mks, cs, ws, rfl, f2, ⟨f1, f3, nvs_of r2.fz f4 f2⟩, f4, f5, fun z => ?_⟩
                      subst z
                      obtain ⟨z1, z1'⟩ := List.getElem?_eq_some_iff.mp h1
                      obtain ⟨z2, z2'⟩ := List.getElem?_eq_some_iff.mp hn2
                      have : n = m := (List.getElem_inj r2.nd).mp (z2'.trans z1'.symm)
                      subst this
                      simp [samePl] at c1'
                    | _ => cases q3
                | _ => cases q3
              obtain ⟨oo, mks, cs, ws, rfl, f2, d2, f4, f5, hne⟩ := oth
              have lm := nkDs_len f2
              obtain ⟨mg, hle⟩ := merge_vals (a := aa) (⟨g2, g4, g5, g3.nd, g3.lb, g3.lv, g3.dp⟩ : MgN G.K ρ2 F2 aa ks ds nks bs vs) f2 d2.ok.dp f4 f5 d2.ok.lb d2.ok.lv
              refine ⟨oo, nks, bs, vs, mks, cs, ws, rfl, hne, d0, d2, ?_, by omega, ?_⟩
              · rcases c2' with z | z
                · refine .inl fun e => z ?_
                  rw [e] at ln
                  exact List.length_eq_zero_iff.mp ln.symm
                · exact .inr (apart_hash f2 z d2.ok.nd)
              · exact p2 ρ2 F2 _ .non Ext.refl (r2.cellSet (st := ⟨st.env, c2⟩) (c := .dn _ _) hn2 ⟨_, _, _, upd_same, mg.k, ⟨mg.nd, g3.sm, by omega, mg.lb, mg.lv, mg.dp⟩, mg.rk, mg.rd⟩) .non
            · rw [if_neg hc] at p2
              exact p2.elim
          | _ => exact p2.elim
    | _ => exact p2.elim
end
end VL
namespace VL
open PySem PySem.Calls PySem.Spec PyProof.Rows L2
theorem nd_le : ∀ {l m : List Int}, l.Nodup → (∀ k ∈ l, k ∈ m) → l.length ≤ m.length
  | [], m, _, _ => Nat.zero_le _
  | x :: l, m, h, hs => by
    have hx := hs x List.mem_cons_self
    have hc := List.nodup_cons.mp h
    have ih := nd_le (m := m.erase x) hc.2 fun k hk => (List.mem_erase_of_ne (fun e : k = x => hc.1 (e ▸ hk))).mpr (hs k (List.mem_cons_of_mem _ hk))
    rw [List.length_erase_of_mem hx] at ih
    have : 0 < m.length := List.length_pos_of_mem hx
    rw [List.length_cons]
    omega
theorem perm_len {l m : List Int} (h1 : l.Nodup) (h2 : m.Nodup) (h : ∀ k, k ∈ l ↔ k ∈ m) : l.length = m.length :=
  Nat.le_antisymm (nd_le h1 fun k hk => (h k).mp hk) (nd_le h2 fun k hk => (h k).mpr hk)
/-- the first place of a number -/
def firstI (k : Int) : List Int → Option Nat
  | [] => none
  | x :: r => if x = k then some 0 else (firstI k r).map (· + 1)
theorem firstI_at {k : Int} : ∀ {l : List Int} {j : Nat}, firstI k l = some j → l[j]? = some k ∧ ∀ m, m < j → l[m]? ≠ some k
  | [], j, h => by cases h
  | x :: r, j, h => by
    unfold firstI at h
    by_cases c : x = k
    · rw [if_pos c] at h
      cases h
      exact ⟨by rw [← c]; rfl, fun m hm => absurd hm (Nat.not_lt_zero m)⟩
    · rw [if_neg c] at h
      cases q : firstI k r with
      | none => rw [q] at h; cases h
      | some i =>
        rw [q] at h
        cases h
        obtain ⟨h1, h2⟩ := firstI_at q
        refine ⟨h1, fun m hm => ?_⟩
        cases m with
        | zero => exact fun e => c (Option.some.inj e)
        | succ m => exact h2 m (Nat.lt_of_succ_lt_succ hm)
def eRemove (fo f : Ex) : Ex := fun st => (fo st).bind fun x c1 => match x with
  | .loc n => (match c1[n]? with
    | some (.lst _) => (f ⟨st.env, c1⟩).bind fun y c2 => (match y, c2[n]? with
      | .int k, some (.lst ds) => (match intsOf ds with
        | some ns => (match firstI k ns with
          | some j => .ok .non (c2.set n (.lst (ds.eraseIdx j)))
          | none => .no)
        | none => .no)
      | _, _ => .no)
    | _ => .no)
  | _ => .no
theorem RVs.erase {K : Kt} {ρ : List Addr} {F : Hp} : ∀ {ds : List D} {vs : List V} (j : Nat), RVs K ρ F ds vs → RVs K ρ F (ds.eraseIdx j) (vs.eraseIdx j)
  | _, _, _, .nil => .nil
  | _, _, 0, .cons h t => t
  | _, _, j + 1, .cons h t => .cons h (RVs.erase j t)
section
variable {X : Cx} {G : Gx} {W : WX} {a : Expr} {fa fo f : Ex} {p p2 q pos : Pos}
theorem de_remove {c : Expr} (hK : X.K = G.K.K) (h : PE X c (tBM X.K "list" rRemI (tE G W fo) (tCons (tE G W f) tNil))) : PE X c (tE G W (eRemove fo f)) :=
  h.impV fun σ H Q ⟨ρ, F, st, r, p⟩ => seqX r p fun ρ1 F1 H1 x c1 v x1 r1 rv1 p1 => by
    cases rv1 with
    | @loc n a0 h1 =>
      simp only at p1
      split at p1
      · rename_i ds0 q
        obtain ⟨vs0, h2, h3⟩ := r1.cell n _ _ q h1
        refine ⟨.inl ⟨rfl, vs0, SqL.of h2⟩, ?_⟩
        refine seqX (st := ⟨st.env, c1⟩) (f := f) r1 p1 fun ρ2 F2 H2 y c2 w x2 r2 rv2 p2 => ?_
        split at p2
        · rename_i k ds q2
          cases qi : intsOf ds with
          | none => rw [qi] at p2; exact p2.elim
          | some ns =>
            rw [qi] at p2
            simp only at p2
            cases qf : firstI k ns with
            | none => rw [qf] at p2; exact p2.elim
            | some j =>
              rw [qf] at p2
              simp only at p2
              obtain ⟨vs, h4, h5⟩ := r2.cell n _ _ q2 (x2.at h1)
              have ev := ints_rel h5 qi
              subst ev
              cases rv2
              obtain ⟨f1, f2⟩ := firstI_at qf
              refine ⟨a0, ns, k, j, rfl, rfl, h4, f1, f2, ?_⟩
              have z := RVs.erase j h5
              have em : (ns.map V.int).eraseIdx j = (ns.eraseIdx j).map V.int := by
                clear h4 h5 f1 f2 qf qi p2 z
                induction ns generalizing j with
                | nil => rfl
                | cons x r ih => cases j with
                  | zero => rfl
                  | succ j => show V.int x :: (r.map V.int).eraseIdx j = V.int x :: (r.eraseIdx j).map V.int; rw [ih]
              rw [em] at z
              exact p2 ρ2 F2 _ .non Ext.refl (r2.cellSet (st := ⟨st.env, c2⟩) (c := .lst (ds.eraseIdx j)) (x2.at h1) ⟨_, upd_same, z⟩) .non
        · exact p2.elim
      · exact p1.elim
    | _ => exact p1.elim
theorem mt_tupIdxI : MtR X "tuple.index" (fun x xs H Q => ∃ p ns k j, x = .ref p ∧ xs = [.int k] ∧ SqT X.K H p (ns.map V.int) ∧ firstI k ns = some j ∧ Q (.int (j : Nat)) H) := by
  intro pins s σ H x xs v us Q I rx rs h
  obtain ⟨p, ns, k, j, rfl, rfl, hq, hj, q⟩ := h
  cases rx
  obtain ⟨u, rfl, t, rfl⟩ := vals1 rs
  obtain ⟨its, r, pl, hz⟩ := I.tuple hq
  obtain ⟨f1, f2⟩ := firstI_at hj
  have hm : k ∈ ns := List.mem_of_getElem? f1
  refine PySem.SeqAt.call_tuple_index (ks := ns) (k := k) pl (PySem.SeqAt.ItemsEq.ints (by simpa using r.ints)) hm ?_
  have e : ns.idxOf k = j := by
    have l1 : ns.idxOf k < ns.length := List.idxOf_lt_length_iff.mpr hm
    have l2 : ns[ns.idxOf k]? = some k := by rw [List.getElem?_eq_getElem l1, List.getElem_idxOf l1]
    rcases Nat.lt_trichotomy (ns.idxOf k) j with c | c | c
    · exact absurd l2 (f2 _ c)
    · exact c
    · have hl : j < ns.length := (List.getElem?_eq_some_iff.mp f1).1
      have := List.not_of_lt_findIdx (p := (· == k)) (xs := ns) (i := j) c
      have e2 := (List.getElem?_eq_some_iff.mp f1).2
      simp [e2] at this
  rw [e]
  exact ⟨.int (j : Nat), H, I.tok _, ⟨_, rfl⟩, q⟩
def gIdxI : F2 := fun cs x y => match x, y with
  | .tup ds, .int k => (match intsOf ds with
    | some ns => (match firstI k ns with
      | some j => .ok (.int (j : Nat)) cs
      | none => .no)
    | none => .no)
  | _, _ => .no
def eIdxI (fo f : Ex) : Ex := fun st => (fo st).bind fun x c1 => match x with
  | .btp ds => (f ⟨st.env, c1⟩).bind fun y c2 => gIdxI c2 (.tup ds) y
  | _ => .no
def tIdxI (td ty : TE) : TE := fun σ H Q => td σ H fun x H1 => ∃ p o vs, x = .ref p ∧ H1 p = some (.frz o (.tup vs)) ∧ o.dict = none ∧ ty σ H1 fun y H2 => ∃ ns k j, y = .int k ∧ H2 p = some (.frz o (.tup (ns.map V.int))) ∧ firstI k ns = some j ∧ Q (.int (j : Nat)) H2
theorem pe_idxI {o e : Expr} {td ty : TE} {apos cpos : Pos} (ho : PE X o td) (he : PE X e ty) (m : M1 X o "index" apos e cpos) : PE X (.Call (.Attribute o "index" apos) [e] [] cpos) (tIdxI td ty) := by
  refine ⟨fun pins s σ H Q I h => ?_⟩
  refine wpAny_Call_method m.base m.few m.line PySem.F.plainAttrs_tuple PySem.F.slot_tuple_index PySem.F.type_tuple_index (thn (ho.run pins s σ H _ I h) fun u s1 ⟨x, H1, I1, rx, a, ob, vs, ex, hH, hd, q1⟩ => ?_)
  subst ex
  obtain rfl : u = Value.ref a := rx
  obtain ⟨hob, hoO⟩ := (show ObjOk X.prog X.w H1 s1.heap a (.frz ob (.tup vs)) from I1.hok a _ hH)
  obtain ⟨its, r, pl, hz⟩ := I1.tuple (show SqT X.K H1 a vs from .inl (.inr ⟨_, hH⟩))
  refine ⟨pl.typeIs, fun b e => by cases e; exact ⟨ob, hob, hd⟩, ?_⟩
  rw [m.trees]
  refine Calls.callWith_builtin rfl (Calls.evalArgs_plain (Calls.spliced_cons (thn (he.run pins s1 σ H1 _ I1 q1) fun iv s2 ⟨y, H2, I2, ry, ns, k, j, ey, hH2, hj, q2⟩ => Calls.spliced_nil ?_)))
  subst ey
  exact mt_tupIdxI pins s2 σ H2 (.ref a) [.int k] (.ref a) [iv] Q I2 rfl (.cons ry .nil) ⟨a, ns, k, j, rfl, rfl, .inl (.inr ⟨_, hH2⟩), hj, q2⟩
theorem de_idxI {o e : Expr} {fo fe : Ex} {apos cpos : Pos} (hK : X.K = G.K.K) (ho : PE X o (tE G W fo)) (he : PE X e (tE G W fe)) (m : M1 X o "index" apos e cpos := by exact ⟨rfl, rfl, rfl, rfl⟩) : PE X (.Call (.Attribute o "index" apos) [e] [] cpos) (tE G W (eIdxI fo fe)) := by
  refine (pe_idxI ho he m).impV ?_
  rintro σ H Q ⟨ρ, F, st, r, p⟩
  unfold eIdxI at p
  refine seqX r p fun ρ1 F1 H1 x c1 v x1 r1 rv1 p1 => ?_
  cases rv1 with
  | @btp a0 ob vs ds h1 hd h2 =>
    simp only at p1
    refine ⟨a0, ob, vs, rfl, r1.fz _ _ h1, hd, ?_⟩
    refine seqX (st := ⟨st.env, c1⟩) (f := fe) r1 p1 fun ρ2 F2 H2 y c2 w x2 r2 rv2 p2 => ?_
    unfold gIdxI at p2
    split at p2
    · rename_i ds' k e1
      cases e1
      cases qi : intsOf ds with
      | none => rw [qi] at p2; exact p2.elim
      | some ns =>
        rw [qi] at p2
        simp only at p2
        cases qf : firstI k ns with
        | none => rw [qf] at p2; exact p2.elim
        | some j =>
          rw [qf] at p2
          simp only at p2
          have ev := ints_rel h2 qi
          subst ev
          cases rv2
          exact ⟨ns, k, j, rfl, r2.fz _ _ (x2.fz _ _ h1), qf, p2.here (st := ⟨st.env, c2⟩) r2 (.int _)⟩
    · exact p2.elim
  | _ => exact p1.elim
def distinct : List Int → List Int
  | [] => []
  | x :: r => if (distinct r).elem x then distinct r else x :: distinct r
theorem distinct_nd : ∀ (l : List Int), (distinct l).Nodup ∧ ∀ k, k ∈ distinct l ↔ k ∈ l
  | [] => ⟨List.nodup_nil, fun k => Iff.rfl⟩
  | x :: r => by
    obtain ⟨h1, h2⟩ := distinct_nd r
    unfold distinct
    by_cases c : (distinct r).elem x = true
    · rw [if_pos c]
      refine ⟨h1, fun k => ?_⟩
      rw [h2, List.mem_cons]
      refine ⟨.inr, fun h => h.elim (fun e => ?_) id⟩
      subst e
      exact (h2 k).mp (List.elem_iff.mp c)
    · rw [if_neg c]
      refine ⟨List.nodup_cons.mpr ⟨fun h => c (List.elem_iff.mpr h), h1⟩, fun k => ?_⟩
      rw [List.mem_cons, List.mem_cons, h2]
def tLenSetJ (K : PySem.W.Frag) (ta : TE) : TE := fun σ H Q => ta σ H fun x H1 => ∃ (l : Addr) (ns : List Int), x = V.ref l ∧ SqT K H1 l (ns.map V.int) ∧ ns.length < 64 ∧ Q (.int (distinct ns).length) H1
theorem pe_lenSetJ {ta : TE} (hc : X.calm = true) (hg : Gl X "len") (hm : X.mg "len" = none) (hg2 : Gl X "set") (hm2 : X.mg "set" = none) (ha : PE X a ta)
    (na : starEach [a] X.env = (false, eval a X.env) :: starEach [] X.env := by rfl) : PE X (.Call (.Name "len" p) [.Call (.Name "set" p2) [a] [] q] [] pos) (tLenSetJ X.K ta) := by
  refine ⟨fun pins s σ H Q I h => ?_⟩
  refine Call_ (ld_blt I hg hm PySem.boot_len ?_)
  refine PyProof.Rows.callWith_builtin1 (PyProof.Rows.args_cons ?_ rfl) rfl rfl
  refine Call_ (ld_blt I hg2 hm2 PyProof.Rows.boot_set ?_)
  refine PyProof.Rows.callWith_type1 (PyProof.Rows.args_cons (thn (ha.run pins s σ H _ I h) fun v s1 ⟨x, H1, I1, r1, q1⟩ => PyProof.Rows.args_nil ?_) na) na rfl
  obtain ⟨l, ns, rfl, hq, h1, q1⟩ := q1
  cases r1
  obtain ⟨its, r, pl, hz⟩ := I1.tuple hq
  refine call_set_tupI ns (I1.ok.hd hc) pl (by simpa using r.ints) (by unfold scanBound; omega) fun h' tk c hS hle hk => PyProof.Rows.args_nil ?_
  obtain ⟨o, es, ep, t, ho, hex, hd, _, hnd, hmem, _, hf, hn, _⟩ := hS
  have I2 : Inv X pins σ H1 { s1 with heap := h', toks := tk } := I1.kept fun b o e => hk b o e
  obtain ⟨d1, d2⟩ := distinct_nd ns
  have hl : c = (distinct ns).length := by
    rw [← hn, ← Array.length_toList, ← List.length_map (f := keyOf)]
    refine perm_len hnd d1 fun k => ?_
    rw [← hmem k, d2 k, decide_eq_true_eq]
  exact call_len_set ho hex hd hf (by rw [hn] <;> omega) ⟨.int (distinct ns).length, H1, I2.tok _, ⟨_, by rw [hn, hl]⟩, q1⟩
def eLenSetI (fa : Ex) : Ex := fun st => (fa st).bind fun x c1 => match x with
  | .tup ds => (match intsOf ds with
    | some ns => if decide (ns.length < 64) then .ok (.int ((distinct ns).length : Nat)) c1 else .no
    | none => .no)
  | _ => .no
theorem de_lenSetI (hK : X.K = G.K.K) (hc : X.calm = true) (hg : Gl X "len") (hm : X.mg "len" = none) (hg2 : Gl X "set") (hm2 : X.mg "set" = none) (ha : PE X a (tE G W fa)) (na : starEach [a] X.env = (false, eval a X.env) :: starEach [] X.env := by rfl) :
    PE X (.Call (.Name "len" p) [.Call (.Name "set" p2) [a] [] q] [] pos) (tE G W (eLenSetI fa)) := by
  refine (pe_lenSetJ hc hg hm hg2 hm2 ha na).impV fun σ H Q ⟨ρ, F, st, r, po⟩ => seqX r po fun ρ1 F1 H1 x c1 v x1 r1 rv1 p1 => ?_
  cases rv1 with
  | tup h1 h2 =>
    rename_i l ws ds
    simp only at p1
    cases qq : intsOf ds with
    | none => rw [qq] at p1; exact p1.elim
    | some ns =>
      rw [qq] at p1
      simp only at p1
      by_cases c : decide (ns.length < 64) = true
      · rw [if_pos c] at p1
        have ev := ints_rel h2 qq
        subst ev
        exact ⟨_, ns, rfl, by rw [hK]; exact sqT_same r1.fz h1, of_decide_eq_true c, p1.here (st := ⟨st.env, c1⟩) r1 (.int _)⟩
      · rw [if_neg c] at p1
        exact p1.elim
  | _ => exact p1.elim
end
end VL
namespace VL
open PySem PySem.Spec PyProof.Rows L2
theorem units10 {k : Nat} {A : Around} (r : Room k A) : A.units + 10 < cLine := by
  have := r.un
  omega
/-- the pairs (key, value) of a list -/
inductive PsN (K : PySem.W.Frag) (H : Hp) : List Addr → List Addr → List V → Prop
  | nil : PsN K H [] [] []
  | cons {p c : Addr} {w : V} {ps cs : List Addr} {ws : List V} : SqT K H p [.ref c, w] → PsN K H ps cs ws → PsN K H (p :: ps) (c :: cs) (w :: ws)
def prsOf : List Addr → List Value → List (Value × Value)
  | c :: cs, z :: zs => (.ref c, z) :: prsOf cs zs
  | _, _ => []
theorem PsN.len {K : PySem.W.Frag} {H : Hp} : ∀ {ps cs : List Addr} {ws : List V}, PsN K H ps cs ws → cs.length = ps.length ∧ ws.length = ps.length
  | _, _, _, .nil => ⟨rfl, rfl⟩
  | _, _, _, .cons _ t => by
    obtain ⟨h1, h2⟩ := t.len
    simp [h1, h2]
section
variable {X : Cx}
theorem psN_heap {pins : List (Addr × Obj)} {σ : L2.St} {H : Hp} {s : Shared} (I : Inv X pins σ H s) : ∀ {ps cs : List Addr} {ws : List V}, PsN X.K H ps cs ws →
    ∃ zs, Vals ws zs ∧ (prsOf cs zs).length = ps.length ∧ ∀ j k v, (prsOf cs zs)[j]? = some (k, v) → (ps.map Value.ref)[j]? = some (.ref (ps.getD j 0)) ∧ PairAt s.heap (ps.getD j 0) k v
  | _, _, _, .nil => ⟨[], .nil, rfl, fun j k v e => by simp [prsOf] at e⟩
  | _, _, _, .cons (p := p) (c := c) (w := w) h t => by
    obtain ⟨zs, r, hl, hp⟩ := psN_heap I t
    obtain ⟨its, rv, ht, _⟩ := I.tuple h
    obtain ⟨u, y, ei, ru, ry⟩ := vals2 rv
    subst ei
    cases (show u = Value.ref c from ru)
    refine ⟨y :: zs, .cons ry r, by show _ + 1 = _ + 1; rw [hl], fun j k v e => ?_⟩
    cases j with
    | zero =>
      cases (show some (Value.ref c, y) = some (k, v) from e)
      exact ⟨rfl, .inl ht⟩
    | succ j => exact hp j k v e
theorem prs_zip3 : ∀ {mks : List NestedKey} {cs : List Addr} {zs : List Value}, cs.length = mks.length → (zip3 mks cs zs).length = (prsOf cs zs).length ∧ ∀ (i : Nat) (key v : Value), (prsOf cs zs)[i]? = some (key, v) → ∃ k b, (zip3 mks cs zs)[i]? = some (k, b, v) ∧ key = Value.ref b
  | [], [], zs, _ => by
    have e1 : zip3 [] [] zs = [] := by cases zs <;> rfl
    have e2 : prsOf [] zs = [] := by cases zs <;> rfl
    rw [e1, e2]
    exact ⟨rfl, fun i key v e => by cases e⟩
  | [], _ :: _, _, h => by cases h
  | _ :: _, [], _, h => by cases h
  | k :: mks, c :: cs, [], h => ⟨rfl, fun i key v e => by cases e⟩
  | k :: mks, c :: cs, z :: zs, h => by
    obtain ⟨h1, h2⟩ := prs_zip3 (mks := mks) (cs := cs) (zs := zs) (by simpa using h)
    refine ⟨congrArg (· + 1) h1, fun i key v e => ?_⟩
    cases i with
    | zero =>
      cases (show some (Value.ref c, z) = some (key, v) from e)
      exact ⟨k, c, rfl, rfl⟩
    | succ i => exact h2 i key v e
def rDictN (K : PySem.W.Frag) (w : World) : List V → Hp → VK → Prop := fun xs H Q => ∃ a ps cs mks ws, xs = [V.ref a] ∧ SqL K H a (ps.map V.ref) ∧ PsN K H ps cs ws ∧ NVs K H (cs.map V.ref) mks ∧ (∀ k ∈ mks, (∃ l, k = .tup l) ∧ k.depth ≤ 8) ∧ cs.length = mks.length ∧
  ∀ p, H p = none → (p == sysModules) = false → Q (.ref p) (upd H p (dN w p (mergeV [] [] [] mks cs ws).1 (mergeV [] [] [] mks cs ws).2.1 (mergeV [] [] [] mks cs ws).2.2))
theorem call_dictN (hcalm : X.calm = true) (hu : X.A.units + 10 < cLine) : CallR X (.type "dict") (rDictN X.K X.w) := by
  intro pins s σ H xs us Q I r q
  obtain ⟨a, ps, cs, mks, ws, ex, hq, hp, hk, hdp, hl, q⟩ := q
  subst ex
  obtain ⟨u, eu, rx⟩ := vals1 r
  subst eu
  cases rx
  obtain ⟨its, rv, pl, hz⟩ := I.list hq
  have ei := refs_at rv
  subst ei
  rw [List.length_map] at hz
  obtain ⟨zs, hv, hlen, hpr⟩ := psN_heap I hp
  obtain ⟨l1, l2⟩ := hp.len
  obtain ⟨z1, z2⟩ := prs_zip3 (zs := zs) hl
  obtain ⟨us', g1, g2⟩ := merge_heap (nks := []) (bs := []) (vs := []) (us := []) rfl rfl hl (l2.trans (l1.symm.trans hl)) .nil hv
  obtain ⟨o, n, ho, hc, hd, hdat⟩ := pl
  have his : ∀ x ∈ zip3 mks cs zs, (nestedKind X.prog X.w).is s.heap x.1 x.2.1 := zip3_is (K := X.K) (nvs_is I hk vals_refs) fun k hm => (hdp k hm).2
  refine PySem.call_dict_pairsH (knd := nestedKind X.prog X.w) (ps := zip3 mks cs zs) (PairArg.list a (ps.map Value.ref).toArray (fun j => ps.getD j 0) (prsOf cs zs)) (I.ok.hd hcalm) ?_ ⟨⟨o, n, ho, hc, hd, hdat⟩, by simp [hlen], fun j k v e => ?_⟩ ⟨z1, z2⟩ ?_ (by rw [hlen]; exact hz) fun h' tk hd' k => ?_
  · show X.A.units + 1 + 1 + 8 < cLine
    omega
  · obtain ⟨e1, e2⟩ := hpr j k v e
    exact ⟨by simpa using e1, e2⟩
  · intro h' hk' x hx
    exact nestedKind_stays.stays (fun b o vs n e _ => hk' b o (Nat.ne_of_lt (Heap.lt_size e)) (by simp) e) (his x hx)
  · have hm : (s.heap.objs.size == sysModules) = false := beq_eq_false_iff_ne.mpr (Nat.ne_of_gt I.big)
    have g2 : storedAllH [] (zip3 mks cs zs) = _ := g2
    rw [g2] at hd'
    exact ⟨.ref s.heap.objs.size, _, I.laid (t' := tk) (fun b o e => k b o (by simp) e) (Nat.le_refl _) (dn_ok g1 hd'), rfl, q _ (I.hok.fresh (Nat.le_refl _)) hm⟩
end
def pairsN : List D → Option (List D × List D)
  | [] => some ([], [])
  | .tup [k, d] :: r => (match nkT k, pairsN r with
    | some _, some (js, es) => some (k :: js, d :: es)
    | _, _ => none)
  | _ :: _ => none
theorem pairsN_rel {G : Gx} {ρ : List Addr} {F : Hp} {st : S} {σ : L2.St} {H : Hp} (r : Rel G ρ F st σ H) : ∀ {xs js es : List D} {vs : List V}, RVs G.K ρ F xs vs → pairsN xs = some (js, es) → ∃ ps cs mks ws, vs = ps.map V.ref ∧ PsN G.K.K H ps cs ws ∧ nkDs js = some mks ∧ (∀ k ∈ mks, (∃ l, k = .tup l) ∧ k.depth ≤ 8) ∧ RVs G.K ρ F js (cs.map V.ref) ∧ RVs G.K ρ F es ws ∧ cs.length = mks.length
  | _, _, _, _, .nil, e => by
    cases e
    exact ⟨[], [], [], [], rfl, .nil, by simp [nkDs], (fun k hk => by cases hk), .nil, .nil, rfl⟩
  | _, js, es, _, @RVs.cons _ _ _ x xs y ys hx t, e => by
    cases hx with
    | tup h1 h2 =>
      cases h2 with
      | nil => simp [pairsN] at e
      | cons a1 t1 =>
        cases t1 with
        | nil => simp [pairsN] at e
        | cons a2 t2 =>
          cases t2 with
          | cons a3 t3 => simp [pairsN] at e
          | nil =>
            rename_i kd _ vd _
            unfold pairsN at e
            cases q1 : nkT kd with
            | none => rw [q1] at e; cases e
            | some j =>
              cases q2 : pairsN xs with
              | none => rw [q1, q2] at e; cases e
              | some l =>
                obtain ⟨js', es'⟩ := l
                rw [q1, q2] at e
                cases e
                obtain ⟨ps, cs, mks, ws, rfl, e2, e3, e4, e5, e6, e7⟩ := pairsN_rel r t q2
                obtain ⟨k1, k2, k3⟩ := nkT_of q1
                obtain ⟨b, hk⟩ := key_read r a1 q1
                have := hk.is
                subst this
                refine ⟨_ :: ps, b :: cs, j :: mks, _ :: ws, rfl, .cons (sqT_same r.fz h1) e2, ?_, fun k hm => ?_, .cons a1 e5, .cons a2 e6, by simp [e7]⟩
                · simp [nkDs, k1, e3]
                · rcases List.mem_cons.mp hm with z | z
                  · subst z; exact ⟨k2, k3⟩
                  · exact e4 k z
    | _ => simp [pairsN] at e
def hDictN : FB := fun cs ds => match ds with
  | [d] => (match lstOf cs d with
    | some xs => (match pairsN xs with
      | some (js, es) => if xs.length ≤ 16777216 then .ok (.dcn (mergeN [] [] js es).1 (mergeN [] [] js es).2) cs else .no
      | none => .no)
    | none => .no)
  | _ => .no
section
variable {X : Cx} {G : Gx} {W : WX} {e : Expr} {es : List Expr} {g : Ax} {pos p : Pos}
theorem vn_dictN : VN G W (rDictN G.K.K G.K.w) hDictN := by
  intro ρ F st σ H ds vs Q r rv po
  unfold hDictN at po
  split at po
  · rename_i d
    cases rv with
    | cons h1 h2 =>
      cases h2
      cases q1 : lstOf st.cs d with
      | none => rw [q1] at po; exact po.elim
      | some xs =>
        rw [q1] at po
        obtain ⟨a2, ws0, rfl, s2, r2⟩ := lst_read r h1 q1
        dsimp only at po
        cases q : pairsN xs with
        | none => rw [q] at po; exact po.elim
        | some z =>
          obtain ⟨js, es⟩ := z
          rw [q] at po
          dsimp only at po
          by_cases hz : xs.length ≤ 16777216
          · rw [if_pos hz] at po
            obtain ⟨ps, cs, mks, ws, rfl, e2, e3, e4, e5, e6, e7⟩ := pairsN_rel r r2 q
            have hl := e2.len
            refine ⟨a2, ps, cs, mks, ws, rfl, s2, e2, nvs_of r.fz e5 e3, e4, e7, fun p hp hs => ?_⟩
            obtain ⟨mg, hle⟩ := merge_vals (a := p) (⟨by simp [nkDs], .nil, .nil, by simp, rfl, rfl, fun k hk => by cases hk⟩ : MgN G.K ρ F p [] [] [] [] []) e3 e4 e5 e6 e7 (hl.2.trans (hl.1.symm.trans e7))
            obtain ⟨x1, r1⟩ := r.fresh (o := dN G.K.w p (mergeV [] [] [] mks cs ws).1 (mergeV [] [] [] mks cs ws).2.1 (mergeV [] [] [] mks cs ws).2.2) hp
            have hx : xs.length = mks.length := by
              have := r2.length
              rw [List.length_map, ← hl.1, e7] at this
              exact this
            refine po _ _ _ _ x1 r1 (.dcn upd_same mg.k ⟨mg.nd, hs, ?_, mg.lb, mg.lv, mg.dp⟩ (mg.rk.ext x1) (mg.rd.ext x1))
            simp only [List.length_nil] at hle
            omega
          · rw [if_neg hz] at po
            exact po.elim
  · exact po.elim
theorem de_dictN (hc : X.calm = true) (hu : X.A.units + 10 < cLine) (hK : X.K = G.K.K) (hw : X.w = G.K.w) (hg : Gl X "dict") (hm : X.mg "dict" = none) (ha : PA X (e :: es) (tAs G W g)) (he : starEach (e :: es) X.env = (false, eval e X.env) :: starEach es X.env := by rfl) (hpl : (backTo pos (starEach es X.env)).any (·.1) = false := by rfl) : PE X (.Call (.Name "dict" p) (e :: es) [] pos) (tE G W (eB hDictN g)) :=
  de_callTy (call_dictN hc hu) (by rw [hK, hw]; exact vn_dictN) hg hm (by decide +kernel) ha (he := he) (hpl := hpl)
end
end VL
namespace VL
open PySem PySem.Spec PyProof.Rows L2
section
variable {prog : Program} {w : World} {K : Type} [DecidableEq K] {knd : HeapKind prog w K} {A : Around} {E : Value → Shared → Prop} {s : Shared}
theorem put_new {h : Heap} {d a : Addr} {o : Obj} {es : Array DictEntry} {ep : Nat} {xs : List (K × Addr × Value)} {k : K} {v : Value} (hkey : knd.is h k a) (ho : h.get? d = some o) (hc : o.ExactDict) (hd : o.data = .dict es ep) (he : es.toList = xs.map (entryOfKey knd)) (his : ∀ x ∈ xs, knd.is h x.1 x.2.1) (hn : (xs.map (·.1)).Nodup) (hno : k ∉ xs.map (·.1)) :
    (h.update d (Obj.mapDictKeys (·.push ⟨knd.hash k, .ref a, v⟩))).DictOfH knd d (xs ++ [(k, a, v)]) := by
  have sb := Heap.SameBut.update (h := h) (a := d) (f := Obj.mapDictKeys (·.push ⟨knd.hash k, .ref a, v⟩))
  refine ⟨_, _, ep + 1, Heap.get?_update_self _ ho (Obj.isFreed_of_dict (Obj.data_mapDictKeys hd _)), hc.mapDictKeys _, Obj.data_mapDictKeys hd _, ?_, fun x hx => ?_, ?_⟩
  · rw [Array.toList_push, he, List.map_append]
    rfl
  · rcases List.mem_append.mp hx with q | q
    · exact knd.keeps (his x q) ho hd (Heap.SameBut.update ..)
    · rw [List.mem_singleton.mp q]
      exact knd.keeps hkey ho hd (Heap.SameBut.update ..)
  · rw [List.map_append]
    refine List.nodup_append.mpr ⟨hn, by simp, fun x hx y hy e => ?_⟩
    have hy : y = k := by simpa using hy
    exact hno (hy ▸ e ▸ hx)
theorem put_old {h : Heap} {d : Addr} {o : Obj} {es : Array DictEntry} {ep j : Nat} {xs : List (K × Addr × Value)} {k : K} {v : Value} {p : Addr × Value} (ho : h.get? d = some o) (hc : o.ExactDict) (hd : o.data = .dict es ep) (he : es.toList = xs.map (entryOfKey knd)) (his : ∀ x ∈ xs, knd.is h x.1 x.2.1) (hn : (xs.map (·.1)).Nodup) (hj : xs[j]? = some (k, p)) :
    (h.update d (Obj.mapDict (·.modify j fun e => { e with val := v }))).DictOfH knd d (xs.map (putAt k v)) := by
  refine ⟨_, _, ep, Heap.get?_update_self _ ho (Obj.isFreed_of_dict (Obj.data_mapDict hd _)), hc.mapDict _, Obj.data_mapDict hd _, ?_, fun x hx => ?_, ?_⟩
  · rw [← modify_map_putAt (entryOfKey knd) (fun e : DictEntry => { e with val := v }) k v (fun _ _ => rfl) hn hj, ← he]
    obtain ⟨l⟩ := es
    simp
  · obtain ⟨y, hy, e⟩ := List.mem_map.mp hx
    have := knd.keeps (his y hy) ho hd (Heap.SameBut.update (h := h) (a := d) (f := Obj.mapDict (·.modify j fun e => { e with val := v })))
    subst e
    unfold putAt
    by_cases c : y.1 = k
    · rw [if_pos c]; exact this
    · rw [if_neg c]; exact this
  · rw [keys_map_putAt]
    exact hn
/-- one more entry, its hash told -/
theorem wp_dictPut {d a : Addr} {xs : List (K × Addr × Value)} {k : K} {v : Value} {Q : Unit → Shared → Prop} (hu : knd.room A) (hkey : knd.is s.heap k a) (hm : s.heap.DictOfH knd d xs) (hsz : xs.length ≤ sizeLine)
    (hQ : ∀ h', h'.DictOfH knd d (storedH xs k a v) → Heap.SameBut d s.heap h' → Q () { s with heap := h' }) :
    wpAny (model prog w) A (dictPut d (knd.hash k) (.ref a) v) Q E s := by
  obtain ⟨o, es, ep, ho, hc, hd, he, his, hn⟩ := hm
  unfold dictPut
  refine wpAny_bind (wpAny_dictFind_heap hu hkey ho hd he his hn (fun hno => ?_) (fun j p hj => ?_))
  · have ex := storedH_new (a := a) (v := v) (atKey_none_of_get hno)
    refine wpAny_updateDictKeys (hz := by have e := size_of_entries he; omega) ho hd (hQ _ ?_ (Heap.SameBut.update ..))
    rw [ex]
    exact put_new hkey ho hc hd he his hn (not_mem_keys_of_get hno)
  · have ex := storedH_old (a := a) (v := v) (atKey_of_get hn hj)
    refine wpAny_updateDict ho hd (hQ _ ?_ (Heap.SameBut.update ..))
    rw [ex]
    exact put_old ho hc hd he his hn hj
/-- the entries of o, laid into d -/
theorem wp_mergeMapping {d o : Addr} {kvs more : List (K × Addr × Value)} {Q : Unit → Shared → Prop} (hu : knd.room A) (hdo : d ≠ o) (hoS : (o == sysModules) = false)
    (hd : s.heap.DictOfH knd d kvs) (ho : s.heap.DictOfH knd o more) (hap : kvs ≠ [] ∨ ((∀ x ∈ more, s.TypeIs (.ref x.2.1) "tuple") ∧ (more.map fun x => knd.hash x.1).Nodup))
    (hsz : kvs.length + more.length ≤ sizeLine)
    (hQ : ∀ h', h'.DictOfH knd d (storedAllH kvs more) → Heap.SameBut d s.heap h' → Q () { s with heap := h' }) :
    wpAny (model prog w) A (mergeMapping d (.ref o) false) Q E s := by
  obtain ⟨od, esd, epd, hod, hcd, hdd, hed, hisd, hnd⟩ := id hd
  obtain ⟨oo, eso, epo, hoo, hco, hdo', heo, hiso, hno⟩ := id ho
  have hlen : eso.size = more.length := size_of_entries heo
  unfold mergeMapping
  dsimp only
  refine wpAny_bind (wpAny_isInstance ho.typeIs isSubtype_dict_dict ?_)
  rw [if_pos rfl]
  refine wpAny_bind (wpAny_specialOf ho.typeIs F.slot_dict_iter.lookup ?_)
  refine wpAny_bind (wpAny_pure ?_)
  rw [show (some (Value.builtin "dict.__iter__") == some (Value.builtin "dict.__iter__")) = true from by decide]
  dsimp only
  rw [if_neg (by rw [hoS]; exact Bool.false_ne_true)]
  have loop : wpAny (model prog w) A (do
      let l ← dictEntries o
      let epoch ← dictEpoch o
      forIn (List.range l.size) PUnit.unit fun i (_ : PUnit) => (do
          let l' ← dictEntries o
          match l'[i]? with
            | some e => do
              holding [e.key, e.val] (dictPut d e.hash e.key e.val)
              let ep' ← dictEpoch o
              if (ep' != epoch) = true then do
                  (unsupported "dict.changed-during-merge" : Sem PUnit)
                  pure (ForInStep.yield PUnit.unit)
                else pure (ForInStep.yield PUnit.unit)
            | _ => do
              (unsupported "dict.changed-during-merge" : Sem PUnit)
              pure (ForInStep.yield PUnit.unit) : Sem (ForInStep PUnit))
      pure ()) Q E s := by
    refine wpAny_bind (wpAny_dictEntries hoo hdo' (wpAny_bind (wpAny_dictEpoch hoo hdo' (wpAny_bind ?_))))
    refine wpAny_forIn_list _ (fun rest _ s' => ∃ h' i, s' = { s with heap := h' } ∧ rest = List.range' i (more.length - i) ∧ i ≤ more.length ∧ h'.DictOfH knd d (storedAllH kvs (more.take i)) ∧ h'.DictOfH knd o more ∧ h'.get? o = some oo ∧ Heap.SameBut d s.heap h') _ ?_ ?_ _ _
      ⟨s.heap, 0, rfl, by rw [hlen, List.range_eq_range', Nat.sub_zero], Nat.zero_le _, hd, ho, hoo, Heap.SameBut.refl _ _⟩
    · rintro x rest b s' ⟨h', i, rfl, hr, hi, hd', ho', hoo', hs'⟩
      obtain ⟨k, ek⟩ : ∃ k, more.length - i = k := ⟨_, rfl⟩
      rw [ek] at hr
      cases k with
      | zero => cases hr
      | succ k =>
        rw [List.range'_succ] at hr
        injection hr with h1 h2
        subst h1
        have hx : x < more.length := by omega
        obtain ⟨⟨k0, a, v⟩, hkv⟩ : ∃ z, more[x]? = some z := ⟨_, List.getElem?_eq_getElem hx⟩
        have hkey : knd.is h' k0 a := let ⟨_, _, _, _, _, _, _, q, _⟩ := ho'; q (k0, a, v) (List.mem_of_getElem? hkv)
        have hle : (storedAllH kvs (more.take x)).length ≤ sizeLine := by
          have e1 := storedAllH_length (more.take x) kvs
          rw [List.length_take] at e1
          omega
        refine wpAny_bind (wpAny_dictEntries hoo' hdo' ?_)
        rw [entry_at heo x, hkv]
        refine wpAny_bind (wpAny_holding (wp_dictPut (s := { s with heap := h' }) hu hkey hd' hle fun g2 hd2 hs2 => ?_))
        have hoo2 : g2.get? o = some oo := (hs2.2 o (Ne.symm hdo)).trans hoo'
        refine wpAny_bind (wpAny_dictEpoch hoo2 hdo' ?_)
        rw [if_neg (by simp)]
        refine wpAny_pure ⟨g2, x + 1, rfl, ?_, hx, ?_, ho'.notHere hd' hdo hs2, hoo2, hs'.trans hs2⟩
        · rw [h2]
          congr 1
          omega
        · rw [storedAllH_take_succ kvs more x (k0, a, v) hkv]
          exact hd2
    · rintro b s' ⟨h', i, rfl, hr, hi, hd', ho', hoo', hs'⟩
      have hin : i = more.length := by
        have := congrArg List.length hr
        rw [List.length_range'] at this
        have : 0 = more.length - i := this
        omega
      subst hin
      rw [List.take_length] at hd'
      exact wpAny_pure (hQ h' hd' hs')
  refine wpAny_bind (wpAny_dictEntries hod hdd ?_)
  refine wpAny_ite_split (fun hemp => ?_) (fun _ => loop)
  have hk0 : kvs = [] := by
    have z := size_of_entries hed
    rw [Array.isEmpty_iff.mp hemp] at z
    exact List.length_eq_zero_iff.mp z.symm
  have hap' := hap.resolve_left fun q => q hk0
  have apart := keysApart (s := s) heo hap'.1 hap'.2
  refine wpAny_bind (wpAny_dictEntries hoo hdo' (wpAny_bind ?_))
  rw [← Array.forIn_toList]
  refine wpAny_forIn_list _ (fun rest _ s' => s' = s ∧ ∀ e ∈ rest, KeyApart s eso e) _ ?_ ?_ _ _ ⟨rfl, apart⟩
  · rintro e rest b s' ⟨rfl, hall⟩
    have hrest : ∀ x ∈ rest, KeyApart s' eso x := fun x hx => hall x (List.mem_cons_of_mem _ hx)
    rcases hall e List.mem_cons_self with hv | ⟨a, hk, hT, h1⟩
    · cases ek : e.key with
      | ref a => rw [ek] at hv; cases hv
      | _ => exact wpAny_pure ⟨rfl, hrest⟩
    · rw [hk]
      refine wpAny_bind (wpAny_specialOf hT F.slot_tuple_eq.lookup ?_)
      refine wpAny_ite_split (fun _ => ?_) (fun _ => wpAny_pure ⟨rfl, hrest⟩)
      rw [if_neg (by omega)]
      exact wpAny_pure ⟨rfl, hrest⟩
  · rintro b s' ⟨rfl, _⟩
    exact loop
end
/-- what the merge asks and gives -/
def MergeR (K : PySem.W.Frag) (w : World) (a : Addr) (x : V) (H : Hp) (R : Hp → Prop) : Prop := ∃ o nks bs vs mks cs ws, x = .ref o ∧ a ≠ o ∧ DicN K w H a nks bs vs ∧ DicN K w H o mks cs ws ∧ (nks ≠ [] ∨ (mks.map fun k => k.hash w).Nodup) ∧ nks.length + mks.length ≤ 16777216 ∧
  R (upd H a (dN w a (mergeV nks bs vs mks cs ws).1 (mergeV nks bs vs mks cs ws).2.1 (mergeV nks bs vs mks cs ws).2.2))
def tStar2 (K : PySem.W.Frag) (w : World) (ta tb : TE) : TE := fun σ H Q => ∀ D, H D = none → (D == sysModules) = false →
  ta σ (upd H D (dN w D [] [] [])) fun x H1 => MergeR K w D x H1 fun H2 => tb σ H2 fun y H3 => MergeR K w D y H3 fun H4 => Q (.ref D) H4
section
variable {X : Cx} {a b : Expr} {ta tb : TE} {pos : Pos}
theorem merge_run (hu : X.A.units + 9 < cLine) {pins : List (Addr × Obj)} {σ : L2.St} {H : Hp} {s : Shared} {E : Value → Shared → Prop} {Q : Unit → Shared → Prop} (I : Inv X pins σ H s) {d : Addr} {x : V} {u : Value} {R : Hp → Prop} (rx : RelV x u) (m : MergeR X.K X.w d x H R)
    (hQ : ∀ s', ∀ H', Inv X pins σ H' s' → R H' → Q () s') : wpAny (model X.prog X.w) X.A (mergeMapping d u false) Q E s := by
  obtain ⟨o, nks, bs, vs, mks, cs, ws, ex, hne, d1, d2, hap, hsz, q⟩ := m
  subst ex
  obtain rfl : u = Value.ref o := rx
  obtain ⟨us, hv, hx⟩ := d1.heap I
  obtain ⟨zs, hz, hy⟩ := d2.heap I
  have lu : us.length = nks.length := hv.length.symm.trans d1.ok.lv
  have lz : zs.length = mks.length := hz.length.symm.trans d2.ok.lv
  have n1 : (zip3 nks bs us).length = nks.length := by
    have := congrArg List.length (zip3_keys d1.ok.lb lu)
    rwa [List.length_map] at this
  have n2 : (zip3 mks cs zs).length = mks.length := by
    have := congrArg List.length (zip3_keys d2.ok.lb lz)
    rwa [List.length_map] at this
  have mu : Mut (H d) := by rw [d1.at_]; exact True.intro
  obtain ⟨us', g1, g2⟩ := merge_heap d1.ok.lb d1.ok.lv d2.ok.lb d2.ok.lv hv hz
  refine wp_mergeMapping (show X.A.units + 8 < cLine by omega) hne d2.ok.sm hx hy ?_ (by rw [n1, n2, sizeLine_eq]; exact hsz) fun h' hm' hs => ?_
  · rcases hap with q | q
    · refine .inl fun e => q ?_
      have := congrArg List.length e
      rw [n1] at this
      exact List.length_eq_zero_iff.mp this
    · refine .inr ⟨keyed_apart nestedKind_stays hy, ?_⟩
      have e3 : (zip3 mks cs zs).map (fun x => NestedKey.hash X.w x.1) = mks.map fun k => k.hash X.w := by
        have z := congrArg (List.map fun k => NestedKey.hash X.w k) (zip3_keys d2.ok.lb lz)
        rw [List.map_map] at z
        exact z
      show ((zip3 mks cs zs).map fun x => NestedKey.hash X.w x.1).Nodup
      rw [e3]
      exact q
  · rw [g2] at hm'
    have he : ∃ q, h'.get? d = some q := let ⟨q, _, _, hq, _⟩ := hm'; ⟨q, hq⟩
    exact hQ _ _ (d_write I mu hs he (dn_ok g1 hm')) q
theorem pe_star2 (hu : X.A.units + 9 < cLine) (ha : PE X a ta) (hb : PE X b tb) : PE X (.Dict [none, none] [a, b] pos) (tStar2 X.K X.w ta tb) := by
  refine ⟨fun pins s σ H Q I h => ?_⟩
  rw [arm_eval_Dict]
  refine wpAny_bind (wpAny_standAt ?_)
  show wpAny _ _ (dictDisplay [(none, (do let x ← eval a X.env; standAt pos; pure x)), (none, (do let x ← eval b X.env; standAt pos; pure x))]) _ _ _
  unfold dictDisplay
  dsimp only
  have hm : (s.heap.objs.size == sysModules) = false := beq_eq_false_iff_ne.mpr (Nat.ne_of_gt I.big)
  have hH : H s.heap.objs.size = none := I.hok.fresh (Nat.le_refl _)
  have I0 : Inv X pins σ (upd H s.heap.objs.size (dN X.w s.heap.objs.size [] [] [])) { s with heap := s.heap.push { cls := .type "dict", data := .dict #[] } } :=
    I.laid (a := s.heap.objs.size) (o := dN X.w s.heap.objs.size [] [] []) (t' := s.toks) (fun _ _ q => Heap.get?_push_of_some _ q) (Nat.le_refl _) ⟨⟨_, #[], 0, [], Heap.get?_push_size _ rfl, ⟨rfl, rfl, rfl⟩, rfl, .nil, rfl⟩, ⟨_, Heap.get?_push_size _ rfl⟩, fun h1 h2 ⟨o, es, ep, us, a1, a2, a3, a4, a5⟩ k => ⟨o, es, ep, us, k o a1, a2, a3, a4, a5⟩⟩
  have q0 := h _ hH hm
  rw [List.forIn_cons]
  refine wpAny_bind (wpAny_bind ?_)
  dsimp only
  rw [if_pos (show ([] : List (Sem Value × Sem Value)).isEmpty = true from rfl)]
  refine wpAny_bind (wpAny_pure (wpAny_bind (wpAny_alloc (wpAny_bind (wpAny_holding (wpAny_bind (thn (ha.run pins _ σ _ _ I0 q0) fun u s1 ⟨x, H1, I1, rx, q1⟩ => wpAny_bind (wpAny_standAt (wpAny_pure ?_)))))))))
  refine wpAny_bind (wpAny_onRaise (wpAny_tryCatch (wpAny_onRaise (wpAny_holding (merge_run hu I1 rx q1 fun s2 H2 I2 q2 => ?_)))))
  refine wpAny_pure ?_
  dsimp only
  rw [List.forIn_cons]
  refine wpAny_bind ?_
  dsimp only
  rw [if_pos (show ([] : List (Sem Value × Sem Value)).isEmpty = true from rfl)]
  refine wpAny_bind (wpAny_pure (wpAny_bind (wpAny_pure (wpAny_bind (wpAny_holding (wpAny_bind (thn (hb.run pins _ σ _ _ I2 q2) fun u2 s3 ⟨y, H3, I3, ry, q3⟩ => wpAny_bind (wpAny_standAt (wpAny_pure ?_)))))))))
  refine wpAny_bind (wpAny_onRaise (wpAny_tryCatch (wpAny_onRaise (wpAny_holding (merge_run hu I3 ry q3 fun s4 H4 I4 q4 => ?_)))))
  refine wpAny_pure ?_
  dsimp only
  rw [List.forIn_nil]
  refine wpAny_pure ?_
  dsimp only
  rw [if_pos (show ([] : List (Sem Value × Sem Value)).isEmpty = true from rfl)]
  refine wpAny_bind (wpAny_pure ?_)
  exact wpAny_pure ⟨.ref s.heap.objs.size, H4, I4, rfl, q4⟩
end
def mergeC (n : Nat) (y : D) (cs : List Cell) : Option (List Cell) := match cs[n]?, dcnOf cs y with
  | some (.dn ks ds), some (js, es) => if samePl (.loc n) y = false ∧ (ks ≠ [] ∨ apartN js = true) ∧ ks.length + js.length ≤ 16777216 then some (cs.set n (.dn (mergeN ks ds js es).1 (mergeN ks ds js es).2)) else none
  | _, _ => none
def eStar2 (fa fb : Ex) : Ex := fun st => (fa ⟨st.env, st.cs ++ [.dn [] []]⟩).bind fun x c1 => match mergeC st.cs.length x c1 with
  | some c2 => (fb ⟨st.env, c2⟩).bind fun y c3 => (match mergeC st.cs.length y c3 with
    | some c4 => .ok (.loc st.cs.length) c4
    | none => .no)
  | none => .no
section
variable {X : Cx} {G : Gx} {W : WX} {a b : Expr} {fa fb : Ex} {pos : Pos}
theorem mergeC_of {ρ : List Addr} {F : Hp} {st : S} {σ : L2.St} {H : Hp} {n : Nat} {aa : Addr} {y : D} {w : V} {c' : List Cell} {R : Hp → Prop} (r : Rel G ρ F st σ H) (hn : ρ[n]? = some aa) (rv : RV G.K ρ F y w) (e : mergeC n y st.cs = some c') (h : ∀ H', Rel G ρ F ⟨st.env, c'⟩ σ H' → R H') : MergeR G.K.K G.K.w aa w H R := by
  unfold mergeC at e
  cases q2 : st.cs[n]? with
  | none => rw [q2] at e; cases e
  | some cc =>
    cases q3 : dcnOf st.cs y with
    | none => rw [q2, q3] at e; cases cc <;> cases e
    | some z =>
      obtain ⟨js, es⟩ := z
      rw [q2, q3] at e
      cases cc with
      | dn ks ds =>
        simp only at e
        by_cases hc : samePl (.loc n) y = false ∧ (ks ≠ [] ∨ apartN js = true) ∧ ks.length + js.length ≤ 16777216
        · rw [if_pos hc] at e
          cases e
          obtain ⟨c1', c2', c3'⟩ := hc
          obtain ⟨nks, bs, vs, g1, g2, g3, g4, g5⟩ := r.cell n _ _ q2 hn
          have d0 : DicN G.K.K G.K.w H aa nks bs vs := ⟨g1, g3, nvs_of r.fz g4 g2⟩
          have ln := nkDs_len g2
          have oth : ∃ oo mks cs ws, w = .ref oo ∧ nkDs js = some mks ∧ DicN G.K.K G.K.w H oo mks cs ws ∧ RVs G.K ρ F js (cs.map V.ref) ∧ RVs G.K ρ F es ws ∧ aa ≠ oo := by
            cases rv with
            | dcn h1 h2 h3 h4 h5 =>
              cases q3
              refine ⟨_, _, _, _, rfl, h2, ⟨r.fz _ _ h1, h3, nvs_of r.fz h4 h2⟩, h4, h5, fun z => ?_⟩
              have := r.sep aa (List.mem_of_getElem? hn)
              rw [z, h1] at this
              cases this
            | @loc m b h1 =>
              unfold dcnOf at q3
              simp only at q3
              cases q : st.cs[m]? with
              | none => rw [q] at q3; cases q3
              | some c =>
                rw [q] at q3
                cases c with
                | dn ks' ds' =>
                  cases q3
                  obtain ⟨mks, cs, ws, f1, f2, f3, f4, f5⟩ := r.cell m _ b q h1
                  refine ⟨b, mks, cs, ws, rfl, f2, ⟨f1, f3, nvs_of r.fz f4 f2⟩, f4, f5, fun z => ?_⟩
                  subst z
                  obtain ⟨z1, z1'⟩ := List.getElem?_eq_some_iff.mp h1
                  obtain ⟨z2, z2'⟩ := List.getElem?_eq_some_iff.mp hn
                  have : n = m := (List.getElem_inj r.nd).mp (z2'.trans z1'.symm)
                  subst this
                  simp [samePl] at c1'
                | _ => cases q3
            | _ => cases q3
          obtain ⟨oo, mks, cs, ws, rfl, f2, d2, f4, f5, hne⟩ := oth
          have lm := nkDs_len f2
          obtain ⟨mg, hle⟩ := merge_vals (a := aa) (⟨g2, g4, g5, g3.nd, g3.lb, g3.lv, g3.dp⟩ : MgN G.K ρ F aa ks ds nks bs vs) f2 d2.ok.dp f4 f5 d2.ok.lb d2.ok.lv
          refine ⟨oo, nks, bs, vs, mks, cs, ws, rfl, hne, d0, d2, ?_, by omega, ?_⟩
          · rcases c2' with z | z
            · refine .inl fun e => z ?_
              rw [e] at ln
              exact List.length_eq_zero_iff.mp ln.symm
            · exact .inr (apart_hash f2 z d2.ok.nd)
          · exact h _ (r.cellSet (c := .dn _ _) hn ⟨_, _, _, upd_same, mg.k, ⟨mg.nd, g3.sm, by omega, mg.lb, mg.lv, mg.dp⟩, mg.rk, mg.rd⟩)
        · rw [if_neg hc] at e
          cases e
      | _ => cases e
theorem de_star2 (hK : X.K = G.K.K) (hw : X.w = G.K.w) (hu : X.A.units + 9 < cLine) (ha : PE X a (tE G W fa)) (hb : PE X b (tE G W fb)) : PE X (.Dict [none, none] [a, b] pos) (tE G W (eStar2 fa fb)) := by
  refine (pe_star2 hu ha hb).impV ?_
  rintro σ H Q ⟨ρ, F, st, r, p⟩ D hD hS
  rw [hK, hw]
  unfold eStar2 at p
  obtain ⟨x0, r0⟩ := r.cellNew (p := D) (o := dN G.K.w D [] [] []) (c := .dn [] []) hD ⟨[], [], [], upd_same, by simp [nkDs], ⟨by simp, hS, by simp, rfl, rfl, fun k hk => by cases hk⟩, .nil, .nil⟩
  have at0 : (ρ ++ [D])[st.cs.length]? = some D := by
    rw [← r.cl, List.getElem?_append_right (Nat.le_refl _), Nat.sub_self]
    rfl
  refine seqX r0 (p.ext x0) fun ρ1 F1 H1 x c1 v x1 r1 rv1 p1 => ?_
  cases q1 : mergeC st.cs.length x c1 with
  | none => rw [q1] at p1; exact p1.elim
  | some c2 =>
    rw [q1] at p1
    refine mergeC_of (st := ⟨st.env, c1⟩) r1 (x1.at at0) rv1 q1 fun H2 r2 => ?_
    refine seqX (st := ⟨st.env, c2⟩) r2 p1 fun ρ3 F3 H3 y c3 w x3 r3 rv3 p3 => ?_
    cases q3 : mergeC st.cs.length y c3 with
    | none => rw [q3] at p3; exact p3.elim
    | some c4 =>
      rw [q3] at p3
      exact mergeC_of (st := ⟨st.env, c3⟩) r3 (x3.at (x1.at at0)) rv3 q3 fun H4 r4 => p3 _ _ _ _ Ext.refl r4 (.loc (x3.at (x1.at at0)))
end
end VL
namespace VL
open PySem PySem.Spec PyProof.Rows L2
abbrev dc2 (kx vx t0 i0 : Expr) (ifs0 : List Expr) (t1 i1 : Expr) (ifs1 : List Expr) (scope : Scope) (pos : Pos) : Expr := .DictComp kx vx [⟨t0, i0, ifs0, 0⟩, ⟨t1, i1, ifs1, 0⟩] scope pos
theorem dc2_turn0 (kx vx t0 i0 : Expr) (ifs0 : List Expr) (t1 i1 : Expr) (ifs1 : List Expr) (scope : Scope) (pos : Pos) (it acc : Value) (env : Env) : compTurn (dc2 kx vx t0 i0 ifs0 t1 i1 ifs1 scope pos) 0 it acc env = (do
    standAt i0.pos
    match ← pyNext it with
    | none => pure (.done .next)
    | some v =>
      letOwnedTupleGo t0 it v
      assign t0 env v
      let mut ok := true
      for c in ifs0 do
        if ok then ok ← isTrue c env (eval c env)
      if ok then
        let x ← eval i1 env
        standAt i1.pos
        let x ← foldedSetIterable i1 env x
        let _ ← runOwn (.compStart (dc2 kx vx t0 i0 ifs0 t1 i1 ifs1 scope pos) 1 (← holding [x] (pyIter x)) acc env) env
      again (.compLoop (dc2 kx vx t0 i0 ifs0 t1 i1 ifs1 scope pos) 0 it acc env)) := by rfl
theorem dc2_turn1 (kx vx t0 i0 : Expr) (ifs0 : List Expr) (t1 i1 : Expr) (ifs1 : List Expr) (scope : Scope) (pos : Pos) (it : Value) (D : Addr) (env : Env) : compTurn (dc2 kx vx t0 i0 ifs0 t1 i1 ifs1 scope pos) 1 it (.ref D) env = (do
    standAt i1.pos
    match ← pyNext it with
    | none => pure (.done .next)
    | some v =>
      letOwnedTupleGo t1 it v
      assign t1 env v
      let mut ok := true
      for c in ifs1 do
        if ok then ok ← isTrue c env (eval c env)
      if ok then
        (do
          let kv ← eval kx env
          let vv ← holding [kv] (eval vx env)
          standAt { kx.pos with endLine := vx.pos.endLine, endCol := vx.pos.endCol }
          holding [kv, vv] (dictSet D kv vv))
      again (.compLoop (dc2 kx vx t0 i0 ifs0 t1 i1 ifs1 scope pos) 1 it (.ref D) env)) := by rfl
/-- the state ahead of a turn, P being pinned -/
def LoopP (Y : Cx) (P : List (Addr × Obj)) (σ0 : L2.St) (fp : List Addr) (tn : Nat → Heap → Prop) (W : Nat → Nat → Hp → Prop) (n : Nat) (s : Shared) : Prop := ∃ i H, Inv Y P σ0 H s ∧ tn i s.heap ∧ (∀ b ∈ fp, H b = none) ∧ W i n H
section
variable {Y : Cx} {P : List (Addr × Obj)} {fp : List Addr} {tn : Nat → Heap → Prop} {σ0 : L2.St} {it D : Addr} {J : It} {kx vx t0 i0 t1 i1 : Expr} {ifs0 ifs1 : List Expr} {scope : Scope} {pos : Pos} {g g1 : TG} {tt tt1 : TT} {tk tv : TE} {wi1 : TI} {W : Nat → Nat → Hp → Prop}
theorem loop_againP {tg : Expr} (T : Turn Y.prog Y.w Y.K tg J fp it tn) {i m : Nat} {σ8 : L2.St} {s7 s' : Shared} {H' : Hp} (I' : Inv Y (P ++ pinsAt fp s7.heap) σ8 H' s') (st7 : tn (i + 1) s7.heap) (hl : σ0.length = σ8.length) (hk : ∀ (j : Nat) (v : V), σ0[j]? = some (some v) → σ8[j]? = some (some v)) (w' : W (i + 1) m H') : LoopP Y P σ0 fp tn W m s' := by
  have still : ∀ b ∈ fp, ∀ o, s7.heap.get? b = some o → s'.heap.get? b = some o ∧ H' b = none := by
    intro b hb o e
    obtain ⟨q1, q2, _⟩ := I'.pin (b, o) (List.mem_append_right _ (List.mem_append_right _ (mem_pinsAt hb e)))
    exact ⟨q1, q2⟩
  refine ⟨i + 1, H', I'.unpinned.weak hl hk, T.keep _ _ _ st7 (fun b hb o e => (still b hb o e).1), ?_, w'⟩
  intro b hb
  obtain ⟨o, e, _⟩ := T.obj _ _ st7 b hb
  exact (still b hb o e).2
theorem no_ex : ∀ (v : Value) (s : Shared), (fun (_ : Value) (_ : Shared) => False) v s → False := fun _ _ e => e
/-- the second clause's loop -/
theorem dc2_inner (hx : ∀ v s, Y.xe v s → False) (hu : Y.A.units + 9 < cLine) (hcal : Y.calm = true) (pg : PG Y t1 g1) (pt : PTs Y ifs1 tt1) (pk : PE Y kx tk) (pv : PE Y vx tv) (T : Turn Y.prog Y.w Y.K t1 J fp it tn)
    (free : ∀ H : Hp, (∀ b ∈ fp, H b = none) → ∀ b ∈ fp, FpOk Y P H b) {vs1 : List Nat} {Nx : Hp → Prop} {Fin : Shared → Prop} (fin : ∀ s' H', Inv Y P σ0 H' s' → Nx H' → Fin s')
    (turn : ∀ j k H, W j k H → (J.stop j H ∧ Nx H) ∨ (J.go j H ∧ ∃ Nx1 : Hp → Prop, (∀ H', Nx1 H' → ∃ k', k' < k ∧ W (j + 1) k' H') ∧ ∀ x H', J.yld j H x H' → g1 x σ0 H' fun σ3 H5 => wipe σ3 vs1 = σ0 ∧ tt1 σ3 H5 fun b H6 =>
      if b = true then tk σ3 H6 fun y H7 => tv σ3 H7 fun z H8 => rSetN Y.K Y.w (.ref D) y z H8 Nx1 else Nx1 H6))
    {k : Nat} {s : Shared} (h : LoopP Y P σ0 fp tn W k s) : codeAny (model Y.prog Y.w) Y.A (.compLoop (dc2 kx vx t0 i0 ifs0 t1 i1 ifs1 scope pos) 1 (.ref it) (.ref D) Y.env) (fun r s' => match r with
      | .ok _ => Fin s'
      | .error _ => False) s := by
  refine codeAny_loop rfl (LoopP Y P σ0 fp tn W) (fun n s hI => ?_) k h
  show wpAny _ Y.A ((compTurn (dc2 kx vx t0 i0 ifs0 t1 i1 ifs1 scope pos) 1 (.ref it) (.ref D) Y.env).onRaise (fun x => do noteFrame x Y.env; theTreesLotGoes x)) _ _ s
  refine wpAny_noted ?_
  rw [dc2_turn1]
  obtain ⟨i, H, I, st, hn, w⟩ := hI
  refine wpAny_bind (wpAny_standAt (wpAny_bind ?_))
  rcases turn i n H w with ⟨stop, nx⟩ | ⟨go, Nx1, hNx, step⟩
  · refine thn0 no_ex (T.done Y rfl rfl rfl hcal i P s σ0 H (fun _ _ => False) I (free H hn) st stop) fun r s6 ⟨hr, I6⟩ => ?_
    subst hr
    exact wpAny_pure (fin _ _ I6 nx)
  · refine thn0 no_ex (T.item Y rfl rfl rfl hcal i P s σ0 H (fun _ _ => False) I (free H hn) st go) fun r s1 ⟨u, hr, h1⟩ => ?_
    subst hr
    refine wpAny_bind (thn0 no_ex h1 fun _ s2 ⟨x, H2, I2, rx, yd, st2, n2⟩ => ?_)
    have P2 := I2.pinned (free H2 n2) (T.obj _ _ st2)
    refine wpAny_bind (thn0 hx (pg.run _ s2 σ0 H2 x u _ P2 rx (step x H2 yd)) fun _ s3 ⟨σ3, H3, I3, hw, q3⟩ => ?_)
    have len3 : σ0.length = σ3.length := by rw [← hw, wipe_length]
    have kept : ∀ (j : Nat) (v : V), σ0[j]? = some (some v) → σ3[j]? = some (some v) := by
      intro j v e
      rw [← hw] at e
      exact (wipe_some e).1
    have back : ∀ (s' : Shared) (H' : Hp), Inv Y (P ++ pinsAt fp s2.heap) σ3 H' s' → Nx1 H' → ∃ m, m < n ∧ LoopP Y P σ0 fp tn W m s' := by
      intro s' H' I' nx
      obtain ⟨m, hm, hw'⟩ := hNx H' nx
      exact ⟨m, hm, loop_againP T I' st2 len3 kept hw'⟩
    refine wpAny_bind (thn0 hx (pt.run _ s3 σ3 H3 _ I3 q3) fun b s4 ⟨H4, I4, q4⟩ => ?_)
    cases b with
    | false =>
      have q4 : Nx1 H4 := q4
      exact wpAny_pure ⟨rfl, back s4 H4 I4 q4⟩
    | true =>
      have q4 : tk σ3 H4 fun y H7 => tv σ3 H7 fun z H8 => rSetN Y.K Y.w (.ref D) y z H8 Nx1 := q4
      refine wpAny_bind (wpAny_bind (thn0 hx (pk.run _ s4 σ3 H4 _ I4 q4) fun ku s5 ⟨y, H5, I5, ry, q5⟩ => ?_))
      refine wpAny_bind (wpAny_holding (thn0 hx (pv.run _ s5 σ3 H5 _ I5 q5) fun vu s6 ⟨z, H6, I6, rz, q6⟩ => ?_))
      exact wpAny_bind (wpAny_standAt (wpAny_holding (dictSetN hu I6 ry rz q6 fun s' H' I' nx => wpAny_pure ⟨rfl, back s' H' I' nx⟩)))
/-- its start -/
theorem dc2_start1 {R : Result → Shared → Prop} {s : Shared} {itv acc : Value} {env : Env} {prog : Program} {w : World} {A : Around} (h0 : codeAny (model prog w) A (.compLoop (dc2 kx vx t0 i0 ifs0 t1 i1 ifs1 scope pos) 1 itv acc env) R s)
    (h : wpAny (model prog w) A (pyIter itv) (fun i' s' => codeAny (model prog w) A (.compLoop (dc2 kx vx t0 i0 ifs0 t1 i1 ifs1 scope pos) 1 i' acc env) R s') (notedBy (model prog w) A env fun x s' => R (.error x) s') s) :
    codeAny (model prog w) A (.compStart (dc2 kx vx t0 i0 ifs0 t1 i1 ifs1 scope pos) 1 itv acc env) R s := by
  refine codeAny_of_tree ?_
  show wpAny _ _ ((compStart (dc2 kx vx t0 i0 ifs0 t1 i1 ifs1 scope pos) 1 itv acc env).onRaise (fun x => do noteFrame x env; standAt theWindowsPlace)) _ _ s
  refine wpAny_notedAt ?_
  unfold compStart
  show wpAny _ _ (ask >>= _) _ _ s
  refine wpAny_bind (wpAny_askSetting (wpAny_ite ?_))
  split
  · exact wpAny_pure ⟨rfl, h0⟩
  · refine wpAny_bind (wpAny_rule ?_)
    show wpAny _ _ (standAt i1.pos >>= _) _ _ s
    exact wpAny_bind (wpAny_standAt (wpAny_bind (wpAny_mono h (fun i' s' h' => wpAny_pure ⟨rfl, h'⟩) fun _ _ x => x)))
/-- the first clause's loop -/
theorem dc2_outer (hx : ∀ v s, Y.xe v s → False) (hu : Y.A.units + 9 < cLine) (hcal : Y.calm = true) (hex : ∀ b ∈ fp, b ∈ Y.ex) (hpn : Y.pn = []) (pg : PG Y t0 g) (pt : PTs Y ifs0 tt) (pi1 : PI Y t1 i1 wi1) (pg1 : PG Y t1 g1) (pt1 : PTs Y ifs1 tt1) (pk : PE Y kx tk) (pv : PE Y vx tv) (hs1 : ∀ env x, foldedSetIterable i1 env x = pure x)
    (T : Turn Y.prog Y.w Y.K t0 J fp it tn) {vs vs1 : List Nat} (hv : ∀ i ∈ vs1, i ∈ vs) {Fn : Hp → Prop} {R : Result → Shared → Prop} (fin : ∀ s' H', Inv Y [] σ0 H' s' → Fn H' → R (.ok .next) s')
    (turn : ∀ i m H, W i m H → (J.stop i H ∧ Fn H) ∨ (J.go i H ∧ ∃ Nx : Hp → Prop, (∀ H', Nx H' → ∃ m', m' < m ∧ W (i + 1) m' H') ∧ ∀ x H', J.yld i H x H' → g x σ0 H' fun σ2 H2 => wipe σ2 vs = σ0 ∧ tt σ2 H2 fun b H3 =>
      if b = true then wi1 σ2 H3 fun J1 H4 => ∃ W1 : Nat → Nat → Hp → Prop, (∃ m, W1 0 m H4) ∧ ∀ j k H, W1 j k H →
        (J1.stop j H ∧ Nx H) ∨ (J1.go j H ∧ ∃ Nx1 : Hp → Prop, (∀ H', Nx1 H' → ∃ k', k' < k ∧ W1 (j + 1) k' H') ∧ ∀ x H', J1.yld j H x H' → g1 x (wipe σ2 vs1) H' fun σ3 H5 => wipe σ3 vs1 = wipe σ2 vs1 ∧ tt1 σ3 H5 fun b H6 =>
          if b = true then tk σ3 H6 fun y H7 => tv σ3 H7 fun z H8 => rSetN Y.K Y.w (.ref D) y z H8 Nx1 else Nx1 H6)
      else Nx H3))
    {k : Nat} {s : Shared} (h : LoopP Y [] σ0 fp tn W k s) : codeAny (model Y.prog Y.w) Y.A (.compLoop (dc2 kx vx t0 i0 ifs0 t1 i1 ifs1 scope pos) 0 (.ref it) (.ref D) Y.env) R s := by
  refine codeAny_loop rfl (LoopP Y [] σ0 fp tn W) (fun n s hI => ?_) k h
  show wpAny _ Y.A ((compTurn (dc2 kx vx t0 i0 ifs0 t1 i1 ifs1 scope pos) 0 (.ref it) (.ref D) Y.env).onRaise (fun x => do noteFrame x Y.env; theTreesLotGoes x)) _ _ s
  refine wpAny_noted ?_
  rw [dc2_turn0]
  obtain ⟨i, H, I, st, hn, w⟩ := hI
  refine wpAny_bind (wpAny_standAt (wpAny_bind ?_))
  rcases turn i n H w with ⟨stop, nx⟩ | ⟨go, Nx, hNx, step⟩
  · refine thn0 no_ex (T.done Y rfl rfl rfl hcal i [] s σ0 H (fun _ _ => False) I (walk_free hex hpn I hn) st stop) fun r s6 ⟨hr, I6⟩ => ?_
    subst hr
    exact wpAny_pure (fin _ _ I6 nx)
  · refine thn0 no_ex (T.item Y rfl rfl rfl hcal i [] s σ0 H (fun _ _ => False) I (walk_free hex hpn I hn) st go) fun r s1 ⟨u, hr, h1⟩ => ?_
    subst hr
    refine wpAny_bind (thn0 no_ex h1 fun _ s2 ⟨x, H2, I2, rx, yd, st2, n2⟩ => ?_)
    have P2 := I2.pinned (walk_free hex hpn I2 n2) (T.obj _ _ st2)
    refine wpAny_bind (thn0 hx (pg.run _ s2 σ0 H2 x u _ P2 rx (step x H2 yd)) fun _ s3 ⟨σ3, H3, I3, hw, q3⟩ => ?_)
    have len3 : σ0.length = σ3.length := by rw [← hw, wipe_length]
    have kept : ∀ (j : Nat) (v : V), σ0[j]? = some (some v) → σ3[j]? = some (some v) := by
      intro j v e
      rw [← hw] at e
      exact (wipe_some e).1
    have kept1 : ∀ (j : Nat) (v : V), σ0[j]? = some (some v) → (wipe σ3 vs1)[j]? = some (some v) := by
      intro j v e
      rw [← hw] at e
      obtain ⟨e1, e2⟩ := wipe_some e
      rw [wipe_out fun z => e2 (hv j z)]
      exact e1
    have back : ∀ {σ8 : L2.St} (s' : Shared) (H' : Hp), Inv Y ([] ++ pinsAt fp s2.heap) σ8 H' s' → σ0.length = σ8.length → (∀ (j : Nat) (v : V), σ0[j]? = some (some v) → σ8[j]? = some (some v)) → Nx H' → ∃ m, m < n ∧ LoopP Y [] σ0 fp tn W m s' := by
      intro σ8 s' H' I' hl hk nx
      obtain ⟨m, hm, hw'⟩ := hNx H' nx
      exact ⟨m, hm, loop_againP T I' st2 hl hk hw'⟩
    refine wpAny_bind (thn0 hx (pt.run _ s3 σ3 H3 _ I3 q3) fun b s4 ⟨H4, I4, q4⟩ => ?_)
    cases b with
    | false =>
      have q4 : Nx H4 := q4
      exact wpAny_pure ⟨rfl, back s4 H4 I4 len3 kept q4⟩
    | true =>
      have q4 : wi1 σ3 H4 _ := q4
      refine wpAny_bind (thn0 hx (pi1.run _ s4 σ3 H4 _ I4 q4) fun xv s5 hx5 => ?_)
      refine wpAny_bind (wpAny_standAt (wpAny_bind (wpAny_of_eq (hs1 Y.env xv) (wpAny_bind (wpAny_holding (thn0 hx hx5 fun itv s6 h6 => ?_))))))
      obtain ⟨it1, fp1, tn1, J1, H6, e1, I6, T1, st6, f6, W1, ⟨m1, w1⟩, turn1⟩ := h6
      subst e1
      have loop1 := dc2_inner (i0 := i0) (ifs0 := ifs0) (t0 := t0) (i1 := i1) (scope := scope) (pos := pos) hx hu hcal pg1 pt1 pk pv T1 (σ0 := wipe σ3 vs1) (P := [] ++ pinsAt fp s2.heap) (fun H' hn' b hb => ⟨hn' b hb, (f6 b hb).2⟩) (Nx := Nx) (Fin := fun s' => ∃ m, m < n ∧ LoopP Y [] σ0 fp tn W m s')
        (fun s' H' I' nx => back s' H' I' (len3.trans (wipe_length _ _).symm) kept1 nx) turn1 (k := m1) (s := s6) ⟨0, H6, I6.weak (wipe_length _ _) (fun j v e => (wipe_some e).1), st6, fun b hb => (f6 b hb).1, w1⟩
      refine wpAny_bind (wpAny_runOwn ?_)
      rw [Around.mark_none]
      refine codeAny_mono (dc2_start1 loop1 (T1.self Y.A 0 _ _ _ st6 loop1)) fun r s' hr => ?_
      cases r with
      | ok f => exact wpAny_pure ⟨rfl, hr⟩
      | error e => exact hr.elim
end
end VL
namespace VL
open PySem PySem.Spec PyProof.Rows L2
section
variable {X : Cx} {kx vx tg iter tg1 iter1 : Expr} {ifs ifs1 : List Expr} {scope : Scope} {own : List (Str × Nat)} {vs1 : List Nat} {pos : Pos} {wi wi1 : TI} {g g1 : TG} {tt tt1 : TT} {tk tv : TE}
/-- {k: v for target in iter if .. for target1 in iter1 if ..}, the keys being tuples: D the new dict -/
def tDcN2 (K : PySem.W.Frag) (w : World) (wi : TI) (g : TG) (tt : TT) (wi1 : TI) (g1 : TG) (tt1 : TT) (tk tv : TE) (vs vs1 : List Nat) : TE := fun σ H Q => wi σ H fun J H1 => ∀ D, H1 D = none → (D == sysModules) = false → ∃ W : Nat → Nat → Hp → Prop, (∃ m, W 0 m (upd H1 D (dN w D [] [] []))) ∧ ∀ i m H, W i m H →
  (J.stop i H ∧ Q (.ref D) H) ∨ (J.go i H ∧ ∃ Nx : Hp → Prop, (∀ H', Nx H' → ∃ m', m' < m ∧ W (i + 1) m' H') ∧ ∀ x H', J.yld i H x H' → g x (wipe σ vs) H' fun σ2 H2 => wipe σ2 vs = wipe σ vs ∧ tt σ2 H2 fun b H3 =>
    if b = true then wi1 σ2 H3 fun J1 H4 => ∃ W1 : Nat → Nat → Hp → Prop, (∃ m, W1 0 m H4) ∧ ∀ j k H, W1 j k H →
      (J1.stop j H ∧ Nx H) ∨ (J1.go j H ∧ ∃ Nx1 : Hp → Prop, (∀ H', Nx1 H' → ∃ k', k' < k ∧ W1 (j + 1) k' H') ∧ ∀ x H', J1.yld j H x H' → g1 x (wipe σ2 vs1) H' fun σ3 H5 => wipe σ3 vs1 = wipe σ2 vs1 ∧ tt1 σ3 H5 fun b H6 =>
        if b = true then tk σ3 H6 fun y H7 => tv σ3 H7 fun z H8 => rSetN K w (.ref D) y z H8 Nx1 else Nx1 H6)
    else Nx H3)
theorem pe_dcN2 (hu : X.A.units + 9 < cLine) (hc : X.calm = true) (hN : X.N.Nodup) (hi : PI X tg iter wi) (ok : BlkOk X.N X.env.scope scope own) (hv : ∀ i ∈ vs1, i ∈ own.map (·.2))
    (hg : ∀ (s : Shared) (H : Hp) (C : Addr) (cl : List (Str × Addr)) (fp : List Addr), PG (X.blk s H scope (compEnvC scope cl C X.env) fp) tg g) (ht : ∀ (s : Shared) (H : Hp) (C : Addr) (cl : List (Str × Addr)) (fp : List Addr), PTs (X.blk s H scope (compEnvC scope cl C X.env) fp) ifs tt)
    (hi1 : ∀ (s : Shared) (H : Hp) (C : Addr) (cl : List (Str × Addr)) (fp : List Addr), PI (X.blk s H scope (compEnvC scope cl C X.env) fp) tg1 iter1 wi1)
    (hg1 : ∀ (s : Shared) (H : Hp) (C : Addr) (cl : List (Str × Addr)) (fp : List Addr), PG (X.blk s H scope (compEnvC scope cl C X.env) fp) tg1 g1) (ht1 : ∀ (s : Shared) (H : Hp) (C : Addr) (cl : List (Str × Addr)) (fp : List Addr), PTs (X.blk s H scope (compEnvC scope cl C X.env) fp) ifs1 tt1)
    (hk : ∀ (s : Shared) (H : Hp) (C : Addr) (cl : List (Str × Addr)) (fp : List Addr), PE (X.blk s H scope (compEnvC scope cl C X.env) fp) kx tk)
    (he : ∀ (s : Shared) (H : Hp) (C : Addr) (cl : List (Str × Addr)) (fp : List Addr), PE (X.blk s H scope (compEnvC scope cl C X.env) fp) vx tv) (hs : ∀ x, foldedSetIterable iter X.env x = pure x := by intro _; rfl) (hs1 : ∀ env x, foldedSetIterable iter1 env x = pure x := by intro _ _; rfl) :
    PE X (.DictComp kx vx [⟨tg, iter, ifs, 0⟩, ⟨tg1, iter1, ifs1, 0⟩] scope pos) (tDcN2 X.K X.w wi g tt wi1 g1 tt1 tk tv (own.map (·.2)) vs1) := by
  constructor
  intro pins s σ H Q I h
  rw [arm_eval_DictComp]
  have outer : ∀ z ∈ scope.names, z.2 = .free → ∃ c, X.env.cells.lookup z.1 = some c := by
    intro z hz hf
    cases ok.free z hz hf with
    | inl q => exact I.ok.has _ (.inl q)
    | inr q => exact I.ok.has _ (.inr q)
  refine wpAny_comprehension_free rfl hs (closure_ok outer) ok.kind (fun z hz hf => by rw [ok.uniq z hz, hf]) ?_
  refine thn (hi.run pins s σ H _ I h) fun xv s1 hx => thn hx fun itv s2 h2 => ?_
  obtain ⟨it, fp, tn, J, H2, rfl, I2, T, st2, f2, q⟩ := h2
  refine wpAny_newObj_type (newEnv_comp ?_)
  -- the new dict stands at the heap's end
  have big2 := I2.big
  have free2 : H2 s2.heap.objs.size = none := I2.hok.fresh (Nat.le_refl _)
  obtain ⟨W, ⟨m0, w0⟩, turn⟩ := q s2.heap.objs.size free2 (beq_eq_false_iff_ne.mpr (Nat.ne_of_gt big2))
  have I3 : Inv X pins σ (upd H2 s2.heap.objs.size (dN X.w s2.heap.objs.size [] [] [])) { s2 with heap := s2.heap.push { cls := .type "dict", data := .dict #[] } } :=
    I2.laid (t' := s2.toks) (fun b o e => Heap.get?_push_of_some _ e) (Nat.le_refl _) (dn_empty s2.heap)
  revert w0 turn I3
  generalize hD : s2.heap.objs.size = D
  generalize hH3 : upd H2 D (dN X.w D [] [] []) = H3
  generalize hs3 : ({ s2 with heap := s2.heap.push { cls := .type "dict", data := .dict #[] } } : Shared) = s3
  intro turn w0 I3
  have heap3 : s3.heap = s2.heap.push { cls := .type "dict", data := .dict #[] } := by rw [← hs3]
  have low : ∀ b ∈ fp, b < D := by
    intro b hb
    obtain ⟨o, e, _⟩ := T.obj _ _ st2 b hb
    rw [← hD]
    exact Heap.lt_size e
  have free3 : ∀ b ∈ fp, H3 b = none := by
    intro b hb
    rw [← hH3, upd_ne (Nat.ne_of_lt (low b hb))]
    exact (f2 b hb).1
  have f3 : ∀ b ∈ fp, FpOk X pins H3 b ∧ b < s3.heap.objs.size := by
    intro b hb
    refine ⟨⟨free3 b hb, (f2 b hb).2⟩, ?_⟩
    rw [heap3, Heap.size_push, hD]
    exact Nat.lt_succ_of_lt (low b hb)
  have I4 := block_start I3 ok hN f3
  have st3 : tn 0 s3.heap := T.keep _ _ _ st2 fun b _ o e => by rw [heap3]; exact Heap.get?_push_of_some _ e
  have pg := hg s3 H3 s3.heap.objs.size (cellsFrom (s3.heap.objs.size + 1) scope.names (cloFrom X.env.cells scope.names [])) fp
  have pt := ht s3 H3 s3.heap.objs.size (cellsFrom (s3.heap.objs.size + 1) scope.names (cloFrom X.env.cells scope.names [])) fp
  have pk := hk s3 H3 s3.heap.objs.size (cellsFrom (s3.heap.objs.size + 1) scope.names (cloFrom X.env.cells scope.names [])) fp
  have pv := he s3 H3 s3.heap.objs.size (cellsFrom (s3.heap.objs.size + 1) scope.names (cloFrom X.env.cells scope.names [])) fp
  have pi1 := hi1 s3 H3 s3.heap.objs.size (cellsFrom (s3.heap.objs.size + 1) scope.names (cloFrom X.env.cells scope.names [])) fp
  have pg1 := hg1 s3 H3 s3.heap.objs.size (cellsFrom (s3.heap.objs.size + 1) scope.names (cloFrom X.env.cells scope.names [])) fp
  have pt1 := ht1 s3 H3 s3.heap.objs.size (cellsFrom (s3.heap.objs.size + 1) scope.names (cloFrom X.env.cells scope.names [])) fp
  show codeAny _ _ (.compStart (dc2 kx vx tg iter ifs tg1 iter1 ifs1 scope pos) 0 (.ref it) (.ref D) (compEnvC scope (cellsFrom (s3.heap.objs.size + 1) scope.names (cloFrom X.env.cells scope.names [])) s3.heap.objs.size X.env)) (compPost (model X.prog X.w) X.A X.xe none (EP X pins σ Q) (.ref D) s3.heap.objs.size) { s3 with heap := pushCells (s3.heap.push { cls := .type "dict", data := .dict #[] }) scope.names }
  have st4 : tn 0 (pushCells (s3.heap.push { cls := .type "dict", data := .dict #[] }) scope.names) := T.keep _ _ _ st3 fun b _ o e => pushCells_keeps _ _ _ _ (Heap.get?_push_of_some _ e)
  revert I4 pg pt pk pv pi1 pg1 pt1 st4
  generalize hce : compEnvC scope (cellsFrom (s3.heap.objs.size + 1) scope.names (cloFrom X.env.cells scope.names [])) s3.heap.objs.size X.env = ce
  have locs : ce.locals = s3.heap.objs.size := by rw [← hce]; rfl
  generalize hs4 : ({ s3 with heap := pushCells (s3.heap.push { cls := .type "dict", data := .dict #[] }) scope.names } : Shared) = s4
  intro I4 pg pt pk pv pi1 pg1 pt1 st4
  have st4 : tn 0 s4.heap := by rw [← hs4]; exact st4
  have loop : codeAny (model X.prog X.w) X.A (.compLoop (dc2 kx vx tg iter ifs tg1 iter1 ifs1 scope pos) 0 (.ref it) (.ref D) ce) (compPost (model X.prog X.w) X.A X.xe none (EP X pins σ Q) (.ref D) s3.heap.objs.size) s4 := by
    refine dc2_outer (Y := X.blk s3 H3 scope ce fp) (fun _ _ e => e) hu hc (fun b hb => hb) rfl pg pt pi1 pg1 pt1 pk pv hs1 T hv (σ0 := wipe σ (own.map (·.2))) (Fn := fun H5 => Q (.ref D) H5) (fun s6 H5 I6 qq => ?_) turn (k := m0) (s := s4) ⟨0, H3, I4, st4, free3, w0⟩
    have I7 : Inv X pins σ H5 s6 := I3.call' (ch := fp) I6.os I6.base I6.hok I6.bare fun b hb => by
      obtain ⟨_, q1, _, q3, q4, q5⟩ := (f3 b hb).1
      exact ⟨q3, q1, q4, q5⟩
    have noC : H5 s3.heap.objs.size = none := by
      have z : H5 ce.locals = none := I6.free
      rwa [locs] at z
    obtain ⟨m, hn, _⟩ := I6.loc
    have hn : s6.heap.Ns ce.locals m := hn
    rw [locs] at hn
    obtain ⟨f0, f1, f2, f3, f4, f5⟩ := I3.fpOk (Nat.le_refl _) noC
    exact ⟨m, hn, fun h'' sb => ⟨.ref D, H5, I7.turned (t' := s6.toks) (fun b o hb e => (sb.2 b hb).trans e) f0 f1 f3 f4 f5, rfl, qq⟩⟩
  exact codeAny_compStart_dict loop (T.self X.A 0 _ _ _ st4 loop)
end
def dcNL2 (g : Gt) (t : Tx) (src1 : Ix) (g1 : Gt) (t1 : Tx) (fk fv : Ex) (vs1 : List Nat) (keep : List Cell → Bool) (env : List (Option D)) (n : Nat) : List D → List Cell → Option (List Cell)
  | [], cs => if keep cs then some cs else none
  | d :: ds, cs => if keep cs then (match g d ⟨env, cs⟩ with
    | some st1 => (match t st1 with
      | .ok true c2 => (match src1 ⟨st1.env, c2⟩ with
        | .ok w c3 => (match dcNL g1 t1 fk fv w.2 (wipeD st1.env vs1) n w.1 c3 with
          | some c4 => dcNL2 g t src1 g1 t1 fk fv vs1 keep env n ds c4
          | none => none)
        | _ => none)
      | .ok false c2 => dcNL2 g t src1 g1 t1 fk fv vs1 keep env n ds c2
      | _ => none)
    | none => none) else none
def eDcN2 (src : Ix) (g : Gt) (t : Tx) (src1 : Ix) (g1 : Gt) (t1 : Tx) (fk fv : Ex) (vs vs1 : List Nat) : Ex := fun st => (src st).bind fun w c1 => match dcNL2 g t src1 g1 t1 fk fv vs1 w.2 (wipeD st.env vs) c1.length w.1 (c1 ++ [.dn [] []]) with
  | some c2 => .ok (.loc c1.length) c2
  | none => .no
section
variable {X : Cx} {G : Gx} {W : WX} {tg iter tg1 iter1 kx vx : Expr} {ifs ifs1 : List Expr} {sl sl1 : List Nat} {fk fv : Ex}
/-- one pair, laid by the value level's own step -/
theorem pairN_of {ρ9 : List Addr} {F9 H9 : Hp} {σ4 : L2.St} {st9 : S} {z z2 : D} {v v2 : V} {n : Nat} {D : Addr} {c' : List Cell} {Nx : Hp → Prop} (r9 : Rel G ρ9 F9 st9 σ4 H9) (hn : ρ9[n]? = some D) (rv : RV G.K ρ9 F9 z v) (rv2 : RV G.K ρ9 F9 z2 v2) {st10 : S} (e : setKN (.loc n) z z2 st9 = .nx st10) (k : ∀ ρ' F' σ' H', Ext ρ9 F9 ρ' F' → Rel G ρ' F' st10 σ' H' → Nx H') : rSetN G.K.K G.K.w (.ref D) v v2 H9 Nx := by
  have sp : SPost G W0 ρ9 F9 { nx := fun _ H3 => Nx H3, rt := fun _ _ => False, bk := fun _ _ => False, ct := fun _ _ => False } (setKN (.loc n) z z2 st9) := by
    rw [e]
    exact fun ρ' F' σ' H' x' r' => k ρ' F' σ' H' x' r'
  exact setKN_of (st := st9) r9 (.loc hn) rv rv2 sp
theorem eDcN2_of {src src1 : Ix} {vs vs1 : List Nat} {g g1 : Gt} {t t1 : Tx} {fk fv : Ex} (hsl : ∀ i ∈ sl, i ∈ vs) (hsl1 : ∀ i ∈ sl1, i ∈ vs1) : ∀ σ H Q, tE G W (eDcN2 src g t src1 g1 t1 fk fv vs vs1) σ H Q → tDcN2 G.K.K G.K.w (tI G W src) (tG G sl g) (tTs G W0 t) (tI G W0 src1) (tG G sl1 g1) (tTs G W0 t1) (tE G W0 fk) (tE G W0 fv) vs vs1 σ H Q := by
  rintro σ H Q ⟨ρ, F, st, r, p⟩
  refine ⟨ρ, F, st, r, ?_⟩
  unfold eDcN2 at p
  cases q : src st with
  | no => rw [q] at p; exact p
  | ex e' cs =>
    rw [q] at p
    exact fun ρ' F' H' c d x r' xa => p ρ' F' H' c d x r' xa
  | ok w c1 =>
    rw [q] at p
    have pp : Post RV G W ρ F st.env σ Q (match dcNL2 g t src1 g1 t1 fk fv vs1 w.2 (wipeD st.env vs) c1.length w.1 (c1 ++ [.dn [] []]) with
      | some c2 => .ok (.loc c1.length) c2
      | none => .no) := p
    cases q2 : dcNL2 g t src1 g1 t1 fk fv vs1 w.2 (wipeD st.env vs) c1.length w.1 (c1 ++ [.dn [] []]) with
    | none => rw [q2] at pp; exact pp.elim
    | some c2 =>
    rw [q2] at pp
    obtain ⟨ds, keep⟩ := w
    have q2 : dcNL2 g t src1 g1 t1 fk fv vs1 keep (wipeD st.env vs) c1.length ds (c1 ++ [.dn [] []]) = some c2 := q2
    intro ρ1 F1 H1 J x1 r1 wk D hD hS
    have hl1 : ρ1.length = c1.length := r1.cl
    have y0 : Ext ρ1 F1 (ρ1 ++ [D]) F1 := ⟨List.prefix_append _ _, Same.refl _⟩
    obtain ⟨_, r2⟩ := r1.cellNew (p := D) (o := dN G.K.w D [] [] []) (c := .dn [] []) hD ⟨[], [], [], upd_same, by simp [nkDs], ⟨by simp, hS, by simp, rfl, rfl, fun k hk => by cases hk⟩, .nil, .nil⟩
    have at0 : (ρ1 ++ [D])[c1.length]? = some D := by rw [← hl1, List.getElem?_append_right (Nat.le_refl _), Nat.sub_self]; rfl
    have fin : ∀ (ρ2 : List Addr) (F2 H2 : Hp), Ext (ρ1 ++ [D]) F1 ρ2 F2 → Rel G ρ2 F2 ⟨st.env, c2⟩ σ H2 → Q (.ref D) H2 := fun ρ2 F2 H2 x2 r2 => pp ρ2 F2 H2 _ (x1.trans (y0.trans x2)) r2 (.loc (x2.at at0))
    refine ⟨fun i m H2 => ∃ ρ2 F2 cs, Ext (ρ1 ++ [D]) F1 ρ2 F2 ∧ Rel G ρ2 F2 ⟨st.env, cs⟩ σ H2 ∧ i + m = ds.length ∧ dcNL2 g t src1 g1 t1 fk fv vs1 keep (wipeD st.env vs) c1.length (ds.drop i) cs = some c2, ⟨ds.length, ρ1 ++ [D], F1, _, Ext.refl, r2, Nat.zero_add _, q2⟩, ?_⟩
    rintro i m H2 ⟨ρ2, F2, cs, x2, r2, em, e2⟩
    cases hd : ds.drop i with
    | nil =>
      rw [hd] at e2
      unfold dcNL2 at e2
      have hi : i = ds.length := by
        have := List.drop_eq_nil_iff.mp hd
        omega
      by_cases hk : keep cs = true
      · rw [if_pos hk] at e2
        cases e2
        exact .inl ⟨(wk ρ2 F2 _ σ H2 i (y0.trans x2) r2 hk).2 hi, fin _ _ _ x2 r2⟩
      · rw [if_neg hk] at e2
        cases e2
    | cons d rest =>
      rw [hd] at e2
      unfold dcNL2 at e2
      have hi : ds[i]? = some d := by
        have := List.getElem?_drop (xs := ds) (i := i) (j := 0)
        rw [hd, Nat.add_zero] at this
        exact this.symm
      have hr : ds.drop (i + 1) = rest := by
        rw [← List.drop_drop, hd]; rfl
      by_cases hk : keep cs = true
      · rw [if_pos hk] at e2
        obtain ⟨go, yl⟩ := (wk ρ2 F2 _ σ H2 i (y0.trans x2) r2 hk).1 d hi
        refine .inr ⟨go, fun H3 => ∃ ρ3 F3 cs3, Ext (ρ1 ++ [D]) F1 ρ3 F3 ∧ Rel G ρ3 F3 ⟨st.env, cs3⟩ σ H3 ∧ dcNL2 g t src1 g1 t1 fk fv vs1 keep (wipeD st.env vs) c1.length rest cs3 = some c2, fun H3 ⟨ρ3, F3, cs3, x3, r3, e3⟩ => ⟨m - 1, ?_, ρ3, F3, cs3, x3, r3, ?_, by rw [hr]; exact e3⟩, fun y H3 hy => ?_⟩
        · have := (List.getElem?_eq_some_iff.mp hi).1
          omega
        · have := (List.getElem?_eq_some_iff.mp hi).1
          omega
        · obtain ⟨ρ3, F3, x3, _, _, r3, rv3⟩ := yl y H3 hy
          have x23 := x2.trans x3
          cases q3 : g d ⟨wipeD st.env vs, cs⟩ with
          | none => simp only [q3] at e2; cases e2
          | some st1 =>
            simp only [q3] at e2
            refine ⟨ρ3, F3, _, d, st1, r3.wiped vs, rv3, q3, fun σ4 r4 b4 => ⟨wipe_but b4 hsl, ρ3, F3, st1, r4, ?_⟩⟩
            cases q4 : t st1 with
            | no => simp only [q4] at e2; cases e2
            | ex _ _ => simp only [q4] at e2; cases e2
            | ok b c4 =>
              intro ρ5 F5 H5 b' x5 r5 eb
              have eb : b = b' := eb
              subst eb
              cases b with
              | false =>
                simp only [q4] at e2
                exact ⟨ρ5, F5, c4, x23.trans x5, r3.back x5 r5, e2⟩
              | true =>
                simp only [q4] at e2
                rw [if_pos rfl]
                refine ⟨ρ5, F5, _, r5, ?_⟩
                cases q6 : src1 ⟨st1.env, c4⟩ with
                | no => simp only [q6] at e2; cases e2
                | ex _ _ => simp only [q6] at e2; cases e2
                | ok w1 c6 =>
                  simp only [q6] at e2
                  obtain ⟨ds1, keep1⟩ := w1
                  cases q8 : dcNL g1 t1 fk fv keep1 (wipeD st1.env vs1) c1.length ds1 c6 with
                  | none => simp only [q8] at e2; cases e2
                  | some c8 =>
                  simp only [q8] at e2
                  intro ρ6 F6 H6 J1 x6 r6 wk1
                  have x26 := (x23.trans x5).trans x6
                  refine ⟨fun j m1 H7 => ∃ ρ7 F7 cs7, Ext ρ6 F6 ρ7 F7 ∧ Rel G ρ7 F7 ⟨st1.env, cs7⟩ σ4 H7 ∧ j + m1 = ds1.length ∧ dcNL g1 t1 fk fv keep1 (wipeD st1.env vs1) c1.length (ds1.drop j) cs7 = some c8, ⟨ds1.length, ρ6, F6, c6, Ext.refl, r6, Nat.zero_add _, q8⟩, ?_⟩
                  rintro j m1 H7 ⟨ρ7, F7, cs7, x7, r7, em1, e7⟩
                  cases hd1 : ds1.drop j with
                  | nil =>
                    rw [hd1] at e7
                    unfold dcNL at e7
                    have hj : j = ds1.length := by
                      have := List.drop_eq_nil_iff.mp hd1
                      omega
                    by_cases hk1 : keep1 cs7 = true
                    · rw [if_pos hk1] at e7
                      cases e7
                      exact .inl ⟨(wk1 ρ7 F7 _ σ4 H7 j x7 r7 hk1).2 hj, ρ7, F7, _, x26.trans x7, r3.back ((x5.trans x6).trans x7) r7, e2⟩
                    · rw [if_neg hk1] at e7
                      cases e7
                  | cons d1 rest1 =>
                    rw [hd1] at e7
                    unfold dcNL at e7
                    have hj : ds1[j]? = some d1 := by
                      have := List.getElem?_drop (xs := ds1) (i := j) (j := 0)
                      rw [hd1, Nat.add_zero] at this
                      exact this.symm
                    have hr1 : ds1.drop (j + 1) = rest1 := by
                      rw [← List.drop_drop, hd1]; rfl
                    by_cases hk1 : keep1 cs7 = true
                    · rw [if_pos hk1] at e7
                      obtain ⟨go1, yl1⟩ := (wk1 ρ7 F7 _ σ4 H7 j x7 r7 hk1).1 d1 hj
                      refine .inr ⟨go1, fun H8 => ∃ ρ8 F8 cs8, Ext ρ6 F6 ρ8 F8 ∧ Rel G ρ8 F8 ⟨st1.env, cs8⟩ σ4 H8 ∧ dcNL g1 t1 fk fv keep1 (wipeD st1.env vs1) c1.length rest1 cs8 = some c8, fun H8 ⟨ρ8, F8, cs8, x8, r8, e8⟩ => ⟨m1 - 1, ?_, ρ8, F8, cs8, x8, r8, ?_, by rw [hr1]; exact e8⟩, fun y1 H8 hy1 => ?_⟩
                      · have := (List.getElem?_eq_some_iff.mp hj).1
                        omega
                      · have := (List.getElem?_eq_some_iff.mp hj).1
                        omega
                      · obtain ⟨ρ8, F8, x8, _, _, r8, rv8⟩ := yl1 y1 H8 hy1
                        have x78 := x7.trans x8
                        cases q9 : g1 d1 ⟨wipeD st1.env vs1, cs7⟩ with
                        | none => simp only [q9] at e7; cases e7
                        | some st9 =>
                          simp only [q9] at e7
                          refine ⟨ρ8, F8, _, d1, st9, r8.wiped vs1, rv8, q9, fun σ9 r9 b9 => ⟨wipe_but b9 hsl1, ρ8, F8, st9, r9, ?_⟩⟩
                          cases q10 : t1 st9 with
                          | no => simp only [q10] at e7; cases e7
                          | ex _ _ => simp only [q10] at e7; cases e7
                          | ok b1 c10 =>
                            intro ρ10 F10 H10 b1' x10 r10 eb1
                            have eb1 : b1 = b1' := eb1
                            subst eb1
                            cases b1 with
                            | false =>
                              simp only [q10] at e7
                              exact ⟨ρ10, F10, c10, x78.trans x10, r8.back x10 r10, e7⟩
                            | true =>
                              simp only [q10] at e7
                              rw [if_pos rfl]
                              refine ⟨ρ10, F10, _, r10, ?_⟩
                              cases q11 : fk ⟨st9.env, c10⟩ with
                              | no => simp only [q11] at e7; cases e7
                              | ex _ _ => simp only [q11] at e7; cases e7
                              | ok z c11 =>
                                simp only [q11] at e7
                                intro ρ11 F11 H11 v x11 r11 rv11
                                refine ⟨ρ11, F11, _, r11, ?_⟩
                                cases q12 : fv ⟨st9.env, c11⟩ with
                                | no => simp only [q12] at e7; cases e7
                                | ex _ _ => simp only [q12] at e7; cases e7
                                | ok z2 c12 =>
                                  simp only [q12] at e7
                                  intro ρ12 F12 H12 v2 x12 r12 rv12
                                  have x612 := ((x78.trans x10).trans x11).trans x12
                                  cases qs : setKN (.loc c1.length) z z2 ⟨st9.env, c12⟩ with
                                  | nx stE =>
                                    simp only [qs] at e7
                                    exact pairN_of (c' := c12) r12 ((x26.trans x612).at at0) (rv11.ext x12) rv12 qs fun ρ' F' σ' H' x' r' => ⟨ρ', F', stE.cs, x612.trans x', r8.back (((x10.trans x11).trans x12).trans x') r', e7⟩
                                  | rt d' st' => simp only [qs] at e7; cases e7
                                  | bk st' => simp only [qs] at e7; cases e7
                                  | ct st' => simp only [qs] at e7; cases e7
                                  | ex e' st' => simp only [qs] at e7; cases e7
                                  | no => simp only [qs] at e7; cases e7
                    · rw [if_neg hk1] at e7
                      cases e7
      · rw [if_neg hk] at e2
        cases e2
variable {scope : Scope} {own : List (Str × Nat)} {pos : Pos} {src src1 : Ix} {vs1 : List Nat} {g g1 : Gt} {t t1 : Tx}
theorem de_dcN2 (hK : X.K = G.K.K) (hw : X.w = G.K.w) (hu : X.A.units + 9 < cLine) (hc : X.calm = true) (hN : X.N.Nodup) (hi : PI X tg iter (tI G W src)) (ok : BlkOk X.N X.env.scope scope own) (hsl : ∀ i ∈ sl, i ∈ own.map (·.2)) (hsl1 : ∀ i ∈ sl1, i ∈ vs1) (hv : ∀ i ∈ vs1, i ∈ own.map (·.2))
    (hg : ∀ (s : Shared) (H : Hp) (C : Addr) (cl : List (Str × Addr)) (fp : List Addr), PG (X.blk s H scope (compEnvC scope cl C X.env) fp) tg (tG G sl g)) (ht : ∀ (s : Shared) (H : Hp) (C : Addr) (cl : List (Str × Addr)) (fp : List Addr), PTs (X.blk s H scope (compEnvC scope cl C X.env) fp) ifs (tTs G W0 t))
    (hi1 : ∀ (s : Shared) (H : Hp) (C : Addr) (cl : List (Str × Addr)) (fp : List Addr), PI (X.blk s H scope (compEnvC scope cl C X.env) fp) tg1 iter1 (tI G W0 src1))
    (hg1 : ∀ (s : Shared) (H : Hp) (C : Addr) (cl : List (Str × Addr)) (fp : List Addr), PG (X.blk s H scope (compEnvC scope cl C X.env) fp) tg1 (tG G sl1 g1)) (ht1 : ∀ (s : Shared) (H : Hp) (C : Addr) (cl : List (Str × Addr)) (fp : List Addr), PTs (X.blk s H scope (compEnvC scope cl C X.env) fp) ifs1 (tTs G W0 t1))
    (hk : ∀ (s : Shared) (H : Hp) (C : Addr) (cl : List (Str × Addr)) (fp : List Addr), PE (X.blk s H scope (compEnvC scope cl C X.env) fp) kx (tE G W0 fk))
    (he : ∀ (s : Shared) (H : Hp) (C : Addr) (cl : List (Str × Addr)) (fp : List Addr), PE (X.blk s H scope (compEnvC scope cl C X.env) fp) vx (tE G W0 fv)) (hs : ∀ x, foldedSetIterable iter X.env x = pure x := by intro _; rfl) (hs1 : ∀ env x, foldedSetIterable iter1 env x = pure x := by intro _ _; rfl) :
    PE X (.DictComp kx vx [⟨tg, iter, ifs, 0⟩, ⟨tg1, iter1, ifs1, 0⟩] scope pos) (tE G W (eDcN2 src g t src1 g1 t1 fk fv (own.map (·.2)) vs1)) := (pe_dcN2 hu hc hN hi ok hv hg ht hi1 hg1 ht1 hk he hs hs1).impV (by rw [hK, hw]; exact eDcN2_of hsl hsl1)
end
end VL
namespace VL
open PySem PySem.Spec PyProof.Rows L2
def tUpdK (td ty : TE) : TE := fun σ H Q => td σ H fun x H1 => ∃ a, x = .ref a ∧ (∃ kvs, H1 a = some (.dK kvs)) ∧ ty σ H1 fun y H2 => ∃ o kvs more, y = .ref o ∧ a ≠ o ∧ H2 a = some (.dK kvs) ∧ H2 o = some (.dK more) ∧ kvs.length + more.length ≤ 16777216 ∧ Q .non (upd H2 a (.dK (mergeK kvs more)))
section
variable {X : Cx} {o e : Expr} {td ty : TE} {apos cpos : Pos}
theorem pe_updK (ho : PE X o td) (he : PE X e ty) (m : M1 X o "update" apos e cpos) : PE X (.Call (.Attribute o "update" apos) [e] [] cpos) (tUpdK td ty) := by
  refine ⟨fun pins s σ H Q I h => ?_⟩
  refine wpAny_Call_method m.base m.few m.line PySem.F.plainAttrs_dict PySem.F.slot_dict_update PySem.F.type_dict_update (thn (ho.run pins s σ H _ I h) fun u s1 ⟨x, H1, I1, rx, a, ex, ⟨kvs1, d1⟩, q1⟩ => ?_)
  subst ex
  obtain rfl : u = Value.ref a := rx
  obtain ⟨_, _, vs1, _, dd1⟩ := dk_of I1.hok d1
  refine ⟨dd1.typeIs, fun b q => ?_, ?_⟩
  · cases q
    obtain ⟨ob, _, _, h1, h2, _⟩ := dd1
    exact ⟨ob, h1, h2.2.1⟩
  rw [m.trees]
  refine Calls.callWith_builtin rfl (Calls.evalArgs_plain (Calls.spliced_cons (thn (he.run pins s1 σ H1 _ I1 q1) fun iv s2 ⟨y, H2, I2, ry, b, kvs, more, ey, hne, hD, hD2, hsz, q2⟩ => Calls.spliced_nil ?_)))
  subst ey
  cases (show iv = Value.ref b from ry)
  obtain ⟨z, hd, vs, rel, dd⟩ := dk_of I2.hok hD
  obtain ⟨z2, hd2, vs2, rel2, dd2⟩ := dk_of I2.hok hD2
  refine call_meetsIn PySem.F.slot_dict_update dd.typeIs PySem.F.entry_dict_update (PySem.F.args_dict_update_2 _ _) (meets_dict_update (mixKind X.prog X.w) a b hne hd2) ⟨vs, vs2, dd, dd2, ?_, fun h' hm' _ hs => ?_⟩
  · rw [← rel.length, ← rel2.length, sizeLine_eq]
    exact hsz
  · have he : ∃ q, h'.get? a = some q := let ⟨q, _, _, hq, _⟩ := hm'; ⟨q, hq⟩
    have hl : (mergeK kvs more).length ≤ sizeLine := by
      have := length_mergeK more kvs
      rw [sizeLine_eq]
      omega
    exact ⟨.non, _, d_write I2 (by rw [hD]; exact True.intro) hs he (dk_new hl hd (rel2.merge rel) hm'), rfl, q2⟩
end
def eUpdK (fo fe : Ex) : Ex := fun st => (fo st).bind fun x c1 => match dkAt c1 x with
  | some _ => (fe ⟨st.env, c1⟩).bind fun y c2 => (match dkAt c2 x, dctOf c2 y with
    | some (n, ks, ds), some (js, es) => if samePl x y = false ∧ ks.length + js.length ≤ 16777216 then .ok .non (c2.set n (.dk (mergeD (js.zip es) (ks, ds)).1 (mergeD (js.zip es) (ks, ds)).2)) else .no
    | _, _ => .no)
  | none => .no
section
variable {X : Cx} {G : Gx} {W : WX} {o e : Expr} {fo fe : Ex} {apos cpos : Pos}
theorem de_updK (ho : PE X o (tE G W fo)) (he : PE X e (tE G W fe)) (m : M1 X o "update" apos e cpos := by exact ⟨rfl, rfl, rfl, rfl⟩) : PE X (.Call (.Attribute o "update" apos) [e] [] cpos) (tE G W (eUpdK fo fe)) := by
  refine (pe_updK ho he m).impV ?_
  rintro σ H Q ⟨ρ, F, st, r, p⟩
  unfold eUpdK at p
  refine seqX r p fun ρ1 F1 H1 x c1 v x1 r1 rv1 p1 => ?_
  cases q1 : dkAt c1 x with
  | none => rw [q1] at p1; exact p1.elim
  | some z =>
    rw [q1] at p1
    obtain ⟨n, ks, ds⟩ := z
    obtain ⟨a, vs, rfl, rfl, h1, h2, h3, h4⟩ := dkAt_of (st := ⟨st.env, c1⟩) r1 rv1 q1
    refine ⟨a, rfl, ⟨_, h2⟩, ?_⟩
    refine seqX (st := ⟨st.env, c1⟩) r1 p1 fun ρ2 F2 H2 y c2 w x2 r2 rv2 p2 => ?_
    cases q2 : dkAt c2 (.loc n) with
    | none => rw [q2] at p2; exact p2.elim
    | some z =>
      obtain ⟨m, ks, ds⟩ := z
      cases q3 : dctOf c2 y with
      | none => rw [q2, q3] at p2; exact p2.elim
      | some z =>
        obtain ⟨js, es⟩ := z
        rw [q2, q3] at p2
        obtain ⟨a', vs, e1, e2, g1, g2, g3, g4⟩ := dkAt_of (st := ⟨st.env, c2⟩) r2 (rv1.ext x2) q2
        cases e1
        cases e2
        dsimp only at p2
        by_cases c : samePl (.loc n) y = false ∧ ks.length + js.length ≤ 16777216
        · rw [if_pos c] at p2
          obtain ⟨b, ws, rfl, f1, f2, f3⟩ := dct_read (st := ⟨st.env, c2⟩) r2 rv2 q3
          have hne : a ≠ b := by
            cases rv2 with
            | dct i1 i2 i3 =>
              intro z
              have := r2.sep a (List.mem_of_getElem? g1)
              rw [z, i1] at this
              cases this
            | @loc k b i1 =>
              intro z
              subst z
              obtain ⟨z1, z1'⟩ := List.getElem?_eq_some_iff.mp i1
              obtain ⟨z2, z2'⟩ := List.getElem?_eq_some_iff.mp g1
              have : n = k := (List.getElem_inj r2.nd).mp (z2'.trans z1'.symm)
              subst this
              simp [samePl] at c
            | _ => cases q3
          obtain ⟨us, w1, w2, w3⟩ := mergeD_rel (rkv_zip (l := js) f3) g4 g3
          refine ⟨b, _, _, rfl, hne, g2, f1, by rw [zip_len g3, zip_len f2]; exact c.2, ?_⟩
          exact p2 ρ2 F2 _ .non Ext.refl (r2.cellSet (st := ⟨st.env, c2⟩) (c := .dk _ _) g1 ⟨us, by rw [w3]; exact upd_same, w2, w1⟩) .non
        · rw [if_neg c] at p2
          exact p2.elim
end
end VL
namespace VL
open PySem PySem.Spec PyProof.Rows L2
section
variable {X : Cx} {G : Gx} {W : WX} {e a : Expr} {fa : Ex} {p p2 q pos : Pos}
def tListR (ta : TE) : TE := fun σ H Q => ta σ H fun x H1 => ∃ j : Nat, x = V.int j ∧ j ≤ 16777216 ∧ ∀ l, H1 l = none → Q (.ref l) (upd H1 l (.lst ((List.range j).map fun i => V.int ((0 : Int) + (i : Nat)))))
theorem pe_listR {ta : TE} (hc : X.calm = true) (hg : Gl X "list") (hm : X.mg "list" = none) (hg2 : Gl X "range") (hm2 : X.mg "range" = none) (ha : PE X a ta)
    (na : starEach [a] X.env = (false, eval a X.env) :: starEach [] X.env := by rfl) : PE X (.Call (.Name "list" p) [.Call (.Name "range" p2) [a] [] q] [] pos) (tListR ta) := by
  refine ⟨fun pins s σ H Q I h => ?_⟩
  refine Call_ (ld_blt I hg hm PyProof.Rows.boot_list ?_)
  refine PyProof.Rows.callWith_type1 (PyProof.Rows.args_cons ?_ rfl) rfl rfl
  refine Call_ (ld_blt I hg2 hm2 boot_range ?_)
  refine PyProof.Rows.callWith_type1 (PyProof.Rows.args_cons (thn (ha.run pins s σ H _ I h) fun v s1 ⟨x, H1, I1, r1, q1⟩ => PyProof.Rows.args_nil ?_) na) na rfl
  obtain ⟨j, rfl, hj, q1⟩ := q1
  obtain ⟨t, rfl⟩ := r1
  refine call_range_1 (PyProof.Rows.args_nil ?_)
  have hr : IsRange (s1.heap.push { cls := .type "range", data := .fields #[.int 0 s1.toks, .int j t, .int 1 (s1.toks + 1)] }) s1.heap.objs.size 0 j 1 s1.toks t (s1.toks + 1) := IsRange.new _ _ _ _ _ _ _
  have I2 : Inv X pins σ H1 { s1 with heap := s1.heap.push { cls := .type "range", data := .fields #[.int 0 s1.toks, .int j t, .int 1 (s1.toks + 1)] }, toks := s1.toks + 1 + 1 } := I1.kept fun b o e => Heap.get?_push_of_some _ e
  have hn : Builtin.Range.rangeSize 0 (j : Int) 1 = j := by
    rw [rangeSize_one]
    split <;> omega
  refine call_list_range (s := { s1 with heap := s1.heap.push { cls := .type "range", data := .fields #[.int 0 s1.toks, .int j t, .int 1 (s1.toks + 1)] }, toks := s1.toks + 1 + 1 }) (I2.ok.hd hc) hr (small_one (by decide) (by decide) (by omega) (by omega)) hn (by omega) fun h' tk acc' c' hkeep hS hacc => ?_
  refine ⟨.ref _, _, I2.laid hkeep (Nat.le_refl _) (show ObjOk X.prog X.w _ _ _ (.lst ((List.range j).map fun i => V.int ((0 : Int) + (i : Nat)))) from ⟨?_, acc'.toList, c', ?_, ?_⟩), rfl, q1 _ (I2.hok.fresh (Nat.le_refl _))⟩
  · rw [List.length_map, List.length_range, sizeLine_eq]
    exact hj
  · have el : acc'.toList.length = acc'.size := by simp
    refine vals_of_at (by rw [List.length_map, List.length_range, el, hacc.1]) fun i x v h1 h2 => ?_
    obtain ⟨t2, rfl⟩ := hacc.2 i v (by rw [← Array.getElem?_toList]; exact h2)
    rw [List.getElem?_map] at h1
    cases hz : (List.range j)[i]? with
    | none => rw [hz] at h1; cases h1
    | some k =>
      rw [hz] at h1
      have h1 : V.int ((0 : Int) + (k : Nat)) = x := Option.some.inj h1
      have hk : k = i := by
        obtain ⟨z1, z2⟩ := List.getElem?_eq_some_iff.mp hz
        rw [List.getElem_range] at z2
        exact z2.symm
      subst h1 hk
      exact ⟨t2, by simp⟩
  · rw [Array.toArray_toList]
    exact hS
def eListR (own : Bool) (fa : Ex) : Ex := fun st => (fa st).bind fun x c1 => match x with
  | .int i => if decide (0 ≤ i) && decide (i ≤ 16777216) then (if own then newCell (rangeD 0 i.toNat) c1 else .ok (.lst (rangeD 0 i.toNat)) c1) else .no
  | _ => .no
theorem rangeD_rel {K : Kt} {ρ : List Addr} {F : Hp} (lo : Int) (n : Nat) : RVs K ρ F (rangeD lo n) ((List.range n).map fun i => V.int (lo + (i : Nat))) := by
  unfold rangeD
  induction (List.range n) with
  | nil => exact .nil
  | cons x r ih => exact .cons (.int _) ih
theorem de_listR (own : Bool) (hc : X.calm = true) (hg : Gl X "list") (hm : X.mg "list" = none) (hg2 : Gl X "range") (hm2 : X.mg "range" = none) (ha : PE X a (tE G W fa)) (na : starEach [a] X.env = (false, eval a X.env) :: starEach [] X.env := by rfl) :
    PE X (.Call (.Name "list" p) [.Call (.Name "range" p2) [a] [] q] [] pos) (tE G W (eListR own fa)) := by
  refine (pe_listR hc hg hm hg2 hm2 ha na).impV fun σ H Q ⟨ρ, F, st, r, po⟩ => seqX r po fun ρ1 F1 H1 x c1 v x1 r1 rv1 p1 => ?_
  cases rv1 with
  | int i =>
    simp only at p1
    by_cases c : (decide (0 ≤ i) && decide (i ≤ 16777216)) = true
    · rw [if_pos c] at p1
      simp only [Bool.and_eq_true, decide_eq_true_eq] at c
      obtain ⟨j, rfl⟩ := Int.eq_ofNat_of_zero_le c.1
      refine ⟨j, rfl, by omega, fun l hl => ?_⟩
      have e : (Int.ofNat j).toNat = j := rfl
      have e : ((j : Int)).toNat = j := rfl
      rw [e] at p1
      have rr := rangeD_rel (K := G.K) (ρ := ρ1) (F := F1) 0 j
      cases own with
      | true =>
        rw [if_pos rfl] at p1
        exact newCell_of (st := ⟨st.env, c1⟩) r1 rr hl p1
      | false =>
        rw [if_neg (by decide)] at p1
        obtain ⟨x2, r2⟩ := r1.fresh (o := .lst ((List.range j).map fun i => V.int ((0 : Int) + (i : Nat)))) hl
        exact p1 _ _ _ _ x2 r2 (.lst upd_same (rr.ext x2))
    · rw [if_neg c] at p1
      exact p1.elim
  | _ => exact p1.elim
end
section
variable {X : Cx} {G : Gx} {W : WX} {ρ : List Addr} {F : Hp} {e : Expr}
theorem wk_enumLo {n : Nat} {a : Addr} {ds : List D} (h : ρ[n]? = some a) : Wk G ρ F (Ite G.K.K a) (enumD ds) (keepD n ds) := fun ρ1 F1 st1 σ1 H1 i x r hk => by
  obtain ⟨vs, h2, rv⟩ := r.cell n _ _ (keepD_of hk) (x.at h)
  have hs1 : SqL G.K.K H1 a vs := SqL.of h2
  refine ⟨fun d e => ?_, fun e => ⟨vs, hs1, ?_⟩⟩
  · unfold enumD at e
    rw [List.getElem?_mapIdx] at e
    cases q : ds[i]? with
    | none => rw [q] at e; cases e
    | some d0 =>
      rw [q] at e
      cases e
      obtain ⟨v, e1, e2⟩ := rv.get q
      refine ⟨⟨vs, v, hs1, e1⟩, fun y H' ⟨T, u, e3, e4, e5, e6⟩ => ?_⟩
      have := e6 vs hs1
      rw [e1] at this
      cases this
      subst e3 e5
      obtain ⟨x2, r2⟩ := r.fresh (o := .tup [.int (i : Nat), v]) e4
      exact ⟨ρ1, _, x2, rfl, same_upd' e4, r2, .tup (SqT.of upd_same) (.cons (.int _) (.cons (e2.ext x2) .nil))⟩
  · unfold enumD at e
    rw [List.length_mapIdx] at e
    rw [← rv.length]
    omega
def iEnO (g : Ax) : Ix := fun st => (g st).bind fun xs c1 => match xs with
  | [.loc n] => (match c1[n]? with
    | some (.lst ds) => .ok (enumD ds, keepD n ds) c1
    | _ => .no)
  | _ => .no
theorem di_enumO {g : Ax} {p pos tpos : Pos} {elts : List Expr} {kk : Nat} (hK : X.K = G.K.K) (hg : Gl X "enumerate") (hm : X.mg "enumerate" = none) (ha : PA X [e] (tAs G W g)) (hs : starEach [e] X.env = [(false, eval e X.env)] := by rfl) :
    PI X (.Tuple elts kk tpos) (.Call (.Name "enumerate" p) [e] [] pos) (tI G W (iEnO g)) :=
  (pi_enum hg hm ha hs).impV fun σ H R ⟨ρ, F, st, r, p⟩ => by
    refine tI_of (R := RVs) r p (fun ρ1 F1 H1 xs c1 v x1 r1 rv1 q hn => ?_) (fun xs c1 => ?_)
    · rw [hK]
      split at hn
      · rename_i n
        cases rv1 with
        | cons h1 h2 =>
          cases h2
          cases h1 with
          | loc h1 =>
            cases qc : c1[n]? with
            | none => simp only [qc] at hn; exact absurd rfl hn
            | some c0 =>
              cases c0 with
              | lst ds =>
                obtain ⟨vs, h2, rv⟩ := r1.cell n _ _ qc h1
                exact ⟨_, _, rfl, SqL.of h2, q (enumD ds, keepD n ds) (by simp only [qc]) _ (wk_enumLo h1)⟩
              | dk _ _ => simp only [qc] at hn; exact absurd rfl hn
              | dn _ _ => simp only [qc] at hn; exact absurd rfl hn
              | tbl _ _ => simp only [qc] at hn; exact absurd rfl hn
              | ins _ _ _ => simp only [qc] at hn; exact absurd rfl hn
      · exact absurd rfl hn
    · split
      · split
        · exact .inl ⟨_, rfl⟩
        · exact .inr rfl
      · exact .inr rfl
end
end VL
namespace VL
open PySem PySem.Calls PyProof.Rows PyProof.V PySem.Spec L2 PySem.W
def rSortGT (K : PySem.W.Frag) : List V → Hp → VK → Prop := fun us H Q => ∃ (c : Addr) (bs : List (V × PyData)), us = [.ref c] ∧ SqT K H c (bs.map Prod.fst) ∧ (∀ b ∈ bs, Dp K H b.1 b.2) ∧ AllAlike (bs.map Prod.snd) ∧ Sortable (bs.map Prod.snd) ∧ (∀ b ∈ bs, b.2.depth ≤ 60) ∧
  ∀ p, H p = none → Q (.ref p) (upd H p (.lst ((bs.mergeSort (dataLe false Prod.snd)).map Prod.fst)))
theorem cr_sortGT {X : Cx} (hu : X.A.units + 65 < cLine) : CallR X (.builtin "sorted") (rSortGT X.K) := by
  intro pins s σ H xs us Q I r h
  obtain ⟨a, bs, rfl, hs, hd, hal, hk, hdep, q⟩ := h
  obtain ⟨its, rv, hl, hz⟩ := I.tuple hs
  rw [Vals.ref1 r]
  rw [List.length_map] at hz
  have hlen0 : its.length = bs.length := by
    have := rv.length
    rw [List.length_map] at this
    exact this.symm
  have hL : its.length ≤ sizeLine := by rw [hlen0]; exact hz
  refine call_function_entry kind_sorted plain_sorted entry_sorted (args_sorted1 _) ?_
  unfold Builtin.«sorted»
  refine wpAny_bind (m := checkCount "sorted" 1 1 _) (wpAny_pure ?_)
  refine wpAny_bind (collectT hl ?_ hL)
  obtain ⟨h', eh⟩ : ∃ h' : Heap, h' = (s.heap.push (seqObj "list" #[] 0)).update s.heap.objs.size (Obj.mapSeq (· ++ its.toArray)) := ⟨_, rfl⟩
  rw [← eh]
  have hkeep : ∀ b u, s.heap.get? b = some u → h'.get? b = some u := by
    intro b u e
    rw [eh, Heap.get?_update_other _ _ (Ne.symm (Nat.ne_of_lt (Heap.lt_size e)))]
    exact Heap.get?_push_of_some _ e
  refine wpAny_bind (wpAny_newList ?_ hL)
  obtain ⟨e1, e2⟩ := each_reads I rv hd
  have hlt := fun b (u : Obj) (e : s.heap.get? b = some u) => Heap.lt_size (hkeep b u e)
  have hat : (h'.push { cls := .type "list", data := .seq its.toArray }).get? h'.objs.size = some (seqObj "list" its.toArray 0) := Heap.get?_push_size _ rfl
  have hold : ∀ b u, s.heap.get? b = some u → (h'.push { cls := .type "list", data := .seq its.toArray }).get? b = some u := fun b u e => Heap.get?_push_of_some _ (hkeep b u e)
  have er' : EachIs (fun v (b : V × PyData) => ∃ as, Reads (sortingHeap (h'.push { cls := .type "list", data := .seq its.toArray }) h'.objs.size its) v b.2 as) its bs :=
    e2.mono fun _ _ ⟨as, r⟩ => ⟨as, PyProof.Rows.Reads.keeps (fun b u e => sortingHeap_old (Nat.ne_of_lt (hlt b u e)) (hold b u e)) r⟩
  have hnone : s.heap.get? h'.objs.size = none := by
    cases c : s.heap.get? h'.objs.size with
    | none => rfl
    | some u => exact absurd (hlt _ _ c) (Nat.lt_irrefl _)
  have hn : H h'.objs.size = none := I.hok.gone hnone
  have hg : ∀ E' : Value → Shared → Prop, wpAny (model X.prog X.w) X.A.in1 (call (.builtin "list.sort") [.ref h'.objs.size]) (fun _ s' => ∃ v H', Inv X pins σ H' s' ∧ RelV v (.ref h'.objs.size) ∧ Q v H') E' { s with heap := h'.push { cls := .type "list", data := .seq its.toArray } } := by
    intro E'
    refine wpAny_call_entry slot_list_sort ⟨_, hat, rfl⟩ entry_list_sort (list_sort_vals (κ := dataKind (sortingHeap (h'.push { cls := .type "list", data := .seq its.toArray }) h'.objs.size its) (bs.map Prod.snd)) hat (SortsAt.data (s := { s with heap := sortingHeap (h'.push { cls := .type "list", data := .seq its.toArray }) h'.objs.size its }) (each_map (R := fun v d => ∃ as, Reads (sortingHeap (h'.push { cls := .type "list", data := .seq its.toArray }) h'.objs.size its) v d as) Prod.snd er') hal hk (bound_map fun b hb => ?_)) hL ⟨.none, rfl, ?_⟩) (args_list_sort _)
    · have := hdep b hb
      show X.A.units + 2 + _ < cLine
      omega
    · have e3 := sortVals_data false e1 er' hal
      have hlen : ((bs.mergeSort (dataLe false Prod.snd)).map Prod.fst).length ≤ sizeLine := by
        rw [List.length_map, List.length_mergeSort]
        exact hz
      obtain ⟨ep', hat'⟩ := sortedHeap_at (out := (sortVals (dataKind (sortingHeap (h'.push { cls := .type "list", data := .seq its.toArray }) h'.objs.size its) (bs.map Prod.snd)) false its its).toArray) hat
      exact ⟨.ref _, upd H h'.objs.size (.lst ((bs.mergeSort (dataLe false Prod.snd)).map Prod.fst)), I.laidN (t' := s.toks) (fun b u e => (sortedHeap_old (Nat.ne_of_lt (hlt b u e)) (Heap.lt_size (hold b u e))).trans (hold b u e)) hnone hn ⟨hlen, _, ep', vals_each e3, hat'⟩, rfl, q _ hn⟩
  refine wpAny_bind (wpAny_holding (wpAny_mono (hg _) (fun _ s' ⟨v, H', I', r', q'⟩ => ?_) fun _ _ e => e))
  exact wpAny_pure ⟨_, rfl, ⟨v, H', I', r', q'⟩⟩
def hSortGT : FB := fun cs ds => match ds with
  | [.tup xs] => if plains xs && alikeRow (pys xs) && sortableB (pys xs) && (pys xs).all (fun p => decide (p.depth ≤ 60)) then .ok (.lst (sortG xs)) cs else .no
  | [.btp xs] => if plains xs && alikeRow (pys xs) && sortableB (pys xs) && (pys xs).all (fun p => decide (p.depth ≤ 60)) then .ok (.lst (sortG xs)) cs else .no
  | _ => .no
section
variable {X : Cx} {G : Gx} {W : WX} {e : PySem.Expr} {es : List PySem.Expr} {g : Ax} {pos p : Pos}
theorem sortGT_of {ρ : List Addr} {F : Hp} {st : S} {σ : L2.St} {H : Hp} {Q : VK} {xs : List D} {ws : List V} {c : Addr} (r : Rel G ρ F st σ H) (hsq : SqT G.K.K H c ws) (rvs : RVs G.K ρ F xs ws) (po : Post RV G W ρ F st.env σ Q (if plains xs && alikeRow (pys xs) && sortableB (pys xs) && (pys xs).all (fun p => decide (p.depth ≤ 60)) then .ok (.lst (sortG xs)) st.cs else .no)) : rSortGT G.K.K [.ref c] H Q := by
  by_cases ok : (plains xs && alikeRow (pys xs) && sortableB (pys xs) && (pys xs).all (fun p => decide (p.depth ≤ 60))) = true
  · simp only [ok, if_true] at po
    simp only [Bool.and_eq_true] at ok
    obtain ⟨⟨⟨k1, k2⟩, k3⟩, k4⟩ := ok
    obtain ⟨zs, z1, z2, z3⟩ := rvs_zip rvs
    have em : (zs.map fun z => (z.1, py z.2)).map Prod.snd = pys xs := by
      rw [pys_map, ← z1, List.map_map, List.map_map]; rfl
    have ef : (zs.map fun z => (z.1, py z.2)).map Prod.fst = ws := by
      rw [← z2, List.map_map]; rfl
    have hin : ∀ z ∈ zs, z.2 ∈ xs := fun z hz => by rw [← z1]; exact List.mem_map_of_mem hz
    refine ⟨c, zs.map fun z => (z.1, py z.2), rfl, by rw [ef]; exact hsq, fun b hb => ?_, ?_, ?_, fun b hb => ?_, fun p hp => ?_⟩
    · obtain ⟨z, hz, rfl⟩ := List.mem_map.mp hb
      exact dp_of r.fz (z3 z hz) (plains_mem k1 _ (hin z hz))
    · rw [em]
      intro a ha b hb
      exact List.all_eq_true.mp (List.all_eq_true.mp k2 a ha) b hb
    · rw [em]
      exact sortable_of k3
    · have : b.2 ∈ pys xs := by rw [← em]; exact List.mem_map_of_mem hb
      exact of_decide_eq_true (List.all_eq_true.mp k4 _ this)
    · have s1 : ((zs.map fun z => (z.1, py z.2)).mergeSort (dataLe false Prod.snd)) = (zs.mergeSort fun a b => leD a.2 b.2).map fun z => (z.1, py z.2) := (sort_maps (r := fun a b : V × D => leD a.2 b.2) (s := dataLe false Prod.snd) (fun z : V × D => (z.1, py z.2)) (l := zs) fun a _ b _ => rfl).symm
      have s2 : (zs.mergeSort fun a b => leD a.2 b.2).map Prod.snd = sortG xs := by
        unfold sortG
        rw [isort_eq leD_total, ← z1]
        exact sort_maps (r := fun a b : V × D => leD a.2 b.2) (s := leD) Prod.snd (l := zs) fun a _ b _ => rfl
      rw [s1, List.map_map]
      have rr : RVs G.K ρ F (sortG xs) ((zs.mergeSort fun a b => leD a.2 b.2).map Prod.fst) := by
        rw [← s2]
        exact zip_rvs fun z hz => z3 z ((List.mergeSort_perm zs _).subset hz)
      obtain ⟨x3, r3⟩ := r.fresh (o := .lst ((zs.mergeSort fun a b => leD a.2 b.2).map Prod.fst)) hp
      exact po _ _ _ _ x3 r3 (.lst upd_same (rr.ext x3))
  · simp only [ok, if_false] at po
    exact po.elim
theorem vn_sortGT : VN G W (rSortGT G.K.K) hSortGT := by
  intro ρ F st σ H ds vs Q r rv po
  unfold hSortGT at po
  split at po
  · cases rv with
    | cons h1 h2 =>
      cases h2
      cases h1 with
      | tup h3 h4 => exact sortGT_of r (sqT_same r.fz h3) h4 po
  · cases rv with
    | cons h1 h2 =>
      cases h2
      cases h1 with
      | btp h3 _ h4 => exact sortGT_of r (sqT_same r.fz (.inl (.inr ⟨_, h3⟩))) h4 po
  · exact po.elim
theorem de_sortGT (hK : X.K = G.K.K) (hu : X.A.units + 65 < cLine) (hg : Gl X "sorted") (hm : X.mg "sorted" = none) (ha : PA X (e :: es) (tAs G W g)) (he : starEach (e :: es) X.env = (false, eval e X.env) :: starEach es X.env := by rfl) (hpl : (backTo pos (starEach es X.env)).any (·.1) = false := by rfl) : PE X (.Call (.Name "sorted" p) (e :: es) [] pos) (tE G W (eB hSortGT g)) :=
  de_callB (cr_sortGT hu) (by rw [hK]; exact vn_sortGT) hg hm (by decide +kernel) ha (he := he) (hpl := hpl)
/-- for over a list, own or not -/
def iLq (f : Ex) : Ix := fun st => (f st).bind fun x c1 => match x with
  | .lst ds => .ok (ds, keepAll) c1
  | .frl ds => .ok (ds, keepAll) c1
  | .loc n => (match c1[n]? with
    | some (.lst ds) => .ok (ds, keepD n ds) c1
    | _ => .no)
  | _ => .no
theorem iLq_one (f : Ex) (st : S) : iLq f st = iL f st ∨ iLq f st = iLo f st := by
  unfold iLq iL iLo
  cases f st with
  | no => exact .inl rfl
  | ex e' cs => exact .inl rfl
  | ok x c1 =>
    cases x with
    | loc n => exact .inr rfl
    | _ => exact .inl rfl
variable {tg : PySem.Expr} {fa : Ex}
theorem di_listq (hK : X.K = G.K.K) (h : PE X e (tE G W fa)) : PI X tg e (tI G W (iLq fa)) := ⟨fun pn s σ H R I ⟨ρ, F, st, r, po⟩ => by
  rcases iLq_one fa st with q | q
  · exact (di_list hK h).run pn s σ H R I ⟨ρ, F, st, r, q ▸ po⟩
  · exact (di_loc hK h).run pn s σ H R I ⟨ρ, F, st, r, q ▸ po⟩⟩
end
end VL
namespace K21
open PySem L2 PyProof.Rows VL
def topS (i : Nat) : Stmt := PySem.Challenge.pw_plainroads_k21_ties_and_rings.main.body.getD i (.Pass ⟨0, 0, 0, 0⟩)
abbrev s_layers : Stmt := topS 1
abbrev n_layers : List Str := ["rows", "found", "number", "task", "gets", "puts", "cell"]
theorem sc_layers : FnScope n_layers ["rows"] (defScope s_layers) := ⟨rfl, rfl, rfl, by decide +kernel, rfl, by decide +kernel, by decide +kernel⟩
abbrev s_next : Stmt := topS 2
abbrev n_next : List Str := ["layers", "cell", "layer", "later", "number"]
theorem sc_next : FnScope n_next ["layers", "cell", "layer"] (defScope s_next) := ⟨rfl, rfl, rfl, by decide +kernel, rfl, by decide +kernel, by decide +kernel⟩
abbrev s_tiesof : Stmt := topS 3
abbrev n_tiesof : List Str := ["rows", "layers", "found", "last", "number", "task", "gets", "puts", "cell", "layer", "later"]
theorem sc_tiesof : FnScope n_tiesof ["rows"] (defScope s_tiesof) := ⟨rfl, rfl, rfl, by decide +kernel, rfl, by decide +kernel, by decide +kernel⟩
abbrev s_numbers : Stmt := topS 5
abbrev n_numbers : List Str := ["rows", "found", "number", "row"]
theorem sc_numbers : FnScope n_numbers ["rows"] (defScope s_numbers) := ⟨rfl, rfl, rfl, by decide +kernel, rfl, by decide +kernel, by decide +kernel⟩
abbrev s_ties : Stmt := topS 4
abbrev n_ties : List Str := ["rows", "found", "far", "task", "numbers", "at", "other", "one"]
theorem sc_ties : FnScope n_ties ["rows"] (defScope s_ties) := ⟨rfl, rfl, rfl, by decide +kernel, rfl, by decide +kernel, by decide +kernel⟩
abbrev s_wayback : Stmt := topS 7
abbrev n_wayback : List Str := ["parents", "first", "here", "found"]
theorem sc_wayback : FnScope n_wayback ["parents", "first", "here"] (defScope s_wayback) := ⟨rfl, rfl, rfl, by decide +kernel, rfl, by decide +kernel, by decide +kernel⟩
abbrev s_ringfrom : Stmt := topS 6
abbrev n_ringfrom : List Str := ["behind", "first", "parents", "waiting", "spot", "here", "later"]
theorem sc_ringfrom : FnScope n_ringfrom ["behind", "first"] (defScope s_ringfrom) := ⟨rfl, rfl, rfl, by decide +kernel, rfl, by decide +kernel, by decide +kernel⟩
abbrev s_ring : Stmt := topS 8
abbrev n_ring : List Str := ["rows", "behind", "one", "other", "found", "first", "some"]
theorem sc_ring : FnScope n_ring ["rows"] (defScope s_ring) := ⟨rfl, rfl, rfl, by decide +kernel, rfl, by decide +kernel, by decide +kernel⟩
abbrev s_order : Stmt := topS 9
abbrev n_order : List Str := ["rows", "left", "pairs", "found", "barred", "one", "other", "free", "number"]
theorem sc_order : FnScope n_order ["rows"] (defScope s_order) := ⟨rfl, rfl, rfl, by decide +kernel, rfl, by decide +kernel, by decide +kernel⟩
abbrev s_deal : Stmt := topS 11
abbrev n_deal : List Str := ["_law_script", "_law_base", "_law_cs", "_law_cell", "_law_blend"]
theorem sc_deal : FnScope n_deal ["_law_script", "_law_base"] (defScope s_deal) := ⟨rfl, rfl, rfl, by decide +kernel, rfl, by decide +kernel, by decide +kernel⟩
abbrev s_draw : Stmt := topS 12
abbrev n_draw : List Str := ["_law_deal", "_law_wide", "_law_great", "_law_cell"]
theorem sc_draw : FnScope n_draw ["_law_deal", "_law_wide"] (defScope s_draw) := ⟨rfl, rfl, rfl, by decide +kernel, rfl, by decide +kernel, by decide +kernel⟩
abbrev s_pick : Stmt := topS 13
abbrev n_pick : List Str := ["_law_deal", "_law_some"]
theorem sc_pick : FnScope n_pick ["_law_deal", "_law_some"] (defScope s_pick) := ⟨rfl, rfl, rfl, by decide +kernel, rfl, by decide +kernel, by decide +kernel⟩
abbrev s_rows : Stmt := topS 14
abbrev n_rows : List Str := ["_law_deal", "_law_many", "_law_found", "_law_cs", "_law_turn", "_law_gets", "_law_step", "_law_cell", "_law_some", "_law_k", "_law_row", "_law_puts"]
theorem sc_rows : FnScope n_rows ["_law_deal", "_law_many"] (defScope s_rows) := ⟨rfl, rfl, rfl, by decide +kernel, rfl, by decide +kernel, by decide +kernel⟩
abbrev s_lpairs : Stmt := topS 15
abbrev n_lpairs : List Str := ["_law_rows_here", "_law_found", "_law_j", "_law_task", "_law_gets", "_law_puts", "_law_i", "_law_some", "_law_cell", "_law_layer", "_law_later", "_law_k", "_law_row"]
theorem sc_lpairs : FnScope n_lpairs ["_law_rows_here"] (defScope s_lpairs) := ⟨rfl, rfl, rfl, by decide +kernel, rfl, by decide +kernel, by decide +kernel⟩
abbrev s_lshort : Stmt := topS 16
abbrev n_lshort : List Str := ["_law_pairs_here", "_law_many", "_law_best", "_law_first", "_law_layer", "_law_known", "_law_size", "_law_i", "_law_j"]
theorem sc_lshort : FnScope n_lshort ["_law_pairs_here", "_law_many"] (defScope s_lshort) := ⟨rfl, rfl, rfl, by decide +kernel, rfl, by decide +kernel, by decide +kernel⟩
abbrev s_law : Stmt := topS 17
abbrev n_law : List Str := ["_law_script", "_law_deal", "_law_turn", "_law_rows_here", "_law_du", "_law_many", "_law_best", "_law_found", "_law_order", "_law_steps", "_law_k", "_law_one", "_law_pair", "_law_i", "_law_j"]
theorem sc_law : FnScope n_law ["_law_script"] (defScope s_law) := ⟨rfl, rfl, rfl, by decide +kernel, rfl, by decide +kernel, by decide +kernel⟩
structure Tx (K : Kt) (mg : Str → Option Value) : Prop where
  b_len : mg "len" = none
  b_int : mg "int" = none
  b_abs : mg "abs" = none
  b_str : mg "str" = none
  b_repr : mg "repr" = none
  b_tuple : mg "tuple" = none
  b_range : mg "range" = none
  b_enumerate : mg "enumerate" = none
  b_list : mg "list" = none
  b_sorted : mg "sorted" = none
  b_dict : mg "dict" = none
  b_set : mg "set" = none
  t_layers : Txt1 K mg "layers_of" s_layers ["rows"]
  t_next : Txt1 K mg "next_layer" s_next ["layers", "cell", "layer"]
  t_tiesof : Txt1 K mg "ties_of" s_tiesof ["rows"]
  t_numbers : Txt1 K mg "numbers_by_task" s_numbers ["rows"]
  t_ties : Txt1 K mg "ties" s_ties ["rows"]
  t_wayback : Txt1 K mg "way_back" s_wayback ["parents", "first", "here"]
  t_ringfrom : Txt1 K mg "ring_from" s_ringfrom ["behind", "first"]
  t_ring : Txt1 K mg "ring" s_ring ["rows"]
  t_order : Txt1 K mg "plain_order" s_order ["rows"]
  t_deal : Txt1 K mg "_law_source" s_deal ["_law_script", "_law_base"]
  t_draw : Txt1 K mg "_law_draw" s_draw ["_law_deal", "_law_wide"]
  t_pick : Txt1 K mg "_law_pick" s_pick ["_law_deal", "_law_some"]
  t_rows : Txt1 K mg "_law_rows" s_rows ["_law_deal", "_law_many"]
  t_lpairs : Txt1 K mg "_law_pairs" s_lpairs ["_law_rows_here"]
  t_lshort : Txt1 K mg "_law_shortest" s_lshort ["_law_pairs_here", "_law_many"]
abbrev b_layers : Sx :=
  (sSeq (sAsg eNewD (gNm 1))
    (sSeq (sFor (iEnQ (aCons (eVar 0) aNil)) (gTp 2 (gsCons (gNm 2) (gsCons (gTp 3 (gsCons (gNm 3) (gsCons (gNm 4) (gsCons (gNm 5) gsNil)))) gsNil))) (sFor (iT (eVar 5)) (gNm 6) (sExpr (eAppend (eSetd (eVar 1) (eVar 6) (eLoc aNil)) (eVar 2)))))
    (sRet (eVar 1))))
theorem ok_layers {P : Program} {K : Kt} {mg : Str → Option Value} {base : Heap} (T : Tx K mg) : Def P K.w K mg base "layers_of" s_layers 1 ["rows"] (runF 7 b_layers) := by
  refine mkDef (k := 0) (N := n_layers) (body := b_layers) T.t_layers sc_layers ?_
  rintro f G rfl cdv A outer s H E hr
  exact (ds_cons (ds_set (i := 1) sc_layers.nd de_newD)
    (ds_cons (ds_for (passes_of rfl) rfl (di_enumQ rfl rfl T.b_enumerate (da_cons (de_var (pv 0)) da_nil)) (dg_tup rfl rfl (dgs_cons (dg_name (i := 2) sc_layers.nd) (dgs_cons (dg_tup rfl rfl (dgs_cons (dg_name (i := 3) sc_layers.nd) (dgs_cons (dg_name (i := 4) sc_layers.nd) (dgs_cons (dg_name (i := 5) sc_layers.nd) dgs_nil)))) dgs_nil))) (ds_one (ds_for (passes_of rfl) rfl (di_tup rfl (de_var (pv 5))) (dg_name (i := 6) sc_layers.nd) (ds_one (ds_expr (de_append rfl (pe_bm PySem.F.plainAttrs_list PySem.F.slot_list_append PySem.F.type_list_append mt_append (de_setd (de_var (pv 1)) (de_var (pv 6)) (de_loc da_nil)) (pa_cons (de_var (pv 2)) pa_nil))))))))
    (ds_one (ds_ret (de_var (pv 1))))))
def layersF : Fn := runF 7 b_layers
theorem ok1_layers {P : Program} {K : Kt} {mg : Str → Option Value} {base : Heap} (T : Tx K mg) : Def P K.w K mg base "layers_of" s_layers 1 ["rows"] layersF := (ok_layers T )
abbrev b_next : Sx :=
  (sSeq (sAsg (eLc (iLq (eGetD2 (eVar 0) (eVar 1) (eLst aNil))) (gNm 4) (tCmp' gGt (eVar 4) (eVar 2)) (eVar 4) [4]) (gNm 3))
    (sRet (eIf (tCmp' gGt (eB hLen (aCons (eVar 3) aNil)) (eC (.int 0))) (eOp gIx (eVar 3) (eC (.int 0))) (eC .non))))
theorem ok_next {P : Program} {K : Kt} {mg : Str → Option Value} {base : Heap} (T : Tx K mg) : Def P K.w K mg base "next_layer" s_next 1 ["layers", "cell", "layer"] (runF 5 b_next) := by
  refine mkDef (k := 0) (N := n_next) (body := b_next) T.t_next sc_next ?_
  rintro f G rfl cdv A outer s H E hr
  exact (ds_cons (ds_setLc (i := 3) (own := [("number", 4)]) rfl sc_next.nd (di_listq rfl (de_getD2 (units1 hr) (de_var (pv 0)) (de_var (pv 1)) (de_lst da_nil))) (blkOk_by (N := n_next) (sc := defScope s_next) (by decide +kernel)) (by decide) (fun _ _ _ _ _ => (dg_name (i := 4) sc_next.nd)) (fun _ _ _ _ _ => (dts_one (dt_gt (de_var (pv 4)) (de_var (pv 2))))) (fun _ _ _ _ _ => (de_var (pv 4))) (sw_true rfl rfl rfl (by decide +kernel)))
    (ds_one (ds_ret (de_if (dt_gt (de_len rfl rfl T.b_len (da_cons (de_var (pv 3)) da_nil)) de_int) (de_ix rfl (de_var (pv 3)) de_int) de_non))))
def nextF : Fn := runF 5 b_next
theorem ok1_next {P : Program} {K : Kt} {mg : Str → Option Value} {base : Heap} (T : Tx K mg) : Def P K.w K mg base "next_layer" s_next 1 ["layers", "cell", "layer"] nextF := (ok_next T )
abbrev b_tiesof : Sx :=
  (sSeq (sPar [1, 2, 3] (aCons (eCallAll layersF (aCons (eVar 0) aNil)) (aCons eNewN (aCons eNewD aNil))))
    (sSeq (sFor (iEnQ (aCons (eVar 0) aNil)) (gTp 2 (gsCons (gNm 4) (gsCons (gTp 3 (gsCons (gNm 5) (gsCons (gNm 6) (gsCons (gNm 7) gsNil)))) gsNil))) (sSeq (sIf (tCmp' (gInD false) (eVar 5) (eVar 3)) (sSetKN (eC (.bl true)) (eVar 2) (eTup (aCons (eOp gIxD (eVar 3) (eVar 5)) (aCons (eVar 4) aNil)))) sNil)
    (sSeq (sSetKD (eVar 4) (eVar 3) (eVar 5))
    (sSeq (sFor (iT (eVar 6)) (gTp 2 (gsCons (gNm 8) (gsCons (gNm 9) gsNil))) (sSeq (sIf (tAnd' (tCmp' gGe (eVar 9) (eC (.int 0))) (tCmp' (gEqB true) (eVar 9) (eVar 4))) (sSetKN (eC (.bl true)) (eVar 2) (eTup (aCons (eVar 9) (aCons (eVar 4) aNil)))) sNil)
    (sSeq (sAsg (trimX (eCallAll nextF (aCons (eVar 1) (aCons (eVar 8) (aCons (eVar 9) aNil))))) (gNm 10))
    (sIf (tAnd' (tCmp' (gIs true) (eVar 10) (eC .non)) (tCmp' (gEqB true) (eVar 10) (eVar 4))) (sSetKN (eC (.bl true)) (eVar 2) (eTup (aCons (eVar 4) (aCons (eVar 10) aNil)))) sNil))))
    (sFor (iT (eVar 7)) (gNm 8) (sSeq (sAsg (trimX (eCallAll nextF (aCons (eVar 1) (aCons (eVar 8) (aCons (eVar 4) aNil))))) (gNm 10))
    (sIf (tCmp' (gIs true) (eVar 10) (eC .non)) (sSetKN (eC (.bl true)) (eVar 2) (eTup (aCons (eVar 4) (aCons (eVar 10) aNil)))) sNil)))))))
    (sRet (eVar 2))))
theorem ok_tiesof {P : Program} {K : Kt} {mg : Str → Option Value} {base : Heap} (T : Tx K mg) (d_layers : Def P K.w K mg base "layers_of" s_layers 1 ["rows"] layersF) (d_next : Def P K.w K mg base "next_layer" s_next 1 ["layers", "cell", "layer"] nextF) : Def P K.w K mg base "ties_of" s_tiesof 2 ["rows"] (runF 11 b_tiesof) := by
  refine mkDef (k := 1) (N := n_tiesof) (body := b_tiesof) T.t_tiesof sc_tiesof ?_
  rintro f G rfl cdv A outer s H E hr
  exact (ds_cons (ds_par3 (i := 1) (j := 2) (l := 3) rfl sc_tiesof.nd (da_cons (de_callDA d_layers rfl (takes_of rfl rfl rfl rfl) (hr.mono (by decide)) (da_cons (de_var (pv 0)) da_nil) (alen_cons alen_nil)) (da_cons (de_newN rfl) (da_cons de_newD da_nil))) (by decide) (by decide) (by decide))
    (ds_cons (ds_for (passes_of rfl) rfl (di_enumQ rfl rfl T.b_enumerate (da_cons (de_var (pv 0)) da_nil)) (dg_tup rfl rfl (dgs_cons (dg_name (i := 4) sc_tiesof.nd) (dgs_cons (dg_tup rfl rfl (dgs_cons (dg_name (i := 5) sc_tiesof.nd) (dgs_cons (dg_name (i := 6) sc_tiesof.nd) (dgs_cons (dg_name (i := 7) sc_tiesof.nd) dgs_nil)))) dgs_nil))) (ds_cons (ds_if (dt_inD (units1 hr) (de_var (pv 5)) (de_var (pv 3))) (ds_one (ds_setKN rfl rfl (units9 hr) de_bl (de_var (pv 2)) (de_tup (da_cons (de_ixD (units1 hr) (de_var (pv 3)) (de_var (pv 5))) (da_cons (de_var (pv 4)) da_nil))))) ds_nil)
    (ds_cons (ds_setKD (units1 hr) (de_var (pv 4)) (de_var (pv 3)) (de_var (pv 5)))
    (ds_cons (ds_for (passes_of rfl) rfl (di_tup rfl (de_var (pv 6))) (dg_tup rfl rfl (dgs_cons (dg_name (i := 8) sc_tiesof.nd) (dgs_cons (dg_name (i := 9) sc_tiesof.nd) dgs_nil))) (ds_cons (ds_if (dt_w (dw_and (dt_ge (de_var (pv 9)) de_int) (dw_and1 (dt_ne rfl hr.units (de_var (pv 9)) (de_var (pv 4)))))) (ds_one (ds_setKN rfl rfl (units9 hr) de_bl (de_var (pv 2)) (de_tup (da_cons (de_var (pv 9)) (da_cons (de_var (pv 4)) da_nil))))) ds_nil)
    (ds_cons (ds_set (i := 10) sc_tiesof.nd (de_trimX (de_callDA d_next rfl (takes_of rfl rfl rfl rfl) (hr.mono (by decide)) (da_cons (de_var (pv 1)) (da_cons (de_var (pv 8)) (da_cons (de_var (pv 9)) da_nil))) (alen_cons (alen_cons (alen_cons alen_nil))))))
    (ds_one (ds_if (dt_w (dw_and (dt_isnot (de_var (pv 10)) de_non) (dw_and1 (dt_ne rfl hr.units (de_var (pv 10)) (de_var (pv 4)))))) (ds_one (ds_setKN rfl rfl (units9 hr) de_bl (de_var (pv 2)) (de_tup (da_cons (de_var (pv 4)) (da_cons (de_var (pv 10)) da_nil))))) ds_nil)))))
    (ds_one (ds_for (passes_of rfl) rfl (di_tup rfl (de_var (pv 7))) (dg_name (i := 8) sc_tiesof.nd) (ds_cons (ds_set (i := 10) sc_tiesof.nd (de_trimX (de_callDA d_next rfl (takes_of rfl rfl rfl rfl) (hr.mono (by decide)) (da_cons (de_var (pv 1)) (da_cons (de_var (pv 8)) (da_cons (de_var (pv 4)) da_nil))) (alen_cons (alen_cons (alen_cons alen_nil))))))
    (ds_one (ds_if (dt_isnot (de_var (pv 10)) de_non) (ds_one (ds_setKN rfl rfl (units9 hr) de_bl (de_var (pv 2)) (de_tup (da_cons (de_var (pv 4)) (da_cons (de_var (pv 10)) da_nil))))) ds_nil)))))))))
    (ds_one (ds_ret (de_var (pv 2))))))
def tiesofF : Fn := runF 11 b_tiesof
theorem ok1_tiesof {P : Program} {K : Kt} {mg : Str → Option Value} {base : Heap} (T : Tx K mg) (d_layers : Def P K.w K mg base "layers_of" s_layers 1 ["rows"] layersF) (d_next : Def P K.w K mg base "next_layer" s_next 1 ["layers", "cell", "layer"] nextF) : Def P K.w K mg base "ties_of" s_tiesof 2 ["rows"] tiesofF := (ok_tiesof T d_layers d_next)
abbrev b_numbers : Sx :=
  (sSeq (sAsg eNewD (gNm 1))
    (sSeq (sFor (iEnQ (aCons (eVar 0) aNil)) (gTp 2 (gsCons (gNm 2) (gsCons (gNm 3) gsNil))) (sExpr (eAppend (eSetd (eVar 1) (eOp gIx (eVar 3) (eC (.int 0))) (eLoc aNil)) (eVar 2))))
    (sRet (eVar 1))))
theorem ok_numbers {P : Program} {K : Kt} {mg : Str → Option Value} {base : Heap} (T : Tx K mg) : Def P K.w K mg base "numbers_by_task" s_numbers 1 ["rows"] (runF 4 b_numbers) := by
  refine mkDef (k := 0) (N := n_numbers) (body := b_numbers) T.t_numbers sc_numbers ?_
  rintro f G rfl cdv A outer s H E hr
  exact (ds_cons (ds_set (i := 1) sc_numbers.nd de_newD)
    (ds_cons (ds_for (passes_of rfl) rfl (di_enumQ rfl rfl T.b_enumerate (da_cons (de_var (pv 0)) da_nil)) (dg_tup rfl rfl (dgs_cons (dg_name (i := 2) sc_numbers.nd) (dgs_cons (dg_name (i := 3) sc_numbers.nd) dgs_nil))) (ds_one (ds_expr (de_append rfl (pe_bm PySem.F.plainAttrs_list PySem.F.slot_list_append PySem.F.type_list_append mt_append (de_setd (de_var (pv 1)) (de_ix rfl (de_var (pv 3)) de_int) (de_loc da_nil)) (pa_cons (de_var (pv 2)) pa_nil))))))
    (ds_one (ds_ret (de_var (pv 1))))))
def numbersF : Fn := runF 4 b_numbers
theorem ok1_numbers {P : Program} {K : Kt} {mg : Str → Option Value} {base : Heap} (T : Tx K mg) : Def P K.w K mg base "numbers_by_task" s_numbers 1 ["rows"] numbersF := (ok_numbers T )
abbrev b_ties : Sx :=
  (sSeq (sAsg (eCallAll tiesofF (aCons (eVar 0) aNil)) (gNm 1))
    (sSeq (sAsg eNewN (gNm 2))
    (sSeq (sFor (iItm (eCallAll numbersF (aCons (eVar 0) aNil))) (gTp 2 (gsCons (gNm 3) (gsCons (gNm 4) gsNil))) (sExpr (eUpdN (eVar 2) (eDcN2 (iEn (aCons (eVar 4) aNil)) (gTp 2 (gsCons (gNm 5) (gsCons (gNm 6) gsNil))) tTrue (iL (eSl false (eVar 4) oNone (oSome (eVar 5)))) (gNm 7) tTrue (eTup (aCons (eVar 7) (aCons (eVar 6) aNil))) (eC (.bl true)) [5, 6, 7] [7]))))
    (sRet (eB hTuple (aCons (eB hSortN (aCons (eStar2 (eVar 1) (eVar 2)) aNil)) aNil))))))
theorem ok_ties {P : Program} {K : Kt} {mg : Str → Option Value} {base : Heap} (T : Tx K mg) (d_tiesof : Def P K.w K mg base "ties_of" s_tiesof 2 ["rows"] tiesofF) (d_numbers : Def P K.w K mg base "numbers_by_task" s_numbers 1 ["rows"] numbersF) : Def P K.w K mg base "ties" s_ties 3 ["rows"] (runF 8 b_ties) := by
  refine mkDef (k := 2) (N := n_ties) (body := b_ties) T.t_ties sc_ties ?_
  rintro f G rfl cdv A outer s H E hr
  exact (ds_cons (ds_set (i := 1) sc_ties.nd (de_callDA d_tiesof rfl (takes_of rfl rfl rfl rfl) (hr.mono (by decide)) (da_cons (de_var (pv 0)) da_nil) (alen_cons alen_nil)))
    (ds_cons (ds_set (i := 2) sc_ties.nd (de_newN rfl))
    (ds_cons (ds_for (passes_of rfl) rfl (di_items (de_callDA d_numbers rfl (takes_of rfl rfl rfl rfl) (hr.mono (by decide)) (da_cons (de_var (pv 0)) da_nil) (alen_cons alen_nil))) (dg_tup rfl rfl (dgs_cons (dg_name (i := 3) sc_ties.nd) (dgs_cons (dg_name (i := 4) sc_ties.nd) dgs_nil))) (ds_one (ds_expr (de_updN rfl rfl (units9 hr) (de_var (pv 2)) (de_dcN2 (own := [("at", 5), ("other", 6), ("one", 7)]) (vs1 := [7]) rfl rfl (units9 hr) rfl sc_ties.nd (di_enum rfl rfl T.b_enumerate (da_cons (de_var (pv 4)) da_nil)) (blkOk_by (N := n_ties) (sc := defScope s_ties) (by decide +kernel)) (by decide) (by decide) (by decide) (fun _ _ _ _ _ => (dg_tup rfl rfl (dgs_cons (dg_name (i := 5) sc_ties.nd) (dgs_cons (dg_name (i := 6) sc_ties.nd) dgs_nil)))) (fun _ _ _ _ _ => dts_nil) (fun _ _ _ _ _ => by exact (di_list rfl (de_slice (own := false) rfl (de_var (pv 4)) do_none (do_some (de_var (pv 5)))))) (fun _ _ _ _ _ => (dg_name (i := 7) sc_ties.nd)) (fun _ _ _ _ _ => dts_nil) (fun _ _ _ _ _ => (de_tup (da_cons (de_var (pv 7)) (da_cons (de_var (pv 6)) da_nil)))) (fun _ _ _ _ _ => de_bl))))))
    (ds_one (ds_ret (de_tuple1 rfl rfl T.b_tuple (da_cons (de_sortN rfl rfl rfl (units65 hr) rfl T.b_sorted (da_cons (de_star2 rfl rfl (units9 hr) (de_var (pv 1)) (de_var (pv 2))) da_nil)) da_nil)))))))
def tiesF : Fn := trimF (runF 8 b_ties)
theorem ok1_ties {P : Program} {K : Kt} {mg : Str → Option Value} {base : Heap} (T : Tx K mg) (d_tiesof : Def P K.w K mg base "ties_of" s_tiesof 2 ["rows"] tiesofF) (d_numbers : Def P K.w K mg base "numbers_by_task" s_numbers 1 ["rows"] numbersF) : Def P K.w K mg base "ties" s_ties 3 ["rows"] tiesF := (ok_ties T d_tiesof d_numbers).trim
abbrev b_wayback : Sx :=
  (sSeq (sAsg (eLoc (aCons (eVar 2) aNil)) (gNm 3))
    (sSeq (sWhile (fun _ => 64) (tCmp' (gEqB true) (eOp gIx (eVar 3) (eUn gNeg (eC (.int 1)))) (eVar 1)) (sExpr (eAppend (eVar 3) (eOp gIxD (eVar 0) (eOp gIx (eVar 3) (eUn gNeg (eC (.int 1))))))))
    (sRet (eB hTuple (aCons (eUn gRev (eVar 3)) aNil)))))
theorem ok_wayback {P : Program} {K : Kt} {mg : Str → Option Value} {base : Heap} (T : Tx K mg) : Def P K.w K mg base "way_back" s_wayback 1 ["parents", "first", "here"] (runF 4 b_wayback) := by
  refine mkDef (k := 0) (N := n_wayback) (body := b_wayback) T.t_wayback sc_wayback ?_
  rintro f G rfl cdv A outer s H E hr
  exact (ds_cons (ds_set (i := 3) sc_wayback.nd (de_loc (da_cons (de_var (pv 2)) da_nil)))
    (ds_cons (ds_while (fuel := (fun _ => 64)) (passes_of rfl) (dt_ne rfl hr.units (de_ix rfl (de_var (pv 3)) (de_neg de_int)) (de_var (pv 1))) (ds_one (ds_expr (de_append rfl (pe_bm PySem.F.plainAttrs_list PySem.F.slot_list_append PySem.F.type_list_append mt_append (de_var (pv 3)) (pa_cons (de_ixD (units1 hr) (de_var (pv 0)) (de_ix rfl (de_var (pv 3)) (de_neg de_int))) pa_nil))))))
    (ds_one (ds_ret (de_tuple1 rfl rfl T.b_tuple (da_cons (de_rev rfl (de_var (pv 3))) da_nil))))))
def waybackF : Fn := runF 4 b_wayback
theorem ok1_wayback {P : Program} {K : Kt} {mg : Str → Option Value} {base : Heap} (T : Tx K mg) : Def P K.w K mg base "way_back" s_wayback 1 ["parents", "first", "here"] waybackF := (ok_wayback T )
abbrev b_ringfrom : Sx :=
  (sSeq (sPar [2, 3, 4] (aCons eNewD (aCons (eLoc (aCons (eVar 1) aNil)) (aCons (eC (.int 0)) aNil))))
    (sSeq (sWhile (fun _ => 64) (tCmp' gLt (eVar 4) (eB hLen (aCons (eVar 3) aNil))) (sSeq (sAsg (eOp gIx (eVar 3) (eVar 4)) (gNm 5))
    (sSeq (sAug 4 (fun i j => i + j) (eC (.int 1)))
    (sFor (iLq (eGetD2 (eVar 0) (eVar 5) (eLst aNil))) (gNm 6) (sSeq (sIf (tCmp' (gEqB false) (eVar 6) (eVar 1)) (sRet (trimX (eCallAll waybackF (aCons (eVar 2) (aCons (eVar 1) (aCons (eVar 5) aNil)))))) sNil)
    (sIf (tCmp' (gInD true) (eVar 6) (eVar 2)) (sSeq (sSetKD (eVar 5) (eVar 2) (eVar 6))
    (sExpr (eAppend (eVar 3) (eVar 6)))) sNil))))))
    (sRet (eC .non))))
theorem ok_ringfrom {P : Program} {K : Kt} {mg : Str → Option Value} {base : Heap} (T : Tx K mg) (d_wayback : Def P K.w K mg base "way_back" s_wayback 1 ["parents", "first", "here"] waybackF) : Def P K.w K mg base "ring_from" s_ringfrom 2 ["behind", "first"] (runF 7 b_ringfrom) := by
  refine mkDef (k := 1) (N := n_ringfrom) (body := b_ringfrom) T.t_ringfrom sc_ringfrom ?_
  rintro f G rfl cdv A outer s H E hr
  exact (ds_cons (ds_par3 (i := 2) (j := 3) (l := 4) rfl sc_ringfrom.nd (da_cons de_newD (da_cons (de_loc (da_cons (de_var (pv 1)) da_nil)) (da_cons de_int da_nil))) (by decide) (by decide) (by decide))
    (ds_cons (ds_while (fuel := (fun _ => 64)) (passes_of rfl) (dt_lt (de_var (pv 4)) (de_len rfl rfl T.b_len (da_cons (de_var (pv 3)) da_nil))) (ds_cons (ds_set (i := 5) sc_ringfrom.nd (de_ix rfl (de_var (pv 3)) (de_var (pv 4))))
    (ds_cons (ds_aug (i := 4) sc_ringfrom.nd de_int ip_add)
    (ds_one (ds_for (passes_of rfl) rfl (di_listq rfl (de_getD2 (units1 hr) (de_var (pv 0)) (de_var (pv 5)) (de_lst da_nil))) (dg_name (i := 6) sc_ringfrom.nd) (ds_cons (ds_if (dt_eq rfl hr.units (de_var (pv 6)) (de_var (pv 1))) (ds_one (ds_ret (de_trimX (de_callDA d_wayback rfl (takes_of rfl rfl rfl rfl) (hr.mono (by decide)) (da_cons (de_var (pv 2)) (da_cons (de_var (pv 1)) (da_cons (de_var (pv 5)) da_nil))) (alen_cons (alen_cons (alen_cons alen_nil))))))) ds_nil)
    (ds_one (ds_if (dt_notinD (units1 hr) (de_var (pv 6)) (de_var (pv 2))) (ds_cons (ds_setKD (units1 hr) (de_var (pv 5)) (de_var (pv 2)) (de_var (pv 6)))
    (ds_one (ds_expr (de_append rfl (pe_bm PySem.F.plainAttrs_list PySem.F.slot_list_append PySem.F.type_list_append mt_append (de_var (pv 3)) (pa_cons (de_var (pv 6)) pa_nil)))))) ds_nil))))))))
    (ds_one (ds_ret de_non))))
def ringfromF : Fn := runF 7 b_ringfrom
theorem ok1_ringfrom {P : Program} {K : Kt} {mg : Str → Option Value} {base : Heap} (T : Tx K mg) (d_wayback : Def P K.w K mg base "way_back" s_wayback 1 ["parents", "first", "here"] waybackF) : Def P K.w K mg base "ring_from" s_ringfrom 2 ["behind", "first"] ringfromF := (ok_ringfrom T d_wayback)
abbrev b_ring : Sx :=
  (sSeq (sAsg eNewD (gNm 1))
    (sSeq (sFor (iT (eCall 0 tiesF (aCons (eVar 0) aNil))) (gTp 2 (gsCons (gNm 2) (gsCons (gNm 3) gsNil))) (sExpr (eAppend (eSetd (eVar 1) (eVar 2) (eLoc aNil)) (eVar 3))))
    (sSeq (sAsg (eC .non) (gNm 4))
    (sSeq (sFor (iR1 (aCons (eB hLen (aCons (eVar 0) aNil)) aNil)) (gNm 5) (sSeq (sAsg (trimX (eCallAll ringfromF (aCons (eVar 1) (aCons (eVar 5) aNil)))) (gNm 6))
    (sIf (tAnd' (tCmp' (gIs true) (eVar 6) (eC .non)) (tOr' (tCmp' (gIs false) (eVar 4) (eC .non)) (tCmp' gLt (eB hLen (aCons (eVar 6) aNil)) (eB hLen (aCons (eVar 4) aNil))))) (sAsg (eVar 6) (gNm 4)) sNil)))
    (sRet (eVar 4))))))
theorem ok_ring {P : Program} {K : Kt} {mg : Str → Option Value} {base : Heap} (T : Tx K mg) (d_ties : Def P K.w K mg base "ties" s_ties 3 ["rows"] tiesF) (d_ringfrom : Def P K.w K mg base "ring_from" s_ringfrom 2 ["behind", "first"] ringfromF) : Def P K.w K mg base "ring" s_ring 4 ["rows"] (runF 7 b_ring) := by
  refine mkDef (k := 3) (N := n_ring) (body := b_ring) T.t_ring sc_ring ?_
  rintro f G rfl cdv A outer s H E hr
  exact (ds_cons (ds_set (i := 1) sc_ring.nd de_newD)
    (ds_cons (ds_for (passes_of rfl) rfl (di_tup rfl (de_callD 0 d_ties rfl (takes_of rfl rfl rfl rfl) (hr.mono (by decide)) (da_cons (de_var (pv 0)) da_nil) (alen_cons alen_nil))) (dg_tup rfl rfl (dgs_cons (dg_name (i := 2) sc_ring.nd) (dgs_cons (dg_name (i := 3) sc_ring.nd) dgs_nil))) (ds_one (ds_expr (de_append rfl (pe_bm PySem.F.plainAttrs_list PySem.F.slot_list_append PySem.F.type_list_append mt_append (de_setd (de_var (pv 1)) (de_var (pv 2)) (de_loc da_nil)) (pa_cons (de_var (pv 3)) pa_nil))))))
    (ds_cons (ds_set (i := 4) sc_ring.nd de_non)
    (ds_cons (ds_for (passes_of rfl) rfl (di_range1 rfl T.b_range (da_cons (de_len rfl rfl T.b_len (da_cons (de_var (pv 0)) da_nil)) da_nil)) (dg_name (i := 5) sc_ring.nd) (ds_cons (ds_set (i := 6) sc_ring.nd (de_trimX (de_callDA d_ringfrom rfl (takes_of rfl rfl rfl rfl) (hr.mono (by decide)) (da_cons (de_var (pv 1)) (da_cons (de_var (pv 5)) da_nil)) (alen_cons (alen_cons alen_nil)))))
    (ds_one (ds_if (dt_w (dw_and (dt_isnot (de_var (pv 6)) de_non) (dw_and1 (dt_w (dw_or (dt_is (de_var (pv 4)) de_non) (dw_or1 (dt_lt (de_len rfl rfl T.b_len (da_cons (de_var (pv 6)) da_nil)) (de_len rfl rfl T.b_len (da_cons (de_var (pv 4)) da_nil))))))))) (ds_one (ds_set (i := 4) sc_ring.nd (de_var (pv 6)))) ds_nil))))
    (ds_one (ds_ret (de_var (pv 4))))))))
def ringF : Fn := trimF (runF 7 b_ring)
theorem ok1_ring {P : Program} {K : Kt} {mg : Str → Option Value} {base : Heap} (T : Tx K mg) (d_ties : Def P K.w K mg base "ties" s_ties 3 ["rows"] tiesF) (d_ringfrom : Def P K.w K mg base "ring_from" s_ringfrom 2 ["behind", "first"] ringfromF) : Def P K.w K mg base "ring" s_ring 4 ["rows"] ringF := (ok_ring T d_ties d_ringfrom).trim
abbrev b_order : Sx :=
  (sSeq (sAsg (eTup (aCons (eListR true (eB hLen (aCons (eVar 0) aNil))) (aCons (eCall 0 tiesF (aCons (eVar 0) aNil)) (aCons (eLoc aNil) aNil)))) (gTp 3 (gsCons (gNm 1) (gsCons (gNm 2) (gsCons (gNm 3) gsNil)))))
    (sSeq (sWhile (fun _ => 64) (tCmp' gGt (eB hLen (aCons (eVar 1) aNil)) (eC (.int 0))) (sSeq (sAsg (eDc (iT (eVar 2)) (gTp 2 (gsCons (gNm 5) (gsCons (gNm 6) gsNil))) (tCmp' (gIn false) (eVar 5) (eVar 1)) (eVar 6) (eC (.bl true)) [5, 6]) (gNm 4))
    (sSeq (sAsg (eLc (iLo (eVar 1)) (gNm 8) (tCmp' (gInD true) (eVar 8) (eVar 4)) (eVar 8) [8]) (gNm 7))
    (sSeq (sIf (tCmp' (gEqB false) (eB hLen (aCons (eVar 7) aNil)) (eC (.int 0))) (sRet (eC .non)) sNil)
    (sSeq (sExpr (eAppend (eVar 3) (eOp gIx (eVar 7) (eC (.int 0)))))
    (sExpr (eRemove (eVar 1) (eOp gIx (eVar 7) (eC (.int 0))))))))))
    (sRet (eB hTupleB (aCons (eVar 3) aNil)))))
theorem ok_order {P : Program} {K : Kt} {mg : Str → Option Value} {base : Heap} (T : Tx K mg) (d_ties : Def P K.w K mg base "ties" s_ties 3 ["rows"] tiesF) : Def P K.w K mg base "plain_order" s_order 4 ["rows"] (runF 9 b_order) := by
  refine mkDef (k := 3) (N := n_order) (body := b_order) T.t_order sc_order ?_
  rintro f G rfl cdv A outer s H E hr
  exact (ds_cons (ds_asg (de_tup (da_cons (de_listR true rfl rfl T.b_list rfl T.b_range (de_len rfl rfl T.b_len (da_cons (de_var (pv 0)) da_nil))) (da_cons (de_callD 0 d_ties rfl (takes_of rfl rfl rfl rfl) (hr.mono (by decide)) (da_cons (de_var (pv 0)) da_nil) (alen_cons alen_nil)) (da_cons (de_loc da_nil) da_nil)))) (dg_tup rfl rfl (dgs_cons (dg_name (i := 1) sc_order.nd) (dgs_cons (dg_name (i := 2) sc_order.nd) (dgs_cons (dg_name (i := 3) sc_order.nd) dgs_nil)))))
    (ds_cons (ds_while (fuel := (fun _ => 64)) (passes_of rfl) (dt_gt (de_len rfl rfl T.b_len (da_cons (de_var (pv 1)) da_nil)) de_int) (ds_cons (ds_set (i := 4) sc_order.nd (de_dc (own := [("one", 5), ("other", 6)]) rfl sc_order.nd (di_tup rfl (de_var (pv 2))) (blkOk_by (N := n_order) (sc := defScope s_order) (by decide +kernel)) (by decide) (fun _ _ _ _ _ => (dg_tup rfl rfl (dgs_cons (dg_name (i := 5) sc_order.nd) (dgs_cons (dg_name (i := 6) sc_order.nd) dgs_nil)))) (fun _ _ _ _ _ => (dts_one (dt_in rfl (de_var (pv 5)) (de_var (pv 1))))) (fun _ _ _ _ _ => (de_var (pv 6))) (fun _ _ _ _ _ => de_bl)))
    (ds_cons (ds_setLc (i := 7) (own := [("number", 8)]) rfl sc_order.nd (di_loc rfl (de_var (pv 1))) (blkOk_by (N := n_order) (sc := defScope s_order) (by decide +kernel)) (by decide) (fun _ _ _ _ _ => (dg_name (i := 8) sc_order.nd)) (fun _ _ _ _ _ => (dts_one (dt_notinD (units1 hr) (de_var (pv 8)) (de_var (pv 4))))) (fun _ _ _ _ _ => (de_var (pv 8))) (sw_true rfl rfl rfl (by decide +kernel)))
    (ds_cons (ds_if (dt_eq rfl hr.units (de_len rfl rfl T.b_len (da_cons (de_var (pv 7)) da_nil)) de_int) (ds_one (ds_ret de_non)) ds_nil)
    (ds_cons (ds_expr (de_append rfl (pe_bm PySem.F.plainAttrs_list PySem.F.slot_list_append PySem.F.type_list_append mt_append (de_var (pv 3)) (pa_cons (de_ix rfl (de_var (pv 7)) de_int) pa_nil))))
    (ds_one (ds_expr (de_remove rfl (pe_bm PySem.F.plainAttrs_list PySem.F.slot_list_remove PySem.F.type_list_remove mt_remove (de_var (pv 1)) (pa_cons (de_ix rfl (de_var (pv 7)) de_int) pa_nil))))))))))
    (ds_one (ds_ret (de_tupleB rfl rfl T.b_tuple (da_cons (de_var (pv 3)) da_nil))))))
def orderF : Fn := trimF (runF 9 b_order)
theorem ok1_order {P : Program} {K : Kt} {mg : Str → Option Value} {base : Heap} (T : Tx K mg) (d_ties : Def P K.w K mg base "ties" s_ties 3 ["rows"] tiesF) : Def P K.w K mg base "plain_order" s_order 4 ["rows"] orderF := (ok_order T d_ties).trim
abbrev b_deal : Sx :=
  (sSeq (sAsg (eLc (iL (eSl false (eVar 0) (oSome (eVar 1)) (oSome (eC (.int 59))))) (gNm 3) tTrue (eB hAbs (aCons (eB hInt (aCons (eVar 3) aNil)) aNil)) [3]) (gNm 2))
    (sSeq (sAsg (eOp gAdd (eC (.int 32452867)) (eOp gMul (eC (.int 97)) (eVar 1))) (gNm 4))
    (sSeq (sFor (iL (eVar 2)) (gNm 3) (sAsg (eOp gMod (eB hInt (aCons (eOp gAdd (eOp gAdd (eOp gMul (eVar 4) (eC (.int 40692))) (eOp gMod (eB hInt (aCons (eVar 3) aNil)) (eC (.int 2147483399)))) (eC (.int 23))) aNil)) (eC (.int 2147483629))) (gNm 4)))
    (sRet (eDisp [("great", (eUn gRevLoc (eLc (iL (eVar 2)) (gNm 3) (tCmp' gGe (eVar 3) (eOp gPow (eC (.int 10)) (eC (.int 18)))) (eVar 3) [3]))), ("blend", (eVar 4)), ("turn", (eC (.int 0)))])))))
theorem ok_deal {P : Program} {K : Kt} {mg : Str → Option Value} {base : Heap} (T : Tx K mg) : Def P K.w K mg base "_law_source" s_deal 1 ["_law_script", "_law_base"] (runF 5 b_deal) := by
  refine mkDef (k := 0) (N := n_deal) (body := b_deal) T.t_deal sc_deal ?_
  rintro f G rfl cdv A outer s H E hr
  exact (ds_cons (ds_setLc (i := 2) (own := [("_law_cell", 3)]) rfl sc_deal.nd (di_list rfl (de_slice (own := false) rfl (de_var (pv 0)) (do_some (de_var (pv 1))) (do_some de_int))) (blkOk_by (N := n_deal) (sc := defScope s_deal) (by decide +kernel)) (by decide) (fun _ _ _ _ _ => (dg_name (i := 3) sc_deal.nd)) (fun _ _ _ _ _ => dts_nil) (fun _ _ _ _ _ => (de_abs rfl T.b_abs (da_cons (de_int1 rfl T.b_int (da_cons (de_var (pv 3)) da_nil)) da_nil))) (sw_true rfl rfl rfl (by decide +kernel)))
    (ds_cons (ds_set (i := 4) sc_deal.nd (de_add rfl de_int (de_mul de_int (de_var (pv 1)))))
    (ds_cons (ds_for (passes_of rfl) rfl (di_list rfl (de_var (pv 2))) (dg_name (i := 3) sc_deal.nd) (ds_one (ds_set (i := 4) sc_deal.nd (de_mod (de_int1 rfl T.b_int (da_cons (de_add rfl (de_add rfl (de_mul (de_var (pv 4)) de_int) (de_mod (de_int1 rfl T.b_int (da_cons (de_var (pv 3)) da_nil)) de_int)) de_int) da_nil)) de_int))))
    (ds_one (ds_ret (de_disp (.cons (de_revLocS rfl (de_lc (own := [("_law_cell", 3)]) rfl sc_deal.nd (di_list rfl (de_var (pv 2))) (blkOk_by (N := n_deal) (sc := defScope s_deal) (by decide +kernel)) (by decide) (fun _ _ _ _ _ => (dg_name (i := 3) sc_deal.nd)) (fun _ _ _ _ _ => (dts_one (dt_ge (de_var (pv 3)) (de_pow de_int de_int)))) (fun _ _ _ _ _ => (de_var (pv 3)))) pe_neg1) (.cons (de_var (pv 4)) (.cons de_int .nil))) (fun h => nomatch h) (by decide)))))))
def dealF : Fn := runF 5 b_deal
theorem ok1_deal {P : Program} {K : Kt} {mg : Str → Option Value} {base : Heap} (T : Tx K mg) : Def P K.w K mg base "_law_source" s_deal 1 ["_law_script", "_law_base"] dealF := (ok_deal T )
abbrev b_draw : Sx :=
  (sSeq (sAsg (eOp gIxD (eVar 0) (eC (.str "great"))) (gNm 2))
    (sSeq (sWhile (fun _ => 64) (tAnd' (tCmp' (gEqB true) (eVar 2) (eLst aNil)) (tCmp' (gEqB false) (eOp gIx (eVar 2) (eUn gNeg (eC (.int 1)))) (eC (.int 0)))) (sExpr (ePop (eVar 2))))
    (sSeq (sIf (tCmp' (gEqB true) (eVar 2) (eLst aNil)) (sSeq (sAsg (ePop (eVar 2)) (gNm 3))
    (sSeq (sExpr (eAppend (eVar 2) (eOp gFdiv (eVar 3) (eVar 1))))
    (sRet (eOp gMod (eB hInt (aCons (eVar 3) aNil)) (eVar 1))))) sNil)
    (sSeq (sSetKD (eOp gAdd (eOp gIxD (eVar 0) (eC (.str "turn"))) (eC (.int 1))) (eVar 0) (eC (.str "turn")))
    (sSeq (sSetKD (eOp gMod (eB hInt (aCons (eOp gAdd (eOp gMul (eOp gIxD (eVar 0) (eC (.str "blend"))) (eC (.int 40692))) (eOp gMul (eC (.int 107)) (eOp gIxD (eVar 0) (eC (.str "turn"))))) aNil)) (eC (.int 2147483629))) (eVar 0) (eC (.str "blend")))
    (sRet (eOp gMod (eB hInt (aCons (eOp gFdiv (eOp gIxD (eVar 0) (eC (.str "blend"))) (eC (.int 64))) aNil)) (eVar 1))))))))
theorem ok_draw {P : Program} {K : Kt} {mg : Str → Option Value} {base : Heap} (T : Tx K mg) : Def P K.w K mg base "_law_draw" s_draw 1 ["_law_deal", "_law_wide"] (runF 4 b_draw) := by
  refine mkDef (k := 0) (N := n_draw) (body := b_draw) T.t_draw sc_draw ?_
  rintro f G rfl cdv A outer s H E hr
  exact (ds_cons (ds_set (i := 2) sc_draw.nd (de_ixD (units1 hr) (de_var (pv 0)) de_str))
    (ds_cons (ds_while (fuel := (fun _ => 64)) (passes_of rfl) (dt_w (dw_and (dt_ne rfl hr.units (de_var (pv 2)) (de_lst da_nil)) (dw_and1 (dt_eq rfl hr.units (de_ix rfl (de_var (pv 2)) (de_neg de_int)) de_int)))) (ds_one (ds_expr (de_pop rfl (pe_bm0 PySem.F.plainAttrs_list PySem.F.slot_list_pop PySem.F.type_list_pop mt_pop (de_var (pv 2)))))))
    (ds_cons (ds_if (dt_ne rfl hr.units (de_var (pv 2)) (de_lst da_nil)) (ds_cons (ds_set (i := 3) sc_draw.nd (de_pop rfl (pe_bm0 PySem.F.plainAttrs_list PySem.F.slot_list_pop PySem.F.type_list_pop mt_pop (de_var (pv 2)))))
    (ds_cons (ds_expr (de_append rfl (pe_bm PySem.F.plainAttrs_list PySem.F.slot_list_append PySem.F.type_list_append mt_append (de_var (pv 2)) (pa_cons (de_fdiv (de_var (pv 3)) (de_var (pv 1))) pa_nil))))
    (ds_one (ds_ret (de_mod (de_int1 rfl T.b_int (da_cons (de_var (pv 3)) da_nil)) (de_var (pv 1))))))) ds_nil)
    (ds_cons (ds_setKD (units1 hr) (de_add rfl (de_ixD (units1 hr) (de_var (pv 0)) de_str) de_int) (de_var (pv 0)) de_str)
    (ds_cons (ds_setKD (units1 hr) (de_mod (de_int1 rfl T.b_int (da_cons (de_add rfl (de_mul (de_ixD (units1 hr) (de_var (pv 0)) de_str) de_int) (de_mul de_int (de_ixD (units1 hr) (de_var (pv 0)) de_str))) da_nil)) de_int) (de_var (pv 0)) de_str)
    (ds_one (ds_ret (de_mod (de_int1 rfl T.b_int (da_cons (de_fdiv (de_ixD (units1 hr) (de_var (pv 0)) de_str) de_int) da_nil)) (de_var (pv 1))))))))))
def drawF : Fn := trimF (runF 4 b_draw)
theorem ok1_draw {P : Program} {K : Kt} {mg : Str → Option Value} {base : Heap} (T : Tx K mg) : Def P K.w K mg base "_law_draw" s_draw 1 ["_law_deal", "_law_wide"] drawF := (ok_draw T ).trim
abbrev b_pick : Sx :=
  (sRet (eOp gIx (eVar 1) (eCall 2 drawF (aCons (eVar 0) (aCons (eB hLen (aCons (eVar 1) aNil)) aNil)))))
theorem ok_pick {P : Program} {K : Kt} {mg : Str → Option Value} {base : Heap} (T : Tx K mg) (d_draw : Def P K.w K mg base "_law_draw" s_draw 1 ["_law_deal", "_law_wide"] drawF) : Def P K.w K mg base "_law_pick" s_pick 2 ["_law_deal", "_law_some"] (runF 2 b_pick) := by
  refine mkDef (k := 1) (N := n_pick) (body := b_pick) T.t_pick sc_pick ?_
  rintro f G rfl cdv A outer s H E hr
  exact (ds_one (ds_ret (de_ix rfl (de_var (pv 1)) (de_callD 2 d_draw rfl (takes_of rfl rfl rfl rfl) (hr.mono (by decide)) (da_cons (de_var (pv 0)) (da_cons (de_len rfl rfl T.b_len (da_cons (de_var (pv 1)) da_nil)) da_nil)) (alen_cons (alen_cons alen_nil))))))
def pickF : Fn := trimF (runF 2 b_pick)
theorem ok1_pick {P : Program} {K : Kt} {mg : Str → Option Value} {base : Heap} (T : Tx K mg) (d_draw : Def P K.w K mg base "_law_draw" s_draw 1 ["_law_deal", "_law_wide"] drawF) : Def P K.w K mg base "_law_pick" s_pick 2 ["_law_deal", "_law_some"] pickF := (ok_pick T d_draw).trim
abbrev b_rows : Sx :=
  (sSeq (sPar [2, 3] (aCons (eLoc aNil) (aCons (eSl false (eLst (aCons (eC (.str "a")) (aCons (eC (.str "b")) (aCons (eC (.str "m")) aNil)))) oNone (oSome (eOp gAdd (eC (.int 2)) (eCall 2 drawF (aCons (eVar 0) (aCons (eC (.int 2)) aNil)))))) aNil)))
    (sSeq (sFor (iR1 (aCons (eVar 1) aNil)) (gNm 4) (sSeq (sAsg eNewN (gNm 5))
    (sSeq (sFor (iR1 (aCons (eCall 2 drawF (aCons (eVar 0) (aCons (eC (.int 3)) aNil))) aNil)) (gNm 6) (sSeq (sAsg (eCall 2 pickF (aCons (eVar 0) (aCons (eVar 3) aNil))) (gNm 7))
    (sSeq (sAsg (eOp gAdd (eLst (aCons (eOp gSub (eC (.int 0)) (eC (.int 1))) aNil)) (eLc (iEnO (aCons (eVar 2) aNil)) (gTp 2 (gsCons (gNm 9) (gsCons (gNm 10) gsNil))) (tCmp' (gIn false) (eVar 7) (eOp gIx (eVar 10) (eC (.int 2)))) (eVar 9) [9, 10])) (gNm 8))
    (sSetKN (eC (.bl true)) (eVar 5) (eTup (aCons (eVar 7) (aCons (eCall 2 pickF (aCons (eVar 0) (aCons (eVar 8) aNil))) aNil)))))))
    (sSeq (sAsg (eLc (iL (eVar 3)) (gNm 7) (tCmp' (gEqB false) (eCall 2 drawF (aCons (eVar 0) (aCons (eC (.int 3)) aNil))) (eC (.int 0))) (eVar 7) [7]) (gNm 11))
    (sExpr (eAppend (eVar 2) (eTup (aCons (eCall 2 drawF (aCons (eVar 0) (aCons (eC (.int 3)) aNil))) (aCons (eB hTuple (aCons (eB hSortG (aCons (eB (hListN false) (aCons (eVar 5) aNil)) aNil)) aNil)) (aCons (eB hTuple (aCons (eB hSortS (aCons (eLc (iL (eVar 11)) (gNm 7) tTrue (eB hStrS (aCons (eVar 7) aNil)) [7]) aNil)) aNil)) aNil))))))))))
    (sRet (eVar 2))))
theorem ok_rows {P : Program} {K : Kt} {mg : Str → Option Value} {base : Heap} (T : Tx K mg) (d_draw : Def P K.w K mg base "_law_draw" s_draw 1 ["_law_deal", "_law_wide"] drawF) (d_pick : Def P K.w K mg base "_law_pick" s_pick 2 ["_law_deal", "_law_some"] pickF) : Def P K.w K mg base "_law_rows" s_rows 3 ["_law_deal", "_law_many"] (runF 12 b_rows) := by
  refine mkDef (k := 2) (N := n_rows) (body := b_rows) T.t_rows sc_rows ?_
  rintro f G rfl cdv A outer s H E hr
  exact (ds_cons (ds_par (i := 2) (j := 3) rfl sc_rows.nd (da_cons (de_loc da_nil) (da_cons (de_slice (own := false) rfl (de_lst (da_cons de_str (da_cons de_str (da_cons de_str da_nil)))) do_none (do_some (de_add rfl de_int (de_callD 2 d_draw rfl (takes_of rfl rfl rfl rfl) (hr.mono (by decide)) (da_cons (de_var (pv 0)) (da_cons de_int da_nil)) (alen_cons (alen_cons alen_nil)))))) da_nil)) (by decide))
    (ds_cons (ds_for (passes_of rfl) rfl (di_range1 rfl T.b_range (da_cons (de_var (pv 1)) da_nil)) (dg_name (i := 4) sc_rows.nd) (ds_cons (ds_set (i := 5) sc_rows.nd (de_newN rfl))
    (ds_cons (ds_for (passes_of rfl) rfl (di_range1 rfl T.b_range (da_cons (de_callD 2 d_draw rfl (takes_of rfl rfl rfl rfl) (hr.mono (by decide)) (da_cons (de_var (pv 0)) (da_cons de_int da_nil)) (alen_cons (alen_cons alen_nil))) da_nil)) (dg_name (i := 6) sc_rows.nd) (ds_cons (ds_set (i := 7) sc_rows.nd (de_callD 2 d_pick rfl (takes_of rfl rfl rfl rfl) (hr.mono (by decide)) (da_cons (de_var (pv 0)) (da_cons (de_var (pv 3)) da_nil)) (alen_cons (alen_cons alen_nil))))
    (ds_cons (ds_set (i := 8) sc_rows.nd (de_add rfl (de_lst (da_cons (de_sub de_int de_int) da_nil)) (de_lc (own := [("_law_k", 9), ("_law_row", 10)]) rfl sc_rows.nd (di_enumO rfl rfl T.b_enumerate (da_cons (de_var (pv 2)) da_nil)) (blkOk_by (N := n_rows) (sc := defScope s_rows) (by decide +kernel)) (by decide) (fun _ _ _ _ _ => (dg_tup rfl rfl (dgs_cons (dg_name (i := 9) sc_rows.nd) (dgs_cons (dg_name (i := 10) sc_rows.nd) dgs_nil)))) (fun _ _ _ _ _ => (dts_one (dt_in rfl (de_var (pv 7)) (de_ix rfl (de_var (pv 10)) de_int)))) (fun _ _ _ _ _ => (de_var (pv 9))))))
    (ds_one (ds_setKN rfl rfl (units9 hr) de_bl (de_var (pv 5)) (de_tup (da_cons (de_var (pv 7)) (da_cons (de_callD 2 d_pick rfl (takes_of rfl rfl rfl rfl) (hr.mono (by decide)) (da_cons (de_var (pv 0)) (da_cons (de_var (pv 8)) da_nil)) (alen_cons (alen_cons alen_nil))) da_nil))))))))
    (ds_cons (ds_setLc (i := 11) (own := [("_law_cell", 7)]) rfl sc_rows.nd (di_list rfl (de_var (pv 3))) (blkOk_by (N := n_rows) (sc := defScope s_rows) (by decide +kernel)) (by decide) (fun _ _ _ _ _ => (dg_name (i := 7) sc_rows.nd)) (fun _ _ _ _ _ => (dts_one (dt_eq rfl hr.units (de_callD 2 d_draw rfl takes0 (hr.mono (by decide)) (da_cons (de_var (pv 0)) (da_cons de_int da_nil)) (alen_cons (alen_cons alen_nil))) de_int))) (fun _ _ _ _ _ => (de_var (pv 7))) (sw_true rfl rfl rfl (by decide +kernel)))
    (ds_one (ds_expr (de_append rfl (pe_bm PySem.F.plainAttrs_list PySem.F.slot_list_append PySem.F.type_list_append mt_append (de_var (pv 2)) (pa_cons (de_tup (da_cons (de_callD 2 d_draw rfl (takes_of rfl rfl rfl rfl) (hr.mono (by decide)) (da_cons (de_var (pv 0)) (da_cons de_int da_nil)) (alen_cons (alen_cons alen_nil))) (da_cons (de_tuple1 rfl rfl T.b_tuple (da_cons (de_sortG rfl (units65 hr) rfl T.b_sorted (da_cons (de_listN false rfl rfl rfl rfl T.b_list (da_cons (de_var (pv 5)) da_nil)) da_nil)) da_nil)) (da_cons (de_tuple1 rfl rfl T.b_tuple (da_cons (de_sortS rfl rfl T.b_sorted (da_cons (de_lc (own := [("_law_cell", 7)]) rfl sc_rows.nd (di_list rfl (de_var (pv 11))) (blkOk_by (N := n_rows) (sc := defScope s_rows) (by decide +kernel)) (by decide) (fun _ _ _ _ _ => (dg_name (i := 7) sc_rows.nd)) (fun _ _ _ _ _ => dts_nil) (fun _ _ _ _ _ => (de_strS rfl T.b_str (da_cons (de_var (pv 7)) da_nil)))) da_nil)) da_nil)) da_nil)))) pa_nil)))))))))
    (ds_one (ds_ret (de_var (pv 2))))))
def rowsF : Fn := trimF (runF 12 b_rows)
theorem ok1_rows {P : Program} {K : Kt} {mg : Str → Option Value} {base : Heap} (T : Tx K mg) (d_draw : Def P K.w K mg base "_law_draw" s_draw 1 ["_law_deal", "_law_wide"] drawF) (d_pick : Def P K.w K mg base "_law_pick" s_pick 2 ["_law_deal", "_law_some"] pickF) : Def P K.w K mg base "_law_rows" s_rows 3 ["_law_deal", "_law_many"] rowsF := (ok_rows T d_draw d_pick).trim
abbrev b_lpairs : Sx :=
  (sSeq (sAsg eNewN (gNm 1))
    (sSeq (sFor (iEn (aCons (eVar 0) aNil)) (gTp 2 (gsCons (gNm 2) (gsCons (gTp 3 (gsCons (gNm 3) (gsCons (gNm 4) (gsCons (gNm 5) gsNil)))) gsNil))) (sSeq (sExpr (eUpdN (eVar 1) (eB hDictN (aCons (eLc (iR1 (aCons (eVar 2) aNil)) (gNm 6) (tCmp' (gEqB false) (eOp gIx (eOp gIx (eVar 0) (eVar 6)) (eC (.int 0))) (eVar 3)) (eTup (aCons (eTup (aCons (eVar 6) (aCons (eVar 2) aNil))) (aCons (eC (.bl true)) aNil))) [6]) aNil))))
    (sSeq (sAsg (eOp gAdd (eLc (iT (eVar 4)) (gTp 2 (gsCons (gNm 8) (gsCons (gNm 9) gsNil))) tTrue (eTup (aCons (eVar 8) (aCons (eVar 9) aNil))) [8, 9]) (eLc (iT (eVar 5)) (gNm 8) tTrue (eTup (aCons (eVar 8) (aCons (eVar 2) aNil))) [8])) (gNm 7))
    (sFor (iL (eVar 7)) (gTp 2 (gsCons (gNm 8) (gsCons (gNm 9) gsNil))) (sSeq (sAsg (eSl false (eLc (iEn (aCons (eVar 0) aNil)) (gTp 2 (gsCons (gNm 11) (gsCons (gNm 12) gsNil))) (tAnd' (tCmp' (gIn false) (eVar 8) (eOp gIx (eVar 12) (eC (.int 2)))) (tCmp' gGt (eVar 11) (eVar 9))) (eVar 11) [11, 12]) oNone (oSome (eC (.int 1)))) (gNm 10))
    (sSeq (sIf (tCmp' (gIn true) (eVar 9) (eTup (aCons (eOp gSub (eC (.int 0)) (eC (.int 1))) (aCons (eVar 2) aNil)))) (sSetKN (eC (.bl true)) (eVar 1) (eTup (aCons (eVar 9) (aCons (eVar 2) aNil)))) sNil)
    (sExpr (eUpdN (eVar 1) (eB hDictN (aCons (eLc (iL (eVar 10)) (gNm 11) (tCmp' (gEqB true) (eVar 11) (eVar 2)) (eTup (aCons (eTup (aCons (eVar 2) (aCons (eVar 11) aNil))) (aCons (eC (.bl true)) aNil))) [11]) aNil))))))))))
    (sRet (eB hSortG (aCons (eB (hListN false) (aCons (eVar 1) aNil)) aNil)))))
theorem ok_lpairs {P : Program} {K : Kt} {mg : Str → Option Value} {base : Heap} (T : Tx K mg) : Def P K.w K mg base "_law_pairs" s_lpairs 1 ["_law_rows_here"] (runF 13 b_lpairs) := by
  refine mkDef (k := 0) (N := n_lpairs) (body := b_lpairs) T.t_lpairs sc_lpairs ?_
  rintro f G rfl cdv A outer s H E hr
  exact (ds_cons (ds_set (i := 1) sc_lpairs.nd (de_newN rfl))
    (ds_cons (ds_for (passes_of rfl) rfl (di_enum rfl rfl T.b_enumerate (da_cons (de_var (pv 0)) da_nil)) (dg_tup rfl rfl (dgs_cons (dg_name (i := 2) sc_lpairs.nd) (dgs_cons (dg_tup rfl rfl (dgs_cons (dg_name (i := 3) sc_lpairs.nd) (dgs_cons (dg_name (i := 4) sc_lpairs.nd) (dgs_cons (dg_name (i := 5) sc_lpairs.nd) dgs_nil)))) dgs_nil))) (ds_cons (ds_expr (de_updN rfl rfl (units9 hr) (de_var (pv 1)) (de_dictN rfl (units10 hr) rfl rfl rfl T.b_dict (da_cons (de_lc (own := [("_law_i", 6)]) rfl sc_lpairs.nd (di_range1 rfl T.b_range (da_cons (de_var (pv 2)) da_nil)) (blkOk_by (N := n_lpairs) (sc := defScope s_lpairs) (by decide +kernel)) (by decide) (fun _ _ _ _ _ => (dg_name (i := 6) sc_lpairs.nd)) (fun _ _ _ _ _ => (dts_one (dt_eq rfl hr.units (de_ix rfl (de_ix rfl (de_var (pv 0)) (de_var (pv 6))) de_int) (de_var (pv 3))))) (fun _ _ _ _ _ => (de_tup (da_cons (de_tup (da_cons (de_var (pv 6)) (da_cons (de_var (pv 2)) da_nil))) (da_cons de_bl da_nil))))) da_nil))))
    (ds_cons (ds_set (i := 7) sc_lpairs.nd (de_add rfl (de_lc (own := [("_law_cell", 8), ("_law_layer", 9)]) rfl sc_lpairs.nd (di_tup rfl (de_var (pv 4))) (blkOk_by (N := n_lpairs) (sc := defScope s_lpairs) (by decide +kernel)) (by decide) (fun _ _ _ _ _ => (dg_tup rfl rfl (dgs_cons (dg_name (i := 8) sc_lpairs.nd) (dgs_cons (dg_name (i := 9) sc_lpairs.nd) dgs_nil)))) (fun _ _ _ _ _ => dts_nil) (fun _ _ _ _ _ => (de_tup (da_cons (de_var (pv 8)) (da_cons (de_var (pv 9)) da_nil))))) (de_lc (own := [("_law_cell", 8)]) rfl sc_lpairs.nd (di_tup rfl (de_var (pv 5))) (blkOk_by (N := n_lpairs) (sc := defScope s_lpairs) (by decide +kernel)) (by decide) (fun _ _ _ _ _ => (dg_name (i := 8) sc_lpairs.nd)) (fun _ _ _ _ _ => dts_nil) (fun _ _ _ _ _ => (de_tup (da_cons (de_var (pv 8)) (da_cons (de_var (pv 2)) da_nil)))))))
    (ds_one (ds_for (passes_of rfl) rfl (di_list rfl (de_var (pv 7))) (dg_tup rfl rfl (dgs_cons (dg_name (i := 8) sc_lpairs.nd) (dgs_cons (dg_name (i := 9) sc_lpairs.nd) dgs_nil))) (ds_cons (ds_set (i := 10) sc_lpairs.nd (de_slice (own := false) rfl (de_lc (own := [("_law_k", 11), ("_law_row", 12)]) rfl sc_lpairs.nd (di_enum rfl rfl T.b_enumerate (da_cons (de_var (pv 0)) da_nil)) (blkOk_by (N := n_lpairs) (sc := defScope s_lpairs) (by decide +kernel)) (by decide) (fun _ _ _ _ _ => (dg_tup rfl rfl (dgs_cons (dg_name (i := 11) sc_lpairs.nd) (dgs_cons (dg_name (i := 12) sc_lpairs.nd) dgs_nil)))) (fun _ _ _ _ _ => (dts_one (dt_w (dw_and (dt_in rfl (de_var (pv 8)) (de_ix rfl (de_var (pv 12)) de_int)) (dw_and1 (dt_gt (de_var (pv 11)) (de_var (pv 9)))))))) (fun _ _ _ _ _ => (de_var (pv 11)))) do_none (do_some de_int)))
    (ds_cons (ds_if (dt_notin rfl (de_var (pv 9)) (de_tup (da_cons (de_sub de_int de_int) (da_cons (de_var (pv 2)) da_nil)))) (ds_one (ds_setKN rfl rfl (units9 hr) de_bl (de_var (pv 1)) (de_tup (da_cons (de_var (pv 9)) (da_cons (de_var (pv 2)) da_nil))))) ds_nil)
    (ds_one (ds_expr (de_updN rfl rfl (units9 hr) (de_var (pv 1)) (de_dictN rfl (units10 hr) rfl rfl rfl T.b_dict (da_cons (de_lc (own := [("_law_k", 11)]) rfl sc_lpairs.nd (di_list rfl (de_var (pv 10))) (blkOk_by (N := n_lpairs) (sc := defScope s_lpairs) (by decide +kernel)) (by decide) (fun _ _ _ _ _ => (dg_name (i := 11) sc_lpairs.nd)) (fun _ _ _ _ _ => (dts_one (dt_ne rfl hr.units (de_var (pv 11)) (de_var (pv 2))))) (fun _ _ _ _ _ => (de_tup (da_cons (de_tup (da_cons (de_var (pv 2)) (da_cons (de_var (pv 11)) da_nil))) (da_cons de_bl da_nil))))) da_nil))))))))))))
    (ds_one (ds_ret (de_sortG rfl (units65 hr) rfl T.b_sorted (da_cons (de_listN false rfl rfl rfl rfl T.b_list (da_cons (de_var (pv 1)) da_nil)) da_nil))))))
def lpairsF : Fn := trimF (runF 13 b_lpairs)
theorem ok1_lpairs {P : Program} {K : Kt} {mg : Str → Option Value} {base : Heap} (T : Tx K mg) : Def P K.w K mg base "_law_pairs" s_lpairs 1 ["_law_rows_here"] lpairsF := (ok_lpairs T ).trim
abbrev b_lshort : Sx :=
  (sSeq (sAsg (eC .non) (gNm 2))
    (sSeq (sFor (iR1 (aCons (eVar 1) aNil)) (gNm 3) (sSeq (sAsg (eTup (aCons (eLst (aCons (eVar 3) aNil)) (aCons eNewD aNil))) (gTp 2 (gsCons (gNm 4) (gsCons (gNm 5) gsNil))))
    (sFor (iR2 (aCons (eC (.int 1)) (aCons (eOp gAdd (eVar 1) (eC (.int 1))) aNil))) (gNm 6) (sSeq (sAsg (eLc (iL (eVar 0)) (gTp 2 (gsCons (gNm 7) (gsCons (gNm 8) gsNil))) (tAnd' (tCmp' (gIn false) (eVar 7) (eVar 4)) (tCmp' (gInD true) (eVar 8) (eVar 5))) (eVar 8) [7, 8]) (gNm 4))
    (sSeq (sExpr (eUpdK (eVar 5) (eB hDict (aCons (eLc (iL (eVar 4)) (gNm 8) tTrue (eTup (aCons (eVar 8) (aCons (eC (.bl true)) aNil))) [8]) aNil))))
    (sIf (tAnd' (tCmp' (gIn false) (eVar 3) (eVar 4)) (tOr' (tCmp' (gIs false) (eVar 2) (eC .non)) (tCmp' gLt (eVar 6) (eVar 2)))) (sAsg (eVar 6) (gNm 2)) sNil))))))
    (sRet (eVar 2))))
theorem ok_lshort {P : Program} {K : Kt} {mg : Str → Option Value} {base : Heap} (T : Tx K mg) : Def P K.w K mg base "_law_shortest" s_lshort 1 ["_law_pairs_here", "_law_many"] (runF 9 b_lshort) := by
  refine mkDef (k := 0) (N := n_lshort) (body := b_lshort) T.t_lshort sc_lshort ?_
  rintro f G rfl cdv A outer s H E hr
  exact (ds_cons (ds_set (i := 2) sc_lshort.nd de_non)
    (ds_cons (ds_for (passes_of rfl) rfl (di_range1 rfl T.b_range (da_cons (de_var (pv 1)) da_nil)) (dg_name (i := 3) sc_lshort.nd) (ds_cons (ds_asg (de_tup (da_cons (de_lst (da_cons (de_var (pv 3)) da_nil)) (da_cons de_newD da_nil))) (dg_tup rfl rfl (dgs_cons (dg_name (i := 4) sc_lshort.nd) (dgs_cons (dg_name (i := 5) sc_lshort.nd) dgs_nil))))
    (ds_one (ds_for (passes_of rfl) rfl (di_range2 rfl T.b_range (da_cons de_int (da_cons (de_add rfl (de_var (pv 1)) de_int) da_nil))) (dg_name (i := 6) sc_lshort.nd) (ds_cons (ds_set (i := 4) sc_lshort.nd (de_lc (own := [("_law_i", 7), ("_law_j", 8)]) rfl sc_lshort.nd (di_list rfl (de_var (pv 0))) (blkOk_by (N := n_lshort) (sc := defScope s_lshort) (by decide +kernel)) (by decide) (fun _ _ _ _ _ => (dg_tup rfl rfl (dgs_cons (dg_name (i := 7) sc_lshort.nd) (dgs_cons (dg_name (i := 8) sc_lshort.nd) dgs_nil)))) (fun _ _ _ _ _ => (dts_one (dt_w (dw_and (dt_in rfl (de_var (pv 7)) (de_var (pv 4))) (dw_and1 (dt_notinD (units1 hr) (de_var (pv 8)) (de_var (pv 5)))))))) (fun _ _ _ _ _ => (de_var (pv 8)))))
    (ds_cons (ds_expr (de_updK (de_var (pv 5)) (de_dict1 rfl rfl rfl T.b_dict (da_cons (de_lc (own := [("_law_j", 8)]) rfl sc_lshort.nd (di_list rfl (de_var (pv 4))) (blkOk_by (N := n_lshort) (sc := defScope s_lshort) (by decide +kernel)) (by decide) (fun _ _ _ _ _ => (dg_name (i := 8) sc_lshort.nd)) (fun _ _ _ _ _ => dts_nil) (fun _ _ _ _ _ => (de_tup (da_cons (de_var (pv 8)) (da_cons de_bl da_nil))))) da_nil))))
    (ds_one (ds_if (dt_w (dw_and (dt_in rfl (de_var (pv 3)) (de_var (pv 4))) (dw_and1 (dt_w (dw_or (dt_is (de_var (pv 2)) de_non) (dw_or1 (dt_lt (de_var (pv 6)) (de_var (pv 2))))))))) (ds_one (ds_set (i := 2) sc_lshort.nd (de_var (pv 6)))) ds_nil))))))))
    (ds_one (ds_ret (de_var (pv 2))))))
def lshortF : Fn := trimF (runF 9 b_lshort)
theorem ok1_lshort {P : Program} {K : Kt} {mg : Str → Option Value} {base : Heap} (T : Tx K mg) : Def P K.w K mg base "_law_shortest" s_lshort 1 ["_law_pairs_here", "_law_many"] lshortF := (ok_lshort T ).trim
abbrev p_law_0_0 : Sx :=
  (sAsg (eCall 2 rowsF (aCons (eVar 1) (aCons (eIf (tCmp' (gEqB false) (eCall 2 drawF (aCons (eVar 1) (aCons (eC (.int 9)) aNil))) (eC (.int 0))) (eC (.int 20)) (eCall 2 drawF (aCons (eVar 1) (aCons (eC (.int 8)) aNil)))) aNil))) (gNm 3))
abbrev p_law_0_1 : Sx :=
  (sAsg (eTup (aCons (eCall 0 lpairsF (aCons (eVar 3) aNil)) (aCons (eB hLen (aCons (eVar 3) aNil)) aNil))) (gTp 2 (gsCons (gNm 4) (gsCons (gNm 5) gsNil))))
abbrev p_law_0_2 : Sx :=
  (sIf (tOr' (tCmp' (gEqB true) (eB hRepr (aCons (eCall 0 tiesF (aCons (eVar 3) aNil)) aNil)) (eB hRepr (aCons (eB hTuple (aCons (eVar 4) aNil)) aNil))) (tCmp' (gEqB true) (eCall 0 tiesF (aCons (eB hTuple (aCons (eVar 3) aNil)) aNil)) (eB hTuple (aCons (eVar 4) aNil)))) (sRet (eC (.bl false))) sNil)
abbrev p_law_0_3 : Sx :=
  (sAsg (eTup (aCons (eCall 0 lshortF (aCons (eVar 4) (aCons (eVar 5) aNil))) (aCons (eCall 0 ringF (aCons (eVar 3) aNil)) (aCons (eCall 0 orderF (aCons (eVar 3) aNil)) aNil)))) (gTp 3 (gsCons (gNm 6) (gsCons (gNm 7) (gsCons (gNm 8) gsNil)))))
abbrev p_law_0_4 : Sx :=
  (sIf (tOr' (tCmp' (gEqB true) (eOp (gIs false) (eVar 7) (eC .non)) (eOp (gIs false) (eVar 6) (eC .non))) (tCmp' (gEqB true) (eOp (gIs false) (eVar 8) (eC .non)) (eOp (gIs true) (eVar 6) (eC .non)))) (sRet (eC (.bl false))) sNil)
abbrev p_law_0_5 : Sx :=
  (sIf (tCmp' (gIs true) (eVar 7) (eC .non)) (sSeq (sAsg (eLc (iEnT (aCons (eVar 7) aNil)) (gTp 2 (gsCons (gNm 10) (gsCons (gNm 11) gsNil))) tTrue (eTup (aCons (eVar 11) (aCons (eOp gIx (eVar 7) (eOp gMod (eB hInt (aCons (eOp gAdd (eVar 10) (eC (.int 1))) aNil)) (eB hLen (aCons (eVar 7) aNil)))) aNil))) [10, 11]) (gNm 9))
    (sIf (tOr' (tCmp' (gEqB true) (eB hLen (aCons (eVar 7) aNil)) (eVar 6)) (tOr' (tCmp' (gEqB true) (eLenSetI (eVar 7)) (eVar 6)) (tCmp' (gEqB true) (eLc (iL (eVar 9)) (gNm 12) (tCmp' (gInL true) (eVar 12) (eVar 4)) (eVar 12) [12]) (eLst aNil)))) (sRet (eC (.bl false))) sNil)) sNil)
abbrev p_law_0_6 : Sx :=
  (sIf (tCmp' (gIs true) (eVar 8) (eC .non)) (sSeq (sIf (tCmp' (gEqB true) (eB hSortGT (aCons (eVar 8) aNil)) (eListR false (eVar 5))) (sRet (eC (.bl false))) sNil)
    (sIf (tCmp' (gEqB true) (eLc (iL (eVar 4)) (gTp 2 (gsCons (gNm 13) (gsCons (gNm 14) gsNil))) (tCmp' gGt (eIdxI (eVar 8) (eVar 13)) (eIdxI (eVar 8) (eVar 14))) (eC (.int 1)) [13, 14]) (eLst aNil)) (sRet (eC (.bl false))) sNil)) sNil)
abbrev l_law_0 : Sx :=
  (sSeq p_law_0_0
    (sSeq p_law_0_1
    (sSeq p_law_0_2
    (sSeq p_law_0_3
    (sSeq p_law_0_4
    (sSeq p_law_0_5
    p_law_0_6))))))
abbrev q_law_0 : Sx :=
  (sAsg (eCallAll dealF (aCons (eVar 0) (aCons (eC (.int 0)) aNil))) (gNm 1))
abbrev q_law_1 : Sx :=
  (sFor (iR1 (aCons (eC (.int 3)) aNil)) (gNm 2) l_law_0)
abbrev q_law_2 : Sx :=
  (sRet (eAnd (eOp (gEqB false) (eCall 0 tiesF (aCons (eLst aNil) aNil)) (eTup aNil)) (eAnd (eOp (gIs false) (eCall 0 ringF (aCons (eTup aNil) aNil)) (eC .non)) (eOp (gEqB false) (eCall 0 orderF (aCons (eLst aNil) aNil)) (eTup aNil)))))
abbrev b_law : Sx :=
  (sSeq q_law_0
    (sSeq q_law_1
    q_law_2))
theorem ok_law {P : Program} {K : Kt} {mg : Str → Option Value} {base : Heap} (T : Tx K mg) (d_deal : Def P K.w K mg base "_law_source" s_deal 1 ["_law_script", "_law_base"] dealF) (d_rows : Def P K.w K mg base "_law_rows" s_rows 3 ["_law_deal", "_law_many"] rowsF) (d_draw : Def P K.w K mg base "_law_draw" s_draw 1 ["_law_deal", "_law_wide"] drawF) (d_lpairs : Def P K.w K mg base "_law_pairs" s_lpairs 1 ["_law_rows_here"] lpairsF) (d_ties : Def P K.w K mg base "ties" s_ties 3 ["rows"] tiesF) (d_order : Def P K.w K mg base "plain_order" s_order 4 ["rows"] orderF) (d_ring : Def P K.w K mg base "ring" s_ring 4 ["rows"] ringF) (d_lshort : Def P K.w K mg base "_law_shortest" s_lshort 1 ["_law_pairs_here", "_law_many"] lshortF) {f : Addr} {fd : FuncData} (Fu : Fun K.K "law" "law" s_law f fd) : AtC P K.w K.K mg base (L2.CX P K.w) 6 f fd ["_law_script"] (spF K 1 (runF 15 b_law)) := by
  refine lawV Fu sc_law ?_
  rintro G rfl cdv s H E hr
  have hgd : (callerA.deeper (envOfC "law" (defScope s_law) s.heap.objs.size f cdv)).guards = some [] := rfl
  have hr66 : (callerA.deeper (envOfC "law" (defScope s_law) s.heap.objs.size f cdv)).units + 66 < cLine := by have := hr.un; omega
  exact (ds_cons (ds_set (i := 1) sc_law.nd (de_callDA d_deal rfl (takes_of rfl rfl rfl rfl) (hr.mono (by decide)) (da_cons (de_var (pv 0)) (da_cons de_int da_nil)) (alen_cons (alen_cons alen_nil))))
    (ds_cons (ds_for (passes_of rfl) rfl (di_range1 rfl T.b_range (da_cons de_int da_nil)) (dg_name (i := 2) sc_law.nd) (ds_cons (ds_set (i := 3) sc_law.nd (de_callD 2 d_rows rfl (takes_of rfl rfl rfl rfl) (hr.mono (by decide)) (da_cons (de_var (pv 1)) (da_cons (de_if (dt_eq rfl hr.units (de_callD 2 d_draw rfl (takes_of rfl rfl rfl rfl) (hr.mono (by decide)) (da_cons (de_var (pv 1)) (da_cons de_int da_nil)) (alen_cons (alen_cons alen_nil))) de_int) de_int (de_callD 2 d_draw rfl (takes_of rfl rfl rfl rfl) (hr.mono (by decide)) (da_cons (de_var (pv 1)) (da_cons de_int da_nil)) (alen_cons (alen_cons alen_nil)))) da_nil)) (alen_cons (alen_cons alen_nil))))
    (ds_cons (ds_asg (de_tup (da_cons (de_callD 0 d_lpairs rfl (takes_of rfl rfl rfl rfl) (hr.mono (by decide)) (da_cons (de_var (pv 3)) da_nil) (alen_cons alen_nil)) (da_cons (de_len rfl rfl T.b_len (da_cons (de_var (pv 3)) da_nil)) da_nil))) (dg_tup rfl rfl (dgs_cons (dg_name (i := 4) sc_law.nd) (dgs_cons (dg_name (i := 5) sc_law.nd) dgs_nil))))
    (ds_cons (ds_if (dt_w (dw_or (dt_ne rfl hr.units (de_repr rfl hgd hr66 rfl T.b_repr (da_cons (de_callD 0 d_ties rfl (takes_of rfl rfl rfl rfl) (hr.mono (by decide)) (da_cons (de_var (pv 3)) da_nil) (alen_cons alen_nil)) da_nil)) (de_repr rfl hgd hr66 rfl T.b_repr (da_cons (de_tuple1 rfl rfl T.b_tuple (da_cons (de_var (pv 4)) da_nil)) da_nil))) (dw_or1 (dt_ne rfl hr.units (de_callD 0 d_ties rfl (takes_of rfl rfl rfl rfl) (hr.mono (by decide)) (da_cons (de_tuple1 rfl rfl T.b_tuple (da_cons (de_var (pv 3)) da_nil)) da_nil) (alen_cons alen_nil)) (de_tuple1 rfl rfl T.b_tuple (da_cons (de_var (pv 4)) da_nil)))))) (ds_one (ds_ret de_bl)) ds_nil)
    (ds_cons (ds_asg (de_tup (da_cons (de_callD 0 d_lshort rfl (takes_of rfl rfl rfl rfl) (hr.mono (by decide)) (da_cons (de_var (pv 4)) (da_cons (de_var (pv 5)) da_nil)) (alen_cons (alen_cons alen_nil))) (da_cons (de_callD 0 d_ring rfl (takes_of rfl rfl rfl rfl) (hr.mono (by decide)) (da_cons (de_var (pv 3)) da_nil) (alen_cons alen_nil)) (da_cons (de_callD 0 d_order rfl (takes_of rfl rfl rfl rfl) (hr.mono (by decide)) (da_cons (de_var (pv 3)) da_nil) (alen_cons alen_nil)) da_nil)))) (dg_tup rfl rfl (dgs_cons (dg_name (i := 6) sc_law.nd) (dgs_cons (dg_name (i := 7) sc_law.nd) (dgs_cons (dg_name (i := 8) sc_law.nd) dgs_nil)))))
    (ds_cons (ds_if (dt_w (dw_or (dt_ne rfl hr.units (de_is (de_var (pv 7)) de_non) (de_is (de_var (pv 6)) de_non)) (dw_or1 (dt_ne rfl hr.units (de_is (de_var (pv 8)) de_non) (de_isnot (de_var (pv 6)) de_non))))) (ds_one (ds_ret de_bl)) ds_nil)
    (ds_cons (ds_if (dt_isnot (de_var (pv 7)) de_non) (ds_cons (ds_setLc (i := 9) (own := [("_law_k", 10), ("_law_one", 11)]) rfl sc_law.nd (di_enumT rfl rfl T.b_enumerate (da_cons (de_var (pv 7)) da_nil)) (blkOk_by (N := n_law) (sc := defScope s_law) (by decide +kernel)) (by decide) (fun _ _ _ _ _ => (dg_tup rfl rfl (dgs_cons (dg_name (i := 10) sc_law.nd) (dgs_cons (dg_name (i := 11) sc_law.nd) dgs_nil)))) (fun _ _ _ _ _ => dts_nil) (fun _ _ _ _ _ => (de_tup (da_cons (de_var (pv 11)) (da_cons (de_ix rfl (de_var (pv 7)) (de_mod (de_int1 rfl T.b_int (da_cons (de_add rfl (de_var (pv 10)) de_int) da_nil)) (de_len rfl rfl T.b_len (da_cons (de_var (pv 7)) da_nil)))) da_nil)))) (sw_true rfl rfl rfl (by decide +kernel)))
    (ds_one (ds_if (dt_w (dw_or (dt_ne rfl hr.units (de_len rfl rfl T.b_len (da_cons (de_var (pv 7)) da_nil)) (de_var (pv 6))) (dw_or (dt_ne rfl hr.units (de_lenSetI rfl rfl rfl T.b_len rfl T.b_set (de_var (pv 7))) (de_var (pv 6))) (dw_or1 (dt_ne rfl hr.units (de_lc (own := [("_law_pair", 12)]) rfl sc_law.nd (di_list rfl (de_var (pv 9))) (blkOk_by (N := n_law) (sc := defScope s_law) (by decide +kernel)) (by decide) (fun _ _ _ _ _ => (dg_name (i := 12) sc_law.nd)) (fun _ _ _ _ _ => (dts_one (dt_notinL rfl (units65 hr) (de_var (pv 12)) (de_var (pv 4)) rfl))) (fun _ _ _ _ _ => (de_var (pv 12)))) (de_lst da_nil)))))) (ds_one (ds_ret de_bl)) ds_nil))) ds_nil)
    (ds_one (ds_if (dt_isnot (de_var (pv 8)) de_non) (ds_cons (ds_if (dt_ne rfl hr.units (de_sortGT rfl (units65 hr) rfl T.b_sorted (da_cons (de_var (pv 8)) da_nil)) (de_listR false rfl rfl T.b_list rfl T.b_range (de_var (pv 5)))) (ds_one (ds_ret de_bl)) ds_nil)
    (ds_one (ds_if (dt_ne rfl hr.units (de_lc (own := [("_law_i", 13), ("_law_j", 14)]) rfl sc_law.nd (di_list rfl (de_var (pv 4))) (blkOk_by (N := n_law) (sc := defScope s_law) (by decide +kernel)) (by decide) (fun _ _ _ _ _ => (dg_tup rfl rfl (dgs_cons (dg_name (i := 13) sc_law.nd) (dgs_cons (dg_name (i := 14) sc_law.nd) dgs_nil)))) (fun _ _ _ _ _ => (dts_one (dt_gt (de_idxI rfl (de_var (pv 8)) (de_var (pv 13))) (de_idxI rfl (de_var (pv 8)) (de_var (pv 14)))))) (fun _ _ _ _ _ => de_int)) (de_lst da_nil)) (ds_one (ds_ret de_bl)) ds_nil))) ds_nil)))))))))
    (ds_one (ds_ret (de_and rfl (de_eq rfl hr.units (de_callD 0 d_ties rfl (takes_of rfl rfl rfl rfl) (hr.mono (by decide)) (da_cons (de_lst da_nil) da_nil) (alen_cons alen_nil)) (de_tup da_nil)) (de_and rfl (de_is (de_callD 0 d_ring rfl (takes_of rfl rfl rfl rfl) (hr.mono (by decide)) (da_cons (de_tup da_nil) da_nil) (alen_cons alen_nil)) de_non) (de_one (de_eq rfl hr.units (de_callD 0 d_order rfl (takes_of rfl rfl rfl rfl) (hr.mono (by decide)) (da_cons (de_lst da_nil) da_nil) (alen_cons alen_nil)) (de_tup da_nil)))))))))
end K21
namespace VL
open PySem L2
@[irreducible] def WO {α : Type} (o : Out α) (Q : α → List Cell → Prop) (E : Exn → List Cell → Prop) : Prop := match o with
  | .ok a cs => Q a cs
  | .ex e cs => E e cs
  | .no => False
/-- a is f of some b, of which K holds -/
def Is {α β : Type} (f : β → α) (a : α) (K : β → Prop) : Prop := ∃ b, a = f b ∧ K b
theorem is_mk {α β : Type} {f : β → α} {a : α} {K : β → Prop} {b : β} (e : a = f b) (h : K b) : Is f a K := ⟨b, e, h⟩
def Is2 {α β γ : Type} (f : β → γ → α) (a : α) (K : β → γ → Prop) : Prop := ∃ b c, a = f b c ∧ K b c
theorem is_mk2 {α β γ : Type} {f : β → γ → α} {a : α} {K : β → γ → Prop} {b : β} {c : γ} (e : a = f b c) (h : K b c) : Is2 f a K := ⟨b, c, e, h⟩
/-- of at most so many things -/
def Lim (n : Nat) (K : Prop) : Prop := n ≤ 16777216 ∧ K
theorem lim_mk {n : Nat} {K : Prop} (h : n ≤ 16777216) (k : K) : Lim n K := ⟨h, k⟩
abbrev NoE : Exn → List Cell → Prop := fun _ _ => False
section
variable {α β : Type} {o : Out α} {Q Q' : α → List Cell → Prop} {E E' : Exn → List Cell → Prop}
theorem wo_ok {a : α} {cs : List Cell} (h : Q a cs) : WO (.ok a cs) Q E := by unfold WO; exact h
theorem wo_ex {e : Exn} {cs : List Cell} (h : E e cs) : WO (.ex e cs : Out α) Q E := by unfold WO; exact h
theorem wo_okI {a : α} {cs : List Cell} (h : WO (.ok a cs) Q E) : Q a cs := by unfold WO at h; exact h
theorem wo_exI {e : Exn} {cs : List Cell} (h : WO (.ex e cs : Out α) Q E) : E e cs := by unfold WO at h; exact h
theorem wo_noI (h : WO (.no : Out α) Q E) : False := by unfold WO at h; exact h
theorem wo_of {a : α} {cs : List Cell} (e : o = .ok a cs) (h : Q a cs) : WO o Q E := by rw [e]; exact wo_ok h
theorem wo_imp (h : WO o Q E) (hq : ∀ a cs, Q a cs → Q' a cs) (he : ∀ e cs, E e cs → E' e cs) : WO o Q' E' := by
  cases o with
  | ok a cs => exact wo_ok (hq _ _ (wo_okI h))
  | ex e cs => exact wo_ex (he _ _ (wo_exI h))
  | no => exact (wo_noI h).elim
theorem WO.ex (h : WO o Q NoE) : ∃ a cs, o = .ok a cs ∧ Q a cs := by
  cases o with
  | ok a cs => exact ⟨a, cs, rfl, wo_okI h⟩
  | ex e cs => exact (wo_exI h).elim
  | no => exact (wo_noI h).elim
theorem wo_bind {k : α → List Cell → Out β} {Q : β → List Cell → Prop} (h : WO o (fun a cs => WO (k a cs) Q E) E) : WO (o.bind k) Q E := by
  cases o with
  | ok a cs => exact wo_okI h
  | ex e cs => exact wo_ex (wo_exI h)
  | no => exact (wo_noI h).elim
end
section
variable {Q : D → List Cell → Prop} {T : Bool → List Cell → Prop} {A : List D → List Cell → Prop} {E : Exn → List Cell → Prop} {env : List (Option D)} {cs : List Cell} {fa fb : Ex} {ga : Ax} {t t2 : Tx}
theorem wo_eOp {g : F2} (h : WO (fa ⟨env, cs⟩) (fun x c1 => WO (fb ⟨env, c1⟩) (fun y c2 => WO (g c2 x y) Q E) E) E) : WO (eOp g fa fb ⟨env, cs⟩) Q E :=
  wo_bind (wo_imp h (fun _ _ h => wo_bind h) fun _ _ h => h)
theorem wo_eUn {g : F1} (h : WO (fa ⟨env, cs⟩) (fun x c1 => WO (g c1 x) Q E) E) : WO (eUn g fa ⟨env, cs⟩) Q E := wo_bind h
theorem wo_eC {d : D} (h : Q d cs) : WO (eC d ⟨env, cs⟩) Q E := wo_ok h
theorem wo_eVar {i : Nat} {d : D} (e : env[i]? = some (some d)) (h : Q d cs) : WO (eVar i ⟨env, cs⟩) Q E := by
  unfold eVar; simp only [e]; exact wo_ok h
theorem wo_tCmp {g : F2} (h : WO (fa ⟨env, cs⟩) (fun x c1 => WO (fb ⟨env, c1⟩) (fun y c2 => WO (g c2 x y) (fun d c3 => Is D.bl d fun k => T k c3) E) E) E) : WO (tCmp' g fa fb ⟨env, cs⟩) T E :=
  wo_bind (wo_imp (wo_eOp h) (fun _ _ ⟨k, e, h⟩ => by subst e; exact wo_ok h) fun _ _ h => h)
theorem wo_tTru (h : WO (fa ⟨env, cs⟩) (fun x c1 => Is some (truD c1 x) fun k => T k c1) E) : WO (tTru fa ⟨env, cs⟩) T E := wo_bind (wo_imp h (fun _ _ ⟨k, e, h⟩ => by rw [e]; exact wo_ok h) fun _ _ h => h)
theorem wo_tNot (h : WO (t ⟨env, cs⟩) (fun k c1 => T (!k) c1) E) : WO (tNot' t ⟨env, cs⟩) T E := wo_bind (wo_imp h (fun _ _ h => wo_ok h) fun _ _ h => h)
theorem wo_tAnd (h : WO (t ⟨env, cs⟩) (fun k c1 => WO (if k then t2 ⟨env, c1⟩ else .ok false c1) T E) E) : WO (tAnd' t t2 ⟨env, cs⟩) T E := wo_bind h
theorem wo_tOr (h : WO (t ⟨env, cs⟩) (fun k c1 => WO (if k then .ok true c1 else t2 ⟨env, c1⟩) T E) E) : WO (tOr' t t2 ⟨env, cs⟩) T E := wo_bind h
theorem wo_eIf (h : WO (t ⟨env, cs⟩) (fun k c1 => WO (if k then fa ⟨env, c1⟩ else fb ⟨env, c1⟩) Q E) E) : WO (eIf t fa fb ⟨env, cs⟩) Q E := wo_bind h
theorem wo_eAnd (h : WO (fa ⟨env, cs⟩) (fun x c1 => Is some (truD c1 x) fun k => WO (if k = true then fb ⟨env, c1⟩ else Out.ok x c1) Q E) E) : WO (eAnd fa fb ⟨env, cs⟩) Q E := wo_bind (wo_imp h (fun _ _ ⟨k, e, h⟩ => by rw [e]; exact h) fun _ _ h => h)
theorem wo_eOr (h : WO (fa ⟨env, cs⟩) (fun x c1 => Is some (truD c1 x) fun k => WO (if k = true then Out.ok x c1 else fb ⟨env, c1⟩) Q E) E) : WO (eOr fa fb ⟨env, cs⟩) Q E := wo_bind (wo_imp h (fun _ _ ⟨k, e, h⟩ => by rw [e]; exact h) fun _ _ h => h)
theorem wo_eNot (h : WO (fa ⟨env, cs⟩) (fun x c1 => Is some (truD c1 x) fun k => Q (.bl (!k)) c1) E) : WO (eNot fa ⟨env, cs⟩) Q E := wo_bind (wo_imp h (fun _ _ ⟨k, e, h⟩ => by rw [e]; exact wo_ok h) fun _ _ h => h)
theorem wo_aNil (h : A [] cs) : WO (aNil ⟨env, cs⟩) A E := wo_ok h
theorem wo_aCons (h : WO (fa ⟨env, cs⟩) (fun x c1 => WO (ga ⟨env, c1⟩) (fun xs c2 => A (x :: xs) c2) E) E) : WO (aCons fa ga ⟨env, cs⟩) A E :=
  wo_bind (wo_imp h (fun _ _ h => wo_bind (wo_imp h (fun _ _ h => wo_ok h) fun _ _ h => h)) fun _ _ h => h)
theorem wo_aStar (h : WO (fa ⟨env, cs⟩) (fun x c1 => Is some (seqOf c1 x) fun xs => WO (ga ⟨env, c1⟩) (fun ys c2 => A (xs ++ ys) c2) E) E) : WO (aStar fa ga ⟨env, cs⟩) A E :=
  wo_bind (wo_imp h (fun _ _ ⟨xs, e, h⟩ => by rw [e]; exact wo_bind (wo_imp h (fun _ _ h => wo_ok h) fun _ _ h => h)) fun _ _ h => h)
theorem wo_eTup (h : WO (ga ⟨env, cs⟩) (fun xs c1 => Lim xs.length (Q (.tup xs) c1)) E) : WO (eTup ga ⟨env, cs⟩) Q E := wo_bind (wo_imp h (fun _ _ ⟨a, b⟩ => by rw [if_pos a]; exact wo_ok b) fun _ _ h => h)
theorem wo_eLst (h : WO (ga ⟨env, cs⟩) (fun xs c1 => Lim xs.length (Q (.lst xs) c1)) E) : WO (eLst ga ⟨env, cs⟩) Q E := wo_bind (wo_imp h (fun _ _ ⟨a, b⟩ => by rw [if_pos a]; exact wo_ok b) fun _ _ h => h)
theorem wo_eB {f : FB} (h : WO (ga ⟨env, cs⟩) (fun xs c1 => WO (f c1 xs) Q E) E) : WO (eB f ga ⟨env, cs⟩) Q E := wo_bind h
theorem wo_eCall {n : Nat} {fn : Fn} (h : WO (ga ⟨env, cs⟩) (fun xs c1 => WO (callV n fn xs c1) Q E) E) : WO (eCall n fn ga ⟨env, cs⟩) Q E := wo_bind h
theorem wo_eCallAll {fn : Fn} (h : WO (ga ⟨env, cs⟩) (fun xs c1 => WO (fn xs c1) Q E) E) : WO (eCallAll fn ga ⟨env, cs⟩) Q E := wo_bind h
theorem wo_eCMeth {n cn : Nat} {fn : Fn} (h : WO (ga ⟨env, cs⟩) (fun xs c1 => WO (callV n fn (.cls cn :: xs) c1) Q E) E) : WO (eCMeth n cn fn ga ⟨env, cs⟩) Q E := wo_bind h
theorem wo_eMake {cn : Nat} {fn : Fn} (h : WO (ga ⟨env, cs⟩) (fun xs c1 => WO (makeD cn fn xs c1) Q E) E) : WO (eMake cn fn ga ⟨env, cs⟩) Q E := wo_bind h
theorem wo_eCallDf {n : Nat} {fn : Fn} {ds : List D} (h : WO (ga ⟨env, cs⟩) (fun xs c1 => WO (callV n fn (xs ++ ds) c1) Q E) E) : WO (eCallDf n fn ds ga ⟨env, cs⟩) Q E := wo_bind h
theorem wo_eMS {g : Str → List Cell → D → Out D} (h : WO (fa ⟨env, cs⟩) (fun x c1 => Is D.str x fun z => WO (fb ⟨env, c1⟩) (fun y c2 => WO (g z c2 y) Q E) E) E) : WO (eMS g fa fb ⟨env, cs⟩) Q E :=
  wo_bind (wo_imp h (fun _ _ ⟨z, e, h⟩ => by subst e; exact wo_bind h) fun _ _ h => h)
theorem wo_eMeth {cn : Nat} {m : Str} {fn : Fn} (h : WO (fa ⟨env, cs⟩) (fun x c1 => Is2 (D.obj cn) x fun ks ds => ks.contains m = false ∧ WO (ga ⟨env, c1⟩) (fun xs c2 => WO (callV 0 fn (.obj cn ks ds :: xs) c2) Q E) E) E) : WO (eMeth cn m fn fa ga ⟨env, cs⟩) Q E :=
  wo_bind (wo_imp h (fun _ _ ⟨ks, ds, e, e2, h⟩ => by
    subst e
    show WO (if _ ∧ _ then _ else _) _ _
    rw [if_pos ⟨rfl, e2⟩]; exact wo_bind h) fun _ _ h => h)
theorem wo_oNone {A : Option Int → List Cell → Prop} (h : A none cs) : WO (oNone ⟨env, cs⟩) A E := wo_ok h
theorem wo_oSome {A : Option Int → List Cell → Prop} (h : WO (fa ⟨env, cs⟩) (fun x c1 => Is D.int x fun i => A (some i) c1) E) : WO (oSome fa ⟨env, cs⟩) A E :=
  wo_bind (wo_imp h (fun _ _ ⟨i, e, h⟩ => by subst e; exact wo_ok h) fun _ _ h => h)
theorem wo_eSl {own : Bool} {l h : Ox} (w : WO (fa ⟨env, cs⟩) (fun x c1 => WO (l ⟨env, c1⟩) (fun lo c2 => WO (h ⟨env, c2⟩) (fun hi c3 => WO (gSl own c3 x lo hi) Q E) E) E) E) : WO (eSl own fa l h ⟨env, cs⟩) Q E :=
  wo_bind (wo_imp w (fun _ _ h => wo_bind (wo_imp h (fun _ _ h => wo_bind h) fun _ _ h => h)) fun _ _ h => h)
theorem wo_ifT {α : Type} {Q : α → List Cell → Prop} {a b : Out α} (h : WO a Q E) : WO (if true = true then a else b) Q E := h
theorem wo_ifF {α : Type} {Q : α → List Cell → Prop} {a b : Out α} (h : WO b Q E) : WO (if false = true then a else b) Q E := h
end
def WS (o : SOut) (Q : SOut → Prop) : Prop := Q o
@[irreducible] def thenQ (g : Sx) (Q : SOut → Prop) : SOut → Prop
  | .nx st => WS (g st) Q
  | o => Q o
@[irreducible] def retQ (Q : D → List Cell → Prop) (E : Exn → List Cell → Prop) : SOut → Prop
  | .rt d st => Q d st.cs
  | .nx st => Q .non st.cs
  | .ex e st => E e st.cs
  | _ => False
section
variable {Q : D → List Cell → Prop} {E : Exn → List Cell → Prop} {P : SOut → Prop} {env : List (Option D)} {cs : List Cell} {fa fb fc : Ex} {ga : Ax} {t : Tx} {f g : Sx} {st : S}
theorem ws_seq (h : WS (f st) (thenQ g P)) : WS (sSeq f g st) P := by
  unfold sSeq WS at *
  unfold thenQ at h
  cases q : f st with
  | nx st' => rw [q] at h; exact h
  | rt d st' => rw [q] at h; exact h
  | bk st' => rw [q] at h; exact h
  | ct st' => rw [q] at h; exact h
  | ex e st' => rw [q] at h; exact h
  | no => rw [q] at h; exact h
theorem ws_nx (h : WS (g st) P) : WS (.nx st) (thenQ g P) := by unfold WS at *; unfold thenQ; exact h
theorem ws_rt {d : D} (h : WS (.rt d st) P) : WS (.rt d st) (thenQ g P) := by unfold WS at *; unfold thenQ; exact h
theorem ws_ex {e : Exn} (h : WS (.ex e st) P) : WS (.ex e st) (thenQ g P) := by unfold WS at *; unfold thenQ; exact h
theorem ws_ct (h : WS (.ct st) P) : WS (.ct st) (thenQ g P) := by unfold WS at *; unfold thenQ; exact h
theorem ws_bk (h : WS (.bk st) P) : WS (.bk st) (thenQ g P) := by unfold WS at *; unfold thenQ; exact h
theorem ws_nxR (h : Q .non st.cs) : WS (.nx st) (retQ Q E) := by unfold WS; unfold retQ; exact h
theorem ws_rtR {d : D} (h : Q d st.cs) : WS (.rt d st) (retQ Q E) := by unfold WS; unfold retQ; exact h
theorem ws_exR {e : Exn} (h : E e st.cs) : WS (.ex e st) (retQ Q E) := by unfold WS; unfold retQ; exact h
theorem ws_nil (h : WS (.nx st) P) : WS (sNil st) P := h
theorem ws_cnt (h : WS (.ct st) P) : WS (sCnt st) P := h
theorem ws_brk (h : WS (.bk st) P) : WS (sBrk st) P := h
theorem ws_then {α : Type} {o : Out α} {k : α → S → SOut} (h : WO o (fun a c1 => WS (k a ⟨env, c1⟩) P) (fun e c1 => WS (.ex e ⟨env, c1⟩) P)) : WS (thenS o env k) P := by
  cases o with
  | ok a c => exact wo_okI h
  | ex e c => exact wo_exI h
  | no => exact (wo_noI h).elim
theorem ws_if (h : WO (t ⟨env, cs⟩) (fun k c1 => WS (if k = true then f ⟨env, c1⟩ else g ⟨env, c1⟩) P) (fun e c1 => WS (.ex e ⟨env, c1⟩) P)) : WS (sIf t f g ⟨env, cs⟩) P := ws_then h
theorem ws_iteT {a b : SOut} (h : WS a P) : WS (if true = true then a else b) P := h
theorem ws_iteF {a b : SOut} (h : WS b P) : WS (if false = true then a else b) P := h
theorem ws_ret (h : WO (fa ⟨env, cs⟩) (fun d c1 => WS (.rt d ⟨env, c1⟩) P) (fun e c1 => WS (.ex e ⟨env, c1⟩) P)) : WS (sRet fa ⟨env, cs⟩) P := ws_then h
theorem ws_expr (h : WO (fa ⟨env, cs⟩) (fun d c1 => WS (.nx ⟨env, c1⟩) P) (fun e c1 => WS (.ex e ⟨env, c1⟩) P)) : WS (sExpr fa ⟨env, cs⟩) P := ws_then h
theorem ws_asg {gt : Gt} (h : WO (fa ⟨env, cs⟩) (fun d c1 => WS (asg gt d ⟨env, c1⟩) P) (fun e c1 => WS (.ex e ⟨env, c1⟩) P)) : WS (sAsg fa gt ⟨env, cs⟩) P := ws_then h
theorem ws_asgNm {i : Nat} {d : D} {env' : List (Option D)} (e : env.set i (some d) = env') (h : WS (.nx ⟨env', cs⟩) P) : WS (asg (gNm i) d ⟨env, cs⟩) P := by subst e; exact h
theorem ws_asgG {gt : Gt} {d : D} {st' : S} (e : gt d ⟨env, cs⟩ = some st') (h : WS (.nx st') P) : WS (asg gt d ⟨env, cs⟩) P := by
  unfold asg; rw [e]; exact h
theorem ws_par2 {i j : Nat} (h : WO (ga ⟨env, cs⟩) (fun ds c1 => Is2 (fun d e => [d, e]) ds fun d e => WS (.nx ⟨(env.set i (some d)).set j (some e), c1⟩) P) (fun e c1 => WS (.ex e ⟨env, c1⟩) P)) : WS (sPar [i, j] ga ⟨env, cs⟩) P :=
  ws_then (wo_imp h (fun _ _ ⟨d, e, q, h⟩ => by subst q; exact h) fun _ _ h => h)
theorem ws_setFld {cn : Nat} {n : Str} (h : WO (fa ⟨env, cs⟩) (fun v c1 => WO (fb ⟨env, c1⟩) (fun o c2 => WS (setFld cn n o v ⟨env, c2⟩) P) (fun e c1 => WS (.ex e ⟨env, c1⟩) P)) (fun e c1 => WS (.ex e ⟨env, c1⟩) P)) : WS (sSetFld cn n fa fb ⟨env, cs⟩) P :=
  ws_then (wo_imp h (fun _ _ h => ws_then h) fun _ _ h => h)
theorem ws_for {src : Ix} {gt : Gt} {body : Sx} (h : WO (src ⟨env, cs⟩) (fun w c1 => WS (forL gt body w.2 w.1 ⟨env, c1⟩) P) (fun e c1 => WS (.ex e ⟨env, c1⟩) P)) : WS (sFor src gt body ⟨env, cs⟩) P := ws_then h
theorem wo_run {n : Nat} {body : Sx} {ds : List D} {env : List (Option D)} (e : startD n ds = env) (h : WS (body ⟨env, cs⟩) (retQ Q E)) : WO (runF n body ds cs) Q E := by
  subst e
  unfold runF
  unfold WS retQ at h
  cases q : body ⟨startD n ds, cs⟩ with
  | nx st' => rw [q] at h; exact wo_ok h
  | rt d st' => rw [q] at h; exact wo_ok h
  | bk st' => rw [q] at h; exact h.elim
  | ct st' => rw [q] at h; exact h.elim
  | ex e st' => rw [q] at h; exact wo_ex h
  | no => rw [q] at h; exact h.elim
theorem wo_trim {fn : Fn} {ds : List D} (h : WO (fn ds cs) (fun d c => (c.take cs.length).all (belowC cs.length) = true ∧ ∃ d', outD cs.length c d = some d' ∧ Q d' (c.take cs.length)) (fun e c => (c.take cs.length).all (belowC cs.length) = true ∧ belows cs.length e.ds = true ∧ E e (c.take cs.length))) : WO (trimF fn ds cs) Q E := by
  unfold trimF
  cases q : fn ds cs with
  | ok d c =>
    rw [q] at h
    obtain ⟨h1, d', h2, h3⟩ := wo_okI h
    simp only [h1, h2, if_true]
    exact wo_ok h3
  | ex e c =>
    rw [q] at h
    obtain ⟨h1, h2, h3⟩ := wo_exI h
    simp only [h1, h2, Bool.and_self, if_true]
    exact wo_ex h3
  | no => rw [q] at h; exact (wo_noI h).elim
end
/-- a comprehension with cells that change: I holds of the cells all the time, R d y tells what may be put in for d -/
theorem wo_eLc {Q : D → List Cell → Prop} {E : Exn → List Cell → Prop} {src : Ix} {g : Gt} {t : Tx} {f : Ex} {vs : List Nat} {env : List (Option D)} {cs c1 : List Cell} {ds : List D} (I : List Cell → Prop) (R : D → Option D → Prop) (hs : src ⟨env, cs⟩ = .ok (ds, keepAll) c1) (hi : I c1) (hI : ∀ cs, I cs → cs.length = c1.length ∧ cs.all (belowC c1.length) = true) (hl : ds.length < 16777216)
    (hR : ∀ d y, R d (some y) → below c1.length y = true)
    (ht : ∀ d ∈ ds, ∀ (cs : List Cell) (acc : List D), I cs → ∃ env1, g d ⟨wipeD env vs, cs ++ [.lst acc]⟩ = some ⟨env1, cs ++ [.lst acc]⟩ ∧
      WO (t ⟨env1, cs ++ [.lst acc]⟩) (fun b c => ∃ cs2, c = cs2 ++ [.lst acc] ∧ I cs2 ∧ (b = false → R d none) ∧ (b = true → WO (f ⟨env1, cs2 ++ [.lst acc]⟩) (fun y c => ∃ cs3, c = cs3 ++ [.lst acc] ∧ I cs3 ∧ R d (some y)) NoE)) NoE)
    (hq : ∀ ys cs', Picks R ds ys → I cs' → Q (.lst ys) cs') : WO (eLc src g t f vs ⟨env, cs⟩) Q E := by
  obtain ⟨ys, cs', e, i, p⟩ := eLc_eval (I := I) (R := R) (g := g) (t := t) (f := f) (vs := vs) hs hi (fun cs h => (hI cs h).1) hl (fun cs h => (hI cs h).2) hR (fun d hd cs acc hi => by
    obtain ⟨env1, e1, w⟩ := ht d hd cs acc hi
    obtain ⟨b, c, eb, cs2, ec, i2, h0, h1⟩ := w.ex
    subst ec
    exact ⟨env1, e1, b, cs2, eb, i2, h0, fun hb => by
      obtain ⟨y, c, ey, cs3, ec, i3, r⟩ := (h1 hb).ex
      subst ec
      exact ⟨y, cs3, ey, i3, r⟩⟩)
  exact wo_of e (hq ys cs' p i)
def lsO : D → Option (List D)
  | .lst ds => some ds
  | .frl ds => some ds
  | _ => none
section
variable {A : Walk → List Cell → Prop} {E : Exn → List Cell → Prop} {env : List (Option D)} {cs : List Cell} {fa : Ex} {ga : Ax}
theorem wo_iL (h : WO (fa ⟨env, cs⟩) (fun x c1 => Is some (lsO x) fun ds => A (ds, keepAll) c1) E) : WO (iL fa ⟨env, cs⟩) A E := wo_bind (wo_imp h (fun x _ ⟨ds, e, h⟩ => by
  cases x with
  | lst l => cases e; exact wo_ok h
  | frl l => cases e; exact wo_ok h
  | _ => cases e) fun _ _ h => h)
theorem wo_iT (h : WO (fa ⟨env, cs⟩) (fun x c1 => Is D.tup x fun ds => A (ds, keepAll) c1) E) : WO (iT fa ⟨env, cs⟩) A E := wo_bind (wo_imp h (fun x _ ⟨ds, e, h⟩ => by subst e; exact wo_ok h) fun _ _ h => h)
theorem wo_iEn (h : WO (ga ⟨env, cs⟩) (fun xs c1 => Is (fun ds => [D.lst ds]) xs fun ds => A (enumD ds, keepAll) c1) E) : WO (iEn ga ⟨env, cs⟩) A E := wo_bind (wo_imp h (fun x _ ⟨ds, e, h⟩ => by subst e; exact wo_ok h) fun _ _ h => h)
theorem in62 {j : Nat} (hj : j < 1000000) : (decide (-(2 ^ 62) ≤ (j : Int)) && decide ((j : Int) < 2 ^ 62)) = true := by
  rw [Bool.and_eq_true, decide_eq_true_eq, decide_eq_true_eq]
  constructor <;> omega
theorem iR1_int {st : S} {i : Int} (h : (decide (-(2 ^ 62) ≤ i) && decide (i < 2 ^ 62)) = true) {c1 : List Cell} : iR1 (fun _ => .ok [.int i] c1) st = .ok (rangeD 0 i.toNat, keepAll) c1 := if_pos h
theorem iR1_at {st : S} {j : Nat} (hj : j < 1000000) {c1 : List Cell} : iR1 (fun _ => .ok [.int j] c1) st = .ok (rangeD 0 j, keepAll) c1 := by
  rw [iR1_int (in62 hj), Int.toNat_natCast]
theorem wo_iR1 (h : WO (ga ⟨env, cs⟩) (fun xs c1 => ∃ (i : Int) (j : Nat), xs = [.int i] ∧ i = j ∧ j < 1000000 ∧ A (rangeD 0 j, keepAll) c1) E) : WO (iR1 ga ⟨env, cs⟩) A E := by
  cases q : ga ⟨env, cs⟩ with
  | ok xs c1 =>
    rw [q] at h
    obtain ⟨i, j, e, e2, hj, h'⟩ := wo_okI h
    subst e e2
    have : iR1 ga ⟨env, cs⟩ = iR1 (fun _ => .ok [.int j] c1) ⟨env, cs⟩ := by unfold iR1; rw [q]
    rw [this, iR1_at hj]
    exact wo_ok h'
  | ex e c1 =>
    rw [q] at h
    have : iR1 ga ⟨env, cs⟩ = .ex e c1 := by unfold iR1; rw [q]; rfl
    rw [this]
    exact wo_ex (wo_exI h)
  | no => rw [q] at h; exact (wo_noI h).elim
end
/-- the rest of a comprehension, behind its source -/
def lcAt (g : Gt) (t : Tx) (f : Ex) (vs : List Nat) (env : List (Option D)) (w : Walk) (c1 : List Cell) : Out D := eLc (fun _ => .ok w c1) g t f vs ⟨env, c1⟩
theorem wo_lc {Q : D → List Cell → Prop} {E : Exn → List Cell → Prop} {src : Ix} {g : Gt} {t : Tx} {f : Ex} {vs : List Nat} {env : List (Option D)} {cs : List Cell} (h : WO (src ⟨env, cs⟩) (fun w c1 => WO (lcAt g t f vs env w c1) Q E) E) : WO (eLc src g t f vs ⟨env, cs⟩) Q E := by
  unfold eLc
  exact wo_bind (wo_imp h (fun w c1 h => by unfold lcAt eLc at h; exact h) fun _ _ h => h)
theorem wo_tTrue {T : Bool → List Cell → Prop} {E : Exn → List Cell → Prop} {env : List (Option D)} {cs : List Cell} (h : T true cs) : WO (tTrue ⟨env, cs⟩) T E := wo_ok h
end VL
namespace VL
open PySem L2
section
variable {α : Type} {g : Gt} {t : Tx} {f : Ex} {vs : List Nat} {env : List (Option D)} {c1 : List Cell} {xs : List α} {fD : α → D} {Q : D → List Cell → Prop} {E : Exn → List Cell → Prop}
def Turn (g : Gt) (t : Tx) (f : Ex) (vs : List Nat) (env : List (Option D)) (c1 : List Cell) (d : D) (q : Bool) (h : D) : Prop :=
  ∀ acc, ∃ env1, g d ⟨wipeD env vs, c1 ++ [.lst acc]⟩ = some ⟨env1, c1 ++ [.lst acc]⟩ ∧ t ⟨env1, c1 ++ [.lst acc]⟩ = .ok q (c1 ++ [.lst acc]) ∧ (q = true → f ⟨env1, c1 ++ [.lst acc]⟩ = .ok h (c1 ++ [.lst acc]))
end
theorem strsOf_map : ∀ (l : List Str), strsOf (l.map D.str) = some l
  | [] => rfl
  | x :: l => by
    show (strsOf (l.map D.str)).map (x :: ·) = _
    rw [strsOf_map l]
    rfl
theorem belows_str {n : Nat} : ∀ {l : List Str}, belows n (l.map D.str) = true
  | [] => rfl
  | x :: l => by
    rw [List.map_cons, belows_cons, belows_str]
    rfl
section
variable {Q : D → List Cell → Prop} {E : Exn → List Cell → Prop} {cs : List Cell} {cn : Nat} {fn : Fn} {ks : List Str} {ds : List D} {y : D}
def Low (cs : List Cell) : Prop := ∀ k, cs.length ≤ k → cs.all (belowC k) = true
theorem Low.all {cs : List Cell} (h : Low cs) : cs.all (belowC cs.length) = true := h _ (Nat.le_refl _)
theorem Low.snoc {cs : List Cell} (h : Low cs) {c : Cell} (hc : ∀ k, cs.length < k → belowC k c = true) : Low (cs ++ [c]) := fun k hk => by
  rw [List.length_append] at hk
  have hk : cs.length + 1 ≤ k := hk
  rw [List.all_append, h k (by omega)]
  show (true && (belowC k c && true)) = true
  rw [hc k (by omega)]
  rfl
end
end VL
local macro_rules
  | `(tactic| subst_vars) => `(tactic| repeat (first
    | ((with_reducible show VL.WS _ _); (first
      | with_reducible refine VL.ws_seq ?_
      | with_reducible refine VL.ws_asg ?_
      | with_reducible refine VL.ws_if ?_
      | with_reducible refine VL.ws_ret ?_
      | ((with_reducible show VL.WS (ite _ _ _) _); (first | refine VL.ws_iteT ?_ | refine VL.ws_iteF ?_))
      | ((with_reducible show VL.WS (VL.asg (VL.gNm _) _ _) _); refine VL.ws_asgNm rfl ?_)
      | ((with_reducible show VL.WS (VL.asg (VL.gTp _ _) _ _) _); refine VL.ws_asgG rfl ?_)
      | with_reducible refine VL.ws_rtR ?_
      | with_reducible refine VL.ws_nxR ?_
      | with_reducible refine VL.ws_rt ?_
      | with_reducible refine VL.ws_nil ?_
      | with_reducible refine VL.ws_expr ?_
      | with_reducible refine VL.ws_par2 ?_
      | with_reducible refine VL.ws_setFld ?_
      | with_reducible refine VL.ws_for ?_
      | with_reducible refine VL.ws_ct ?_
      | with_reducible refine VL.ws_bk ?_
      | with_reducible refine VL.ws_cnt ?_
      | with_reducible refine VL.ws_brk ?_
      | with_reducible refine VL.ws_exR ?_
      | with_reducible refine VL.ws_ex ?_))
    | ((with_reducible show VL.WO _ _ _); (first
      | with_reducible refine VL.wo_ok ?_
      | ((with_reducible show VL.WO (VL.eVar _ _) _ _); refine VL.wo_eVar rfl ?_)
      | ((with_reducible show VL.WO (ite _ _ _) _ _); (first | refine VL.wo_ifT ?_ | refine VL.wo_ifF ?_))
      | with_reducible refine VL.wo_eOp ?_
      | with_reducible refine VL.wo_eUn ?_
      | with_reducible refine VL.wo_eC ?_
      | with_reducible refine VL.wo_tCmp ?_
      | with_reducible refine VL.wo_tTru ?_
      | with_reducible refine VL.wo_tNot ?_
      | with_reducible refine VL.wo_tAnd ?_
      | with_reducible refine VL.wo_tOr ?_
      | with_reducible refine VL.wo_eIf ?_
      | with_reducible refine VL.wo_eAnd ?_
      | with_reducible refine VL.wo_eOr ?_
      | with_reducible refine VL.wo_eNot ?_
      | with_reducible refine VL.wo_aNil ?_
      | with_reducible refine VL.wo_aCons ?_
      | with_reducible refine VL.wo_eTup ?_
      | with_reducible refine VL.wo_eLst ?_
      | with_reducible refine VL.wo_eB ?_
      | with_reducible refine VL.wo_eCall ?_
      | with_reducible refine VL.wo_eCallAll ?_
      | with_reducible refine VL.wo_eCMeth ?_
      | with_reducible refine VL.wo_eMake ?_
      | with_reducible refine VL.wo_eCallDf ?_
      | with_reducible refine VL.wo_eSl ?_
      | with_reducible refine VL.wo_oNone ?_
      | with_reducible refine VL.wo_oSome ?_
      | with_reducible refine VL.wo_tTrue ?_
      | with_reducible refine VL.wo_aStar ?_
      | with_reducible refine VL.wo_eMS ?_
      | with_reducible refine VL.wo_eMeth ?_
      | with_reducible refine VL.wo_iL ?_
      | with_reducible refine VL.wo_iT ?_
      | with_reducible refine VL.wo_iEn ?_
      | with_reducible refine VL.wo_iR1 ?_
      | with_reducible refine VL.wo_lc ?_
      | ((with_reducible show VL.WO (VL.gFldC _ _ _ _) _ _); refine VL.wo_ok ?_)
      | ((with_reducible show VL.WO (VL.gIs _ _ _ _) _ _); refine VL.wo_ok ?_)
      | ((with_reducible show VL.WO (VL.gSl _ _ _ _ _) _ _); refine VL.wo_ok ?_)
      | ((with_reducible show VL.WO (VL.hList _ _ _) _ _); refine VL.wo_ok ?_)
      | ((with_reducible show VL.WO (VL.gEqB _ _ (VL.D.int _) (VL.D.int _)) _ _); refine VL.wo_of VL.eqII ?_)
      | ((with_reducible show VL.WO (VL.gIx _ _ _) _ _); refine VL.wo_ok ?_)
      | ((with_reducible show VL.WO (VL.gAdd _ _ _) _ _); refine VL.wo_ok ?_)
      | ((with_reducible show VL.WO (VL.gSub _ _ _) _ _); refine VL.wo_ok ?_)
      | ((with_reducible show VL.WO (VL.gMul _ _ _) _ _); refine VL.wo_ok ?_)
      | ((with_reducible show VL.WO (VL.gMod _ _ _) _ _); refine VL.wo_ok ?_)
      | ((with_reducible show VL.WO (VL.gFdiv _ _ _) _ _); refine VL.wo_ok ?_)
      | ((with_reducible show VL.WO (VL.gLt _ _ _) _ _); refine VL.wo_ok ?_)
      | ((with_reducible show VL.WO (VL.gLe _ _ _) _ _); refine VL.wo_ok ?_)
      | ((with_reducible show VL.WO (VL.gGt _ _ _) _ _); refine VL.wo_ok ?_)
      | ((with_reducible show VL.WO (VL.gGe _ _ _) _ _); refine VL.wo_ok ?_)
      | ((with_reducible show VL.WO (VL.gNeg _ _) _ _); refine VL.wo_ok ?_)
      | ((with_reducible show VL.WO (VL.hLen _ _) _ _); refine VL.wo_ok ?_)
      | ((with_reducible show VL.WO (VL.hInt _ _) _ _); refine VL.wo_ok ?_)
      | ((with_reducible show VL.WO (VL.hAbs _ _) _ _); refine VL.wo_ok ?_)
      | ((with_reducible show VL.WO (VL.hTuple _ _) _ _); refine VL.wo_ok ?_)
      | ((with_reducible show VL.WO (VL.hMin2 _ _) _ _); refine VL.wo_ok ?_)
      | ((with_reducible show VL.WO (VL.hMax _ _) _ _); refine VL.wo_ok ?_)
      | ((with_reducible show VL.WO (VL.hStrS _ _) _ _); refine VL.wo_ok ?_)
      | ((with_reducible show VL.WO (VL.hStrI _ _) _ _); refine VL.wo_ok ?_)
      | ((with_reducible show VL.WO (VL.hStrA _ _) _ _); refine VL.wo_ok ?_)))
    | ((with_reducible show VL.Is _ _ _); refine VL.is_mk rfl ?_)
    | ((with_reducible show VL.Is2 _ _ _); refine VL.is_mk2 rfl ?_)
    | ((with_reducible show VL.Lim _ _); refine VL.lim_mk ?_ ?_; focus (simp; done))))
  | `(tactic| and_intros) => `(tactic| (subst_vars; repeat ((with_reducible refine VL.ws_nx ?_); subst_vars)))
namespace K21
open PySem L2 PyProof.Rows VL
abbrev kG : Key := .inr "great"
abbrev kB : Key := .inr "blend"
abbrev kT : Key := .inr "turn"
abbrev dx (gs : List Int) (b t : Int) : List Cell := [.dk [kG, kB, kT] [.loc 1, .int b, .int t], .lst (gs.map D.int)]
theorem stir (d0 d1 d2 : D) : ∀ (l : List Int) (e3 : Option D) (s : Int), ∃ e3' s', forL (gNm 3) (sAsg (eOp gMod (eB hInt (aCons (eOp gAdd (eOp gAdd (eOp gMul (eVar 4) (eC (.int 40692))) (eOp gMod (eB hInt (aCons (eVar 3) aNil)) (eC (.int 2147483399)))) (eC (.int 23))) aNil)) (eC (.int 2147483629))) (gNm 4)) keepAll (l.map D.int) ⟨[some d0, some d1, some d2, e3, some (.int s)], []⟩ = .nx ⟨[some d0, some d1, some d2, e3', some (.int s')], []⟩
  | [], e3, s => ⟨e3, s, ev_forNil rfl⟩
  | x :: l, e3, s => by
    obtain ⟨e3', s', h⟩ := stir d0 d1 d2 l (some (.int x)) ((s * 40692 + x % 2147483399 + 23) % 2147483629)
    refine ⟨e3', s', ev_forNx (st1 := ⟨[some d0, some d1, some d2, some (.int x), some (.int s)], []⟩) rfl rfl ?_ h⟩
    have c1 : ∀ x, cMod x 2147483399 = true := fun x => rfl
    have c2 : ∀ x, cMod x 2147483629 = true := fun x => rfl
    simp [sAsg, eOp, eB, aCons, aNil, hInt, eVar, eC, Out.bind, gMul, cMul, gMod, gInt, gAdd, thenS, asg, gNm, c1, c2]
theorem deal_ok (ns : List Int) (hn : ns.length ≤ 63) (b : Int) : ∃ gs s, gs.length ≤ 63 ∧ dealF [.frl (ns.map D.int), .int b] [] = .ok (.loc 0) (dx gs s 0) := by
  obtain ⟨ms, hm, hl⟩ := cut_ints (l := ns) (lo := some b) (hi := some 59)
  obtain ⟨ks, hks⟩ : ∃ ks : List Int, ks = ms.map fun x => if x < 0 then -x else x := ⟨_, rfl⟩
  have hkl : ks.length ≤ 63 := by rw [hks, List.length_map]; omega
  have e1 : eLc (iL (eSl false (eVar 0) (oSome (eVar 1)) (oSome (eC (.int 59))))) (gNm 3) tTrue (eB hAbs (aCons (eB hInt (aCons (eVar 3) aNil)) aNil)) [3] ⟨[some (.frl (ns.map D.int)), some (.int b), none, none, none], []⟩ = .ok (.lst (ks.map D.int)) [] := by
    have := ev_eLc (xs := ms) (fD := D.int) (kp := keepAll) (c1 := []) (g := gNm 3) (t := tTrue) (f := eB hAbs (aCons (eB hInt (aCons (eVar 3) aNil)) aNil)) (vs := [3]) (src := iL (eSl false (eVar 0) (oSome (eVar 1)) (oSome (eC (.int 59))))) (st := ⟨[some (.frl (ns.map D.int)), some (.int b), none, none, none], []⟩)
      (fun _ => true) (fun x => .int (if x < 0 then -x else x)) (by
        show Out.ok (cutD (ns.map D.int) (some b) (some 59), keepAll) [] = _
        rw [hm]) (fun _ => rfl) (by omega) rfl (fun _ _ _ => rfl) (fun x _ acc _ => ⟨_, rfl, rfl, fun _ => rfl⟩)
    rw [this, hks, List.map_map]
    have e : ms.filter (fun _ => true) = ms := List.filter_eq_self.mpr fun _ _ => rfl
    rw [e]
    rfl
  obtain ⟨z3, s, h3⟩ := stir (.frl (ns.map D.int)) (.int b) (.lst (ks.map D.int)) ks none (32452867 + 97 * b)
  have e4 : ∀ (c : List Cell), c = [.dk [] []] → eLc (iL (eVar 2)) (gNm 3) (tCmp' gGe (eVar 3) (eOp gPow (eC (.int 10)) (eC (.int 18)))) (eVar 3) [3] ⟨[some (.frl (ns.map D.int)), some (.int b), some (.lst (ks.map D.int)), z3, some (.int s)], c⟩ = .ok (.lst ((ks.filter fun x => decide (x ≥ 1000000000000000000)).map D.int)) c := fun c hc => by
    subst hc
    exact ev_eLc (xs := ks) (fD := D.int) (kp := keepAll) (c1 := [.dk [] []]) (fun x => decide (x ≥ 1000000000000000000)) D.int rfl (fun _ => rfl) (by omega) rfl (fun _ _ _ => rfl) (fun x _ acc _ => ⟨_, rfl, rfl, fun _ => rfl⟩)
  refine ⟨(ks.filter fun x => decide (x ≥ 1000000000000000000)).reverse, s, ?_, ?_⟩
  · rw [List.length_reverse]
    exact Nat.le_trans (List.length_filter_le _ _) hkl
  · refine ev_runRt (env := [some (.frl (ns.map D.int)), some (.int b), none, none, none]) (st1 := ⟨[some (.frl (ns.map D.int)), some (.int b), some (.lst (ks.map D.int)), z3, some (.int s)], _⟩) rfl ?_
    have cm : cMul 97 b = true := rfl
    refine ev_sSeq (ev_sAsg e1 rfl) (ev_sSeq (ev_sAsg (d := .int (32452867 + 97 * b)) (c1 := []) rfl rfl) (ev_sSeq (ev_sFor (w := (ks.map D.int, keepAll)) (c1 := []) rfl h3) ?_))
    refine ev_sRet (d := .loc 0) (c1 := dx (ks.filter fun x => decide (x ≥ 1000000000000000000)).reverse s 0) ?_
    have e5 : eUn gRevLoc (eLc (iL (eVar 2)) (gNm 3) (tCmp' gGe (eVar 3) (eOp gPow (eC (.int 10)) (eC (.int 18)))) (eVar 3) [3]) ⟨[some (.frl (ns.map D.int)), some (.int b), some (.lst (ks.map D.int)), z3, some (.int s)], [.dk [] []]⟩ = .ok (.loc 1) [.dk [] [], .lst ((ks.filter fun x => decide (x ≥ 1000000000000000000)).reverse.map D.int)] := by
      rw [List.map_reverse]
      exact ev_eUn (e4 _ rfl) rfl
    unfold eDisp
    show (pairsX _ ⟨[some (.frl (ns.map D.int)), some (.int b), some (.lst (ks.map D.int)), z3, some (.int s)], [.dk [] []]⟩).bind _ = _
    have e6 : pairsX [("great", (eUn gRevLoc (eLc (iL (eVar 2)) (gNm 3) (tCmp' gGe (eVar 3) (eOp gPow (eC (.int 10)) (eC (.int 18)))) (eVar 3) [3]))), ("blend", (eVar 4)), ("turn", (eC (.int 0)))] ⟨[some (.frl (ns.map D.int)), some (.int b), some (.lst (ks.map D.int)), z3, some (.int s)], [.dk [] []]⟩ = .ok [.loc 1, .int s, .int 0] [.dk [] [], .lst ((ks.filter fun x => decide (x ≥ 1000000000000000000)).reverse.map D.int)] := by
      unfold pairsX
      rw [e5]
      rfl
    rw [e6]
    rfl
theorem snoc_cases : ∀ (l : List Int), l = [] ∨ ∃ m g, l = m ++ [g] := fun l => by
  rcases List.eq_nil_or_concat l with h | ⟨m, g, h⟩
  · exact .inl h
  · exact .inr ⟨m, g, by rw [h, List.concat_eq_append]⟩
abbrev t0 : VL.Tx := tAnd' (tCmp' (gEqB true) (eVar 2) (eLst aNil)) (tCmp' (gEqB false) (eOp gIx (eVar 2) (eUn gNeg (eC (.int 1)))) (eC (.int 0)))
abbrev enD (m : Int) (e : Option D) : List (Option D) := [some (.loc 0), some (.int m), some (.loc 1), e]
theorem last_at {m : List Int} {g : Int} {cs : List Cell} (h : cs[1]? = some (.lst ((m ++ [g]).map D.int))) : gIx cs (.loc 1) (.int (-1)) = .ok (.int g) cs := by
  have e : atI ((m ++ [g]).map D.int) (-1) = some (.int g) := by
    have hl : ((m ++ [g]).map D.int).length = m.length + 1 := by simp
    have hi : ixN (m.length + 1) (-1) = some m.length := by
      unfold ixN
      rw [if_neg (by omega), if_pos (by omega)]
      congr 1
      omega
    unfold atI
    rw [hl, hi]
    show ((m ++ [g]).map D.int)[m.length]? = _
    rw [List.map_append, List.getElem?_append_right (by simp)]
    simp
  simp only [gIx, seqOf, lstOf, h, e]
theorem pop_at {m : List Int} {g b t : Int} {env : List (Option D)} (h0 : env[2]? = some (some (.loc 1))) : ePop (eVar 2) ⟨env, dx (m ++ [g]) b t⟩ = .ok (.int g) (dx m b t) := by
  have e1 : eVar 2 ⟨env, dx (m ++ [g]) b t⟩ = .ok (.loc 1) (dx (m ++ [g]) b t) := by unfold eVar; simp only [h0]
  unfold ePop
  rw [e1]
  simp [Out.bind, dx]
theorem ne_at {gs : List Int} {b t : Int} {env : List (Option D)} (h0 : env[2]? = some (some (.loc 1))) : tCmp' (gEqB true) (eVar 2) (eLst aNil) ⟨env, dx gs b t⟩ = .ok (!gs.isEmpty) (dx gs b t) :=
  ev_tCmp (ev_eOp (x := .loc 1) (c1 := dx gs b t) (c2 := dx gs b t) (by unfold eVar; simp only [h0]) rfl (eqNilI rfl))
theorem zeros (m : Int) (b t : Int) : ∀ (fuel : Nat) (gs : List Int), gs.length < fuel → ∃ gs', gs'.length ≤ gs.length ∧ whL t0 (sExpr (ePop (eVar 2))) fuel ⟨enD m none, dx gs b t⟩ = .nx ⟨enD m none, dx gs' b t⟩
  | 0, gs, h => absurd h (Nat.not_lt_zero _)
  | fuel + 1, gs, h => by
    rcases snoc_cases gs with rfl | ⟨l, g, rfl⟩
    · refine ⟨[], Nat.le_refl _, ?_⟩
      have e : t0 ⟨enD m none, dx [] b t⟩ = .ok false (dx [] b t) := ev_tAndF (ne_at (gs := []) rfl)
      unfold whL
      rw [e]
      rfl
    · have e1 : tCmp' (gEqB true) (eVar 2) (eLst aNil) ⟨enD m none, dx (l ++ [g]) b t⟩ = .ok true (dx (l ++ [g]) b t) := by
        rw [ne_at rfl]
        simp
      have e2 : tCmp' (gEqB false) (eOp gIx (eVar 2) (eUn gNeg (eC (.int 1)))) (eC (.int 0)) ⟨enD m none, dx (l ++ [g]) b t⟩ = .ok (g == 0) (dx (l ++ [g]) b t) :=
        ev_tCmp (ev_eOp (x := .int g) (c1 := dx (l ++ [g]) b t) (c2 := dx (l ++ [g]) b t) (ev_eOp (c1 := dx (l ++ [g]) b t) (c2 := dx (l ++ [g]) b t) (x := .loc 1) (y := .int (-1)) rfl rfl (last_at rfl)) rfl eqII)
      have e : t0 ⟨enD m none, dx (l ++ [g]) b t⟩ = .ok (g == 0) (dx (l ++ [g]) b t) := ev_tAndT e1 e2
      by_cases c : (g == 0) = true
      · rw [c] at e
        have hl : l.length < fuel := by rw [List.length_append] at h; simp at h; omega
        obtain ⟨gs', h1, h2⟩ := zeros m b t fuel l hl
        refine ⟨gs', by rw [List.length_append]; omega, ?_⟩
        unfold whL
        rw [e]
        show (match sExpr (ePop (eVar 2)) ⟨enD m none, dx (l ++ [g]) b t⟩ with
          | .nx st2 => _
          | .ct st2 => _
          | .bk st2 => SOut.nx st2
          | o => o) = _
        rw [ev_sExpr (pop_at rfl)]
        exact h2
      · rw [Bool.eq_false_iff.mpr c] at e
        refine ⟨_, Nat.le_refl _, ?_⟩
        unfold whL
        rw [e]
        rfl
theorem low_dx (l : List Int) (b t : Int) : (dx l b t).all (belowC 2) = true := by
  show ((true && (true && (true && true))) && (belows 2 (l.map D.int) && true)) = true
  rw [belows_int]
  rfl
theorem nol_dx (l : List Int) (b t : Int) : (dx l b t).all noLstC = true := by
  show ((true && (true && (true && true))) && (noLsts (l.map D.int) && true)) = true
  rw [noLsts_int]
  rfl
theorem ev_setKD {fv fo fi : Ex} {env : List (Option D)} {c0 c1 c2 c3 : List Cell} {v o k : D} {so : SOut} (e1 : fv ⟨env, c0⟩ = .ok v c1) (e2 : fo ⟨env, c1⟩ = .ok o c2) (e3 : fi ⟨env, c2⟩ = .ok k c3) (e4 : setKD o k v ⟨env, c3⟩ = so) : sSetKD fv fo fi ⟨env, c0⟩ = so := by
  unfold sSetKD
  simp only [e1, thenS, e2, e3, e4]
theorem draw_ok (gs : List Int) (hg : gs.length ≤ 63) (b t : Int) (m : Nat) (h0 : 0 < m) (h1 : m < 1073741824) : ∃ (v : Nat) (gs' : List Int) (b' t' : Int), gs'.length ≤ 63 ∧ v < m ∧ drawF [.loc 0, .int m] (dx gs b t) = .ok (.int v) (dx gs' b' t') := by
  have h0' : (0 : Int) < m := by omega
  have c1 : ∀ x, cMod x m = true := fun x => by simp [cMod]; omega
  have c2 : ∀ x, cDiv x m = true := fun x => by simp [cDiv]; omega
  have fin : ∀ x : Int, D.int ((x % m).toNat : Nat) = .int (x % m) := fun x => by
    rw [Int.toNat_of_nonneg (Int.emod_nonneg _ (by omega))]
  have lt : ∀ x : Int, (x % m).toNat < m := fun x => by
    have := Int.emod_lt_of_pos x h0'
    have := Int.emod_nonneg x (b := m) (by omega)
    omega
  obtain ⟨g2, hg2, hw⟩ := zeros m b t 64 gs (by omega)
  have s0 : sAsg (eOp gIxD (eVar 0) (eC (.str "great"))) (gNm 2) ⟨[some (.loc 0), some (.int m), none, none], dx gs b t⟩ = .nx ⟨enD m none, dx gs b t⟩ := ev_sAsg (d := .loc 1) (c1 := dx gs b t) (ev_eOp (c1 := dx gs b t) (c2 := dx gs b t) (x := .loc 0) (y := .str "great") rfl rfl (by kernel_rfl)) rfl
  have w : sWhile (fun _ => 64) t0 (sExpr (ePop (eVar 2))) ⟨enD m none, dx gs b t⟩ = .nx ⟨enD m none, dx g2 b t⟩ := hw
  rcases snoc_cases g2 with rfl | ⟨l, g, rfl⟩
  · have ce : tCmp' (gEqB true) (eVar 2) (eLst aNil) ⟨enD m none, dx [] b t⟩ = .ok false (dx [] b t) := ne_at (gs := []) rfl
    have i1 : ∀ b t, gIxD (dx [] b t) (.loc 0) (.str "turn") = .ok (.int t) (dx [] b t) := fun b t => by kernel_rfl
    have i2 : ∀ b t, gIxD (dx [] b t) (.loc 0) (.str "blend") = .ok (.int b) (dx [] b t) := fun b t => by kernel_rfl
    have p1 : ∀ b t u env, setKD (.loc 0) (.str "turn") (.int u) ⟨env, dx [] b t⟩ = .nx ⟨env, dx [] b u⟩ := fun b t u env => by kernel_rfl
    have p2 : ∀ b t u env, setKD (.loc 0) (.str "blend") (.int u) ⟨env, dx [] b t⟩ = .nx ⟨env, dx [] u t⟩ := fun b t u env => by kernel_rfl
    have q1 : sSetKD (eOp gAdd (eOp gIxD (eVar 0) (eC (.str "turn"))) (eC (.int 1))) (eVar 0) (eC (.str "turn")) ⟨enD m none, dx [] b t⟩ = .nx ⟨enD m none, dx [] b (t + 1)⟩ :=
      ev_setKD (v := .int (t + 1)) (o := .loc 0) (k := .str "turn") (c1 := dx [] b t) (c2 := dx [] b t) (c3 := dx [] b t) (ev_eOp (c1 := dx [] b t) (c2 := dx [] b t) (x := .int t) (y := .int 1) (ev_eOp (c1 := dx [] b t) (c2 := dx [] b t) (x := .loc 0) (y := .str "turn") rfl rfl (i1 _ _)) rfl rfl) rfl rfl (p1 _ _ _ _)
    have cl1 : cMul b 40692 = true := by simp [cMul]
    have cl2 : cMul 107 (t + 1) = true := by simp [cMul]
    have q2 : sSetKD (eOp gMod (eB hInt (aCons (eOp gAdd (eOp gMul (eOp gIxD (eVar 0) (eC (.str "blend"))) (eC (.int 40692))) (eOp gMul (eC (.int 107)) (eOp gIxD (eVar 0) (eC (.str "turn"))))) aNil)) (eC (.int 2147483629))) (eVar 0) (eC (.str "blend")) ⟨enD m none, dx [] b (t + 1)⟩ = .nx ⟨enD m none, dx [] ((b * 40692 + 107 * (t + 1)) % 2147483629) (t + 1)⟩ := by
      refine ev_setKD (v := .int ((b * 40692 + 107 * (t + 1)) % 2147483629)) (o := .loc 0) (k := .str "blend") (c1 := dx [] b (t + 1)) (c2 := dx [] b (t + 1)) (c3 := dx [] b (t + 1)) ?_ rfl rfl (p2 _ _ _ _)
      refine ev_eOp (c1 := dx [] b (t + 1)) (c2 := dx [] b (t + 1)) (x := .int (b * 40692 + 107 * (t + 1))) (y := .int 2147483629) (ev_eB (c1 := dx [] b (t + 1)) (xs := [.int (b * 40692 + 107 * (t + 1))]) (ev_aCons (c1 := dx [] b (t + 1)) (ev_eOp (c1 := dx [] b (t + 1)) (c2 := dx [] b (t + 1)) (x := .int (b * 40692)) (y := .int (107 * (t + 1))) ?_ ?_ rfl) rfl) rfl) rfl rfl
      · refine ev_eOp (c1 := dx [] b (t + 1)) (c2 := dx [] b (t + 1)) (x := .int b) (y := .int 40692) (ev_eOp (c1 := dx [] b (t + 1)) (c2 := dx [] b (t + 1)) (x := .loc 0) (y := .str "blend") rfl rfl (i2 _ _)) rfl ?_
        show (if cMul b 40692 then Out.ok (D.int (b * 40692)) (dx [] b (t + 1)) else .no) = _
        rw [if_pos cl1]
      · refine ev_eOp (c1 := dx [] b (t + 1)) (c2 := dx [] b (t + 1)) (x := .int 107) (y := .int (t + 1)) rfl (ev_eOp (c1 := dx [] b (t + 1)) (c2 := dx [] b (t + 1)) (x := .loc 0) (y := .str "turn") rfl rfl (i1 _ _)) ?_
        show (if cMul 107 (t + 1) then Out.ok (D.int (107 * (t + 1))) (dx [] b (t + 1)) else .no) = _
        rw [if_pos cl2]
    refine ⟨((((b * 40692 + 107 * (t + 1)) % 2147483629) / 64) % m).toNat, [], (b * 40692 + 107 * (t + 1)) % 2147483629, t + 1, by simp, lt _, ?_⟩
    rw [fin]
    refine trimF_of (d := .int ((((b * 40692 + 107 * (t + 1)) % 2147483629) / 64) % m)) (cs' := dx [] ((b * 40692 + 107 * (t + 1)) % 2147483629) (t + 1)) (ev_runRt (env := [some (.loc 0), some (.int m), none, none]) (st1 := ⟨_, dx [] ((b * 40692 + 107 * (t + 1)) % 2147483629) (t + 1)⟩) rfl (ev_sSeq s0 (ev_sSeq w (ev_sSeq (ev_sIfF ce rfl) (ev_sSeq q1 (ev_sSeq q2 (ev_sRet ?_))))))) (low_dx _ _ _) rfl
    refine ev_eOp (x := .int (((b * 40692 + 107 * (t + 1)) % 2147483629) / 64)) (y := .int m) (c1 := dx [] ((b * 40692 + 107 * (t + 1)) % 2147483629) (t + 1)) (c2 := dx [] ((b * 40692 + 107 * (t + 1)) % 2147483629) (t + 1)) ?_ rfl ?_
    · refine ev_eB (c1 := dx [] ((b * 40692 + 107 * (t + 1)) % 2147483629) (t + 1)) (xs := [.int (((b * 40692 + 107 * (t + 1)) % 2147483629) / 64)]) (ev_aCons (c1 := dx [] ((b * 40692 + 107 * (t + 1)) % 2147483629) (t + 1)) ?_ rfl) rfl
      exact ev_eOp (c1 := dx [] ((b * 40692 + 107 * (t + 1)) % 2147483629) (t + 1)) (c2 := dx [] ((b * 40692 + 107 * (t + 1)) % 2147483629) (t + 1)) (x := .int ((b * 40692 + 107 * (t + 1)) % 2147483629)) (y := .int 64) (ev_eOp (c1 := dx [] ((b * 40692 + 107 * (t + 1)) % 2147483629) (t + 1)) (c2 := dx [] ((b * 40692 + 107 * (t + 1)) % 2147483629) (t + 1)) (x := .loc 0) (y := .str "blend") rfl rfl (i2 _ _)) rfl rfl
    · show (if cMod _ m then _ else _) = _
      rw [if_pos (c1 _)]
  · have ce : tCmp' (gEqB true) (eVar 2) (eLst aNil) ⟨enD m none, dx (l ++ [g]) b t⟩ = .ok true (dx (l ++ [g]) b t) := by
      rw [ne_at rfl]
      simp
    refine ⟨(g % m).toNat, l ++ [g / m], b, t, by rw [List.length_append] at hg2 ⊢; simp at hg2 ⊢; omega, lt _, ?_⟩
    rw [fin]
    have ap : eAppend (eVar 2) (eOp gFdiv (eVar 3) (eVar 1)) ⟨enD m (some (.int g)), dx l b t⟩ = .ok .non (dx (l ++ [g / m]) b t) := by
      have e1 : eVar 2 ⟨enD m (some (.int g)), dx l b t⟩ = .ok (.loc 1) (dx l b t) := rfl
      have e2 : eOp gFdiv (eVar 3) (eVar 1) ⟨enD m (some (.int g)), dx l b t⟩ = .ok (.int (g / m)) (dx l b t) := by
        refine ev_eOp (x := .int g) (y := .int m) (c1 := dx l b t) (c2 := dx l b t) rfl rfl ?_
        show (if cDiv g m then _ else _) = _
        rw [if_pos (c2 _)]
      have hz : l.length < 16777216 := by rw [List.length_append] at hg2; omega
      unfold eAppend
      rw [e1]
      simp [Out.bind, dx, e2, hz]
    refine trimF_of (d := .int (g % m)) (cs' := dx (l ++ [g / m]) b t) (ev_runRt (env := [some (.loc 0), some (.int m), none, none]) (st1 := ⟨_, dx (l ++ [g / m]) b t⟩) rfl (ev_sSeq s0 (ev_sSeq w (ev_sSeqR (ev_sIfT ce (ev_sSeq (ev_sAsg (pop_at rfl) rfl) (ev_sSeq (ev_sExpr ap) (ev_sRet ?_)))))))) (low_dx _ _ _) rfl
    refine ev_eOp (x := .int g) (y := .int m) (c1 := dx (l ++ [g / m]) b t) (c2 := dx (l ++ [g / m]) b t) rfl rfl ?_
    show (if cMod g m then _ else _) = _
    rw [if_pos (c1 _)]
/-- a call that is handed the deal -/
theorem wd_call {fn : Fn} {ds ds' : List D} {gs : List Int} {b t : Int} {rest : List Cell} {Q : D → List Cell → Prop} {E : Exn → List Cell → Prop} (P : D → Prop) (hd : ds.map (lendD 2 (dx gs b t ++ rest)) = ds') (hb : belows 2 ds' = true) (h : WO (fn ds' (dx gs b t)) (fun d c => P d ∧ ∃ gs' b' t', gs'.length ≤ 63 ∧ c = dx gs' b' t') NoE) (hn : belows 2 ds = true ∨ ∀ d, P d → noLst d = true)
    (hq : ∀ d gs' b' t', P d → gs'.length ≤ 63 → Q d (dx gs' b' t' ++ rest)) : WO (callV 2 fn ds (dx gs b t ++ rest)) Q E := by
  obtain ⟨d, c, e, hp, gs', b', t', hg, rfl⟩ := h.ex
  unfold callV
  rw [hd, show (dx gs b t ++ rest).take 2 = dx gs b t from rfl, if_pos ⟨by simp, hb, low_dx _ _ _⟩, e]
  show WO (if _ then Out.ok d (dx gs' b' t' ++ rest) else Out.no) _ _
  rw [if_pos ⟨rfl, hn.imp id fun h => ⟨h d hp, nol_dx _ _ _⟩⟩]
  exact wo_ok (hq d gs' b' t' hp hg)
theorem wd_draw {gs : List Int} {b t : Int} {m : Int} {rest : List Cell} {Q : D → List Cell → Prop} {E : Exn → List Cell → Prop} (n : Nat) (hm : m = n) (hg : gs.length ≤ 63) (h0 : 0 < n) (h1 : n < 1073741824) (h : ∀ (v : Nat) gs' b' t', v < n → gs'.length ≤ 63 → Q (.int v) (dx gs' b' t' ++ rest)) : WO (callV 2 drawF [.loc 0, .int m] (dx gs b t ++ rest)) Q E := by
  subst hm
  obtain ⟨v, g2, b2, t2, hl2, hv, hd⟩ := draw_ok gs hg b t n h0 h1
  exact wd_call (fun d => ∃ v : Nat, v < n ∧ d = .int v) rfl rfl (wo_of hd ⟨⟨v, hv, rfl⟩, g2, b2, t2, hl2, rfl⟩) (.inl rfl) fun d gs' b' t' ⟨v, hv, e⟩ hg => e ▸ h v gs' b' t' hv hg
end K21
namespace K21
abbrev Pr := Nat × Nat
/-- a road of so many steps -/
inductive Wlk (T : List Pr) : Nat → Nat → Nat → Prop
  | nil {a : Nat} : Wlk T 0 a a
  | snoc {n a b c : Nat} : Wlk T n a b → (b, c) ∈ T → Wlk T (n + 1) a c
theorem Wlk.zero {T : List Pr} {a b : Nat} (h : Wlk T 0 a b) : b = a := by
  generalize hk : 0 = k at h
  cases h with
  | nil => rfl
  | snoc _ _ => omega
theorem Wlk.last {T : List Pr} {n a c : Nat} (h : Wlk T (n + 1) a c) : ∃ b, Wlk T n a b ∧ (b, c) ∈ T := by
  generalize hk : n + 1 = k at h
  cases h with
  | nil => omega
  | @snoc m a b c h1 h2 =>
    have : m = n := by omega
    subst this
    exact ⟨b, h1, h2⟩
theorem Wlk.trans {T : List Pr} {n m a b c : Nat} (h : Wlk T n a b) (k : Wlk T m b c) : Wlk T (n + m) a c := by
  induction k with
  | nil => exact h
  | snoc _ e ih => exact .snoc (ih h) e
theorem Wlk.ind {T : List Pr} {a : Nat} {C : Nat → Nat → Prop} (h0 : C 0 a) (hs : ∀ k x y, C k x → (x, y) ∈ T → C (k + 1) y) : ∀ k x, Wlk T k a x → C k x
  | 0, x, h => by rw [h.zero]; exact h0
  | k + 1, x, h => by
    obtain ⟨b, h1, h2⟩ := h.last
    exact hs k b x (Wlk.ind h0 hs k b h1) h2
theorem perm_of {α : Type} [BEq α] [LawfulBEq α] {l m : List α} (h1 : l.Nodup) (h2 : m.Nodup) (h : ∀ x, x ∈ l ↔ x ∈ m) : l.Perm m := by
  rw [List.perm_iff_count]
  intro a
  rw [h1.count, h2.count]
  by_cases c : a ∈ l
  · rw [if_pos c, if_pos ((h a).mp c)]
  · rw [if_neg c, if_neg fun q => c ((h a).mpr q)]
/-- so many numbers below n -/
theorem nodup_le : ∀ {l : List Nat} {n : Nat}, l.Nodup → (∀ x ∈ l, x < n) → l.length ≤ n
  | l, 0, _, h => by
    cases l with
    | nil => exact Nat.le_refl _
    | cons x r => exact absurd (h x List.mem_cons_self) (Nat.not_lt_zero _)
  | l, n + 1, nd, h => by
    by_cases c : n ∈ l
    · have p := List.perm_cons_erase c
      have e := p.length_eq
      have h2 : (l.erase n).length ≤ n := nodup_le (nd.erase n) fun x hx => by
        have := (nd.mem_erase_iff).mp hx
        have := h x this.2
        omega
      rw [List.length_cons] at e
      omega
    · have : l.length ≤ n := nodup_le nd fun x hx => by
        have h1 := h x hx
        have h2 : x ≠ n := fun e => c (e ▸ hx)
        omega
      omega
def look : List Pr → Nat → Option Nat
  | [], _ => none
  | (k, v) :: r, x => if k = x then some v else look r x
theorem look_none : ∀ {p : List Pr} {x : Nat}, look p x = none ↔ x ∉ p.map (·.1)
  | [], x => by simp [look]
  | (k, v) :: r, x => by
    unfold look
    by_cases c : k = x
    · subst c; simp
    · rw [if_neg c, look_none (p := r), List.map_cons, List.mem_cons]
      constructor
      · intro h q
        rcases q with q | q
        · exact c q.symm
        · exact h q
      · exact fun h q => h (.inr q)
theorem look_snoc : ∀ {p : List Pr} {x y v : Nat}, look p y = none → look (p ++ [(y, v)]) x = if x = y then some v else look p x
  | [], x, y, v, _ => by
    show (if y = x then some v else none) = _
    by_cases c : x = y
    · subst c; simp
    · rw [if_neg c, if_neg fun e => c e.symm]; rfl
  | (k, w) :: r, x, y, v, h => by
    unfold look at h
    by_cases c : k = y
    · rw [if_pos c] at h; cases h
    · rw [if_neg c] at h
      show (if k = x then some w else look (r ++ [(y, v)]) x) = if x = y then some v else (if k = x then some w else look r x)
      rw [look_snoc h]
      by_cases e : k = x
      · subst e; rw [if_pos rfl, if_pos rfl, if_neg c]
      · rw [if_neg e, if_neg e]
def succs (T : List Pr) (v : Nat) : List Nat := (T.filter fun p => p.1 == v).map (·.2)
theorem mem_succs {T : List Pr} {v x : Nat} : x ∈ succs T v ↔ (v, x) ∈ T := by
  unfold succs
  rw [List.mem_map]
  constructor
  · rintro ⟨⟨a, b⟩, h, rfl⟩
    obtain ⟨h1, h2⟩ := List.mem_filter.mp h
    have : a = v := by simpa using h2
    rw [← this]
    exact h1
  · exact fun h => ⟨(v, x), List.mem_filter.mpr ⟨h, by simp⟩, rfl⟩
/-- the followers of here, one after the other: true: first was among them -/
def scan (first here : Nat) : List Nat → List Pr → List Nat → Bool × List Pr × List Nat
  | [], p, w => (false, p, w)
  | l :: ls, p, w => if l = first then (true, p, w) else match look p l with
    | some _ => scan first here ls p w
    | none => scan first here ls (p ++ [(l, here)]) (w ++ [l])
/-- the way back -/
def wback (p : List Pr) (first : Nat) : Nat → List Nat → Nat → Option (List Nat)
  | 0, _, _ => none
  | f + 1, l, x => if x = first then some l else match look p x with
    | none => none
    | some y => wback p first f (l ++ [y]) y
def bfs (adj : Nat → List Nat) (first : Nat) : Nat → List Pr → List Nat → Nat → Option (Option (List Nat))
  | 0, _, _, _ => none
  | f + 1, p, w, spot => match w[spot]? with
    | none => some none
    | some here => match scan first here (adj here) p w with
      | (true, p', _) => (wback p' first 64 [here] here).map fun l => some l.reverse
      | (false, p', w') => bfs adj first f p' w' (spot + 1)
/-- what is known of the queue, d the depths -/
structure Que (T : List Pr) (n first : Nat) (p : List Pr) (w : List Nat) (d : Nat → Nat) : Prop where
  nd : w.Nodup
  keys : w = first :: p.map (·.1)
  srt : w.Pairwise fun a b => d a ≤ d b
  d0 : d first = 0
  wl : ∀ x ∈ w, Wlk T (d x) first x
  pr : ∀ x u, look p x = some u → u ∈ w ∧ (u, x) ∈ T ∧ d x = d u + 1
  bnd : ∀ x ∈ w, x < n
  dl : ∀ x ∈ w, d x < w.length
structure Scn (T : List Pr) (n first here : Nat) (p : List Pr) (w : List Nat) (d : Nat → Nat) : Prop extends Que T n first p w d where
  hw : here ∈ w
  bd : ∀ x ∈ w, d x ≤ d here + 1
theorem Que.mem {T : List Pr} {n first : Nat} {p : List Pr} {w : List Nat} {d : Nat → Nat} (q : Que T n first p w d) {x : Nat} (hx : x ≠ first) : x ∈ w ↔ ∃ u, look p x = some u := by
  rw [q.keys, List.mem_cons]
  constructor
  · intro h
    rcases h with h | h
    · exact absurd h hx
    · cases e : look p x with
      | some u => exact ⟨u, rfl⟩
      | none => exact absurd h (look_none.mp e)
  · rintro ⟨u, h⟩
    refine .inr ?_
    by_cases c : x ∈ p.map (·.1)
    · exact c
    · rw [look_none.mpr c] at h; cases h
def setd (d : Nat → Nat) (l k : Nat) : Nat → Nat := fun x => if x = l then k else d x
/-- one more at the queue's end -/
theorem Scn.push {T : List Pr} {n first here l : Nat} {p : List Pr} {w : List Nat} {d : Nat → Nat} (q : Scn T n first here p w d) (hl : l ≠ first) (hn : look p l = none) (he : (here, l) ∈ T) (hb : l < n) : Scn T n first here (p ++ [(l, here)]) (w ++ [l]) (setd d l (d here + 1)) ∧ ∀ x ∈ w, setd d l (d here + 1) x = d x := by
  have nin : l ∉ w := fun h => by
    obtain ⟨u, e⟩ := (q.toQue.mem hl).mp h
    rw [hn] at e; cases e
  have same : ∀ x ∈ w, setd d l (d here + 1) x = d x := fun x hx => by
    show (if x = l then d here + 1 else d x) = d x
    rw [if_neg fun e : x = l => nin (e ▸ hx)]
  have self : setd d l (d here + 1) l = d here + 1 := if_pos rfl
  refine ⟨⟨⟨?_, ?_, ?_, ?_, ?_, ?_, ?_, ?_⟩, List.mem_append_left _ q.hw, ?_⟩, same⟩
  · exact List.nodup_append.mpr ⟨q.nd, by simp, fun a ha b hb e => nin (by rw [List.mem_singleton.mp hb] at e; exact e ▸ ha)⟩
  · rw [q.keys, List.map_append]; rfl
  · refine List.pairwise_append.mpr ⟨?_, by simp, fun a ha b hb => ?_⟩
    · exact q.srt.imp_of_mem fun {a b} ha hb h => by rw [same a ha, same b hb]; exact h
    · rw [List.mem_singleton.mp hb, self, same a ha]
      exact q.bd a ha
  · have : setd d l (d here + 1) first = d first := if_neg fun e => hl e.symm
    rw [this, q.d0]
  · intro x hx
    rcases List.mem_append.mp hx with h | h
    · rw [same x h]; exact q.wl x h
    · rw [List.mem_singleton.mp h, self]; exact .snoc (q.wl here q.hw) he
  · intro x u e
    rw [look_snoc hn] at e
    by_cases c : x = l
    · rw [if_pos c] at e
      cases e
      subst c
      exact ⟨List.mem_append_left _ q.hw, he, by rw [self, same _ q.hw]⟩
    · rw [if_neg c] at e
      obtain ⟨h1, h2, h3⟩ := q.pr x u e
      refine ⟨List.mem_append_left _ h1, h2, ?_⟩
      rw [same u h1, ← h3]
      exact if_neg c
  · intro x hx
    rcases List.mem_append.mp hx with h | h
    · exact q.bnd x h
    · rw [List.mem_singleton.mp h]; exact hb
  · intro x hx
    rw [List.length_append, List.length_singleton]
    rcases List.mem_append.mp hx with h | h
    · rw [same x h]; exact Nat.lt_succ_of_lt (q.dl x h)
    · rw [List.mem_singleton.mp h, self]
      exact Nat.succ_lt_succ (q.dl here q.hw)
  · intro x hx
    rw [same here q.hw]
    rcases List.mem_append.mp hx with h | h
    · rw [same x h]; exact q.bd x h
    · rw [List.mem_singleton.mp h, self]
      exact Nat.le_refl _
theorem scan_ok {T : List Pr} {n first here : Nat} (hT : ∀ e ∈ T, e.2 < n) : ∀ (ls : List Nat) {p : List Pr} {w : List Nat} {d : Nat → Nat}, Scn T n first here p w d → (∀ l ∈ ls, (here, l) ∈ T) →
    ∃ b p' w' d', scan first here ls p w = (b, p', w') ∧ Scn T n first here p' w' d' ∧ (∀ x ∈ w, d' x = d x) ∧ (∃ t, w' = w ++ t) ∧ (b = true → first ∈ ls) ∧ (b = false → ∀ l ∈ ls, l ≠ first ∧ l ∈ w')
  | [], p, w, d, q, _ => ⟨false, p, w, d, rfl, q, fun _ _ => rfl, ⟨[], by simp⟩, (fun h => by cases h), (fun _ l hl => by cases hl)⟩
  | l :: ls, p, w, d, q, h => by
    unfold scan
    by_cases c : l = first
    · rw [if_pos c]
      exact ⟨true, p, w, d, rfl, q, fun _ _ => rfl, ⟨[], by simp⟩, (fun _ => by rw [c]; exact List.mem_cons_self), (fun h => by cases h)⟩
    · rw [if_neg c]
      cases e : look p l with
      | some u =>
        obtain ⟨b, p', w', d', h1, h2, h3, ⟨t, h4⟩, h5, h6⟩ := scan_ok hT ls q fun x hx => h x (List.mem_cons_of_mem _ hx)
        refine ⟨b, p', w', d', h1, h2, h3, ⟨t, h4⟩, fun z => List.mem_cons_of_mem _ (h5 z), fun z x hx => ?_⟩
        rcases List.mem_cons.mp hx with y | y
        · rw [y]
          exact ⟨c, by rw [h4]; exact List.mem_append_left _ ((q.toQue.mem c).mpr ⟨u, e⟩)⟩
        · exact h6 z x y
      | none =>
        have hl := h l List.mem_cons_self
        obtain ⟨q2, s2⟩ := q.push c e hl (hT _ hl)
        obtain ⟨b, p', w', d', h1, h2, h3, ⟨t, h4⟩, h5, h6⟩ := scan_ok hT ls q2 fun x hx => h x (List.mem_cons_of_mem _ hx)
        refine ⟨b, p', w', d', h1, h2, fun x hx => by rw [h3 x (List.mem_append_left _ hx), s2 x hx], ⟨[l] ++ t, by rw [h4, List.append_assoc]⟩, fun z => List.mem_cons_of_mem _ (h5 z), fun z x hx => ?_⟩
        rcases List.mem_cons.mp hx with y | y
        · rw [y]
          exact ⟨c, by rw [h4]; exact List.mem_append_left _ (List.mem_append_right _ (by simp))⟩
        · exact h6 z x y
def Bk (T : List Pr) (first : Nat) : Nat → List Nat → Prop
  | x, [] => x = first
  | x, y :: r => (y, x) ∈ T ∧ Bk T first y r
theorem wback_ok {T : List Pr} {n first : Nat} {p : List Pr} {w : List Nat} {d : Nat → Nat} (q : Que T n first p w d) : ∀ (k f : Nat) (l : List Nat) (x : Nat), x ∈ w → d x = k → k < f →
    ∃ r, wback p first f l x = some (l ++ r) ∧ Bk T first x r ∧ r.length = k ∧ (∀ y ∈ r, y ∈ w ∧ d y < k) ∧ (x :: r).Nodup
  | k, 0, l, x, _, _, hf => absurd hf (Nat.not_lt_zero _)
  | 0, f + 1, l, x, hx, hd, _ => by
    have hxf : x = first := by
      by_cases c : x = first
      · exact c
      · obtain ⟨u, e⟩ := (q.mem c).mp hx
        have := (q.pr x u e).2.2
        omega
    refine ⟨[], ?_, hxf, rfl, (fun y hy => by cases hy), by simp⟩
    unfold wback
    rw [if_pos hxf, List.append_nil]
  | k + 1, f + 1, l, x, hx, hd, hf => by
    have hxf : x ≠ first := fun e => by
      have := q.d0
      rw [← e] at this
      omega
    obtain ⟨u, e⟩ := (q.mem hxf).mp hx
    obtain ⟨h1, h2, h3⟩ := q.pr x u e
    have du : d u = k := by omega
    obtain ⟨r, g1, g2, g3, g4, g5⟩ := wback_ok q k f (l ++ [u]) u h1 du (by omega)
    refine ⟨u :: r, ?_, ⟨h2, g2⟩, by rw [List.length_cons, g3], fun y hy => ?_, ?_⟩
    · unfold wback
      rw [if_neg hxf, e]
      show wback p first f (l ++ [u]) u = _
      rw [g1, List.append_assoc]
      rfl
    · rcases List.mem_cons.mp hy with z | z
      · rw [z]; exact ⟨h1, by omega⟩
      · exact ⟨(g4 y z).1, Nat.lt_succ_of_lt (g4 y z).2⟩
    · refine List.nodup_cons.mpr ⟨fun hm => ?_, g5⟩
      rcases List.mem_cons.mp hm with z | z
      · rw [z] at hd; omega
      · have := (g4 x z).2
        omega
/-- step by step -/
def Path (T : List Pr) : List Nat → Prop
  | a :: b :: r => (a, b) ∈ T ∧ Path T (b :: r)
  | _ => True
theorem path_snoc {T : List Pr} {y x : Nat} (h : (y, x) ∈ T) : ∀ {l : List Nat}, Path T (l ++ [y]) → Path T (l ++ [y] ++ [x])
  | [], _ => ⟨h, True.intro⟩
  | [a], k => ⟨k.1, h, True.intro⟩
  | a :: b :: r, k => ⟨k.1, path_snoc h (l := b :: r) k.2⟩
theorem path_back {T : List Pr} {first : Nat} : ∀ {r : List Nat} {x : Nat}, Bk T first x r → Path T (x :: r).reverse ∧ (x :: r).reverse.head? = some first
  | [], x, h => by
    cases h
    exact ⟨True.intro, rfl⟩
  | y :: r, x, ⟨h1, h2⟩ => by
    obtain ⟨g1, g2⟩ := path_back h2
    have e : (x :: y :: r).reverse = (y :: r).reverse ++ [x] := List.reverse_cons
    have e2 : (y :: r).reverse = r.reverse ++ [y] := List.reverse_cons
    rw [e]
    refine ⟨?_, ?_⟩
    · rw [e2]
      rw [e2] at g1
      exact path_snoc h1 g1
    · rw [List.head?_append, g2]
      rfl
theorem path_get {T : List Pr} : ∀ {w : List Nat} {k x y : Nat}, Path T w → w[k]? = some x → w[k + 1]? = some y → (x, y) ∈ T
  | a :: b :: r, 0, x, y, h, e1, e2 => by
    cases (show some a = some x from e1)
    cases (show some b = some y from e2)
    exact h.1
  | a :: b :: r, k + 1, x, y, h, e1, e2 => path_get (w := b :: r) h.2 e1 e2
  | [a], k, x, y, _, _, e2 => by simp at e2
  | [], k, x, y, _, e1, _ => by simp at e1
structure RingOf (T : List Pr) (n first : Nat) (w : List Nat) : Prop where
  nd : w.Nodup
  bnd : ∀ x ∈ w, x < n
  ne : w ≠ []
  cyc : ∀ k, k < w.length → ∃ x y, w[k]? = some x ∧ w[(k + 1) % w.length]? = some y ∧ (x, y) ∈ T
  cl : Wlk T w.length first first
  least : ∀ m, 1 ≤ m → Wlk T m first first → w.length ≤ m
theorem ring_of {T : List Pr} {n first here : Nat} {p : List Pr} {w : List Nat} {d : Nat → Nat} (q : Que T n first p w d) (hh : here ∈ w) (he : (here, first) ∈ T) (hl : ∀ m, 1 ≤ m → Wlk T m first first → d here + 1 ≤ m) (hn : n < 64) :
    ∃ l, (wback p first 64 [here] here).map (fun l => some l.reverse) = some (some l) ∧ RingOf T n first l := by
  have hw : w.length ≤ n := nodup_le q.nd q.bnd
  have := q.dl here hh
  obtain ⟨r, g1, g2, g3, g4, g5⟩ := wback_ok q (d here) 64 [here] here hh rfl (by omega)
  obtain ⟨p1, p2⟩ := path_back g2
  have len : (here :: r).reverse.length = d here + 1 := by rw [List.length_reverse, List.length_cons, g3]
  refine ⟨(here :: r).reverse, by rw [g1]; rfl, ⟨?_, ?_, by simp, ?_, ?_, ?_⟩⟩
  · exact (List.reverse_perm (here :: r)).nodup_iff.mpr g5
  · intro x hx
    rcases List.mem_cons.mp (List.mem_reverse.mp hx) with z | z
    · rw [z]; exact q.bnd here hh
    · exact q.bnd x (g4 x z).1
  · intro k hk
    have last : (here :: r).reverse[d here]? = some here := by
      rw [List.reverse_cons, List.getElem?_append_right (by rw [List.length_reverse, g3]; exact Nat.le_refl _), List.length_reverse, g3, Nat.sub_self]
      rfl
    by_cases c : k + 1 = d here + 1
    · have ek : k = d here := by omega
      subst ek
      refine ⟨here, first, last, ?_, he⟩
      rw [len, Nat.mod_self]
      rw [List.head?_eq_getElem?] at p2
      exact p2
    · rw [len] at hk ⊢
      rw [Nat.mod_eq_of_lt (by omega)]
      have h1 : k < (here :: r).reverse.length := by rw [len]; exact hk
      have h2 : k + 1 < (here :: r).reverse.length := by rw [len]; omega
      exact ⟨_, _, List.getElem?_eq_getElem h1, List.getElem?_eq_getElem h2, path_get p1 (List.getElem?_eq_getElem h1) (List.getElem?_eq_getElem h2)⟩
  · rw [len]
    exact .snoc (q.wl here hh) he
  · intro m h1 h2
    rw [len]
    exact hl m h1 h2
theorem bfs_ok {T : List Pr} {n first : Nat} (hT : ∀ e ∈ T, e.2 < n) (hn : n < 64) : ∀ (f : Nat) {p : List Pr} {w : List Nat} {d : Nat → Nat} {spot : Nat}, Que T n first p w d → (∀ here, w[spot]? = some here → ∀ x ∈ w, d x ≤ d here + 1) →
    (∀ x ∈ w.take spot, ∀ v, (x, v) ∈ T → v ≠ first ∧ v ∈ w ∧ d v ≤ d x + 1) → n < spot + f → spot ≤ w.length →
    (bfs (succs T) first f p w spot = some none ∧ ∀ m, 1 ≤ m → ¬ Wlk T m first first) ∨ ∃ l, bfs (succs T) first f p w spot = some (some l) ∧ RingOf T n first l
  | 0, p, w, d, spot, q, _, _, hf, hs => by
    have := nodup_le q.nd q.bnd
    omega
  | f + 1, p, w, d, spot, q, hb, hx, hf, hs => by
    unfold bfs
    cases e : w[spot]? with
    | none =>
      refine .inl ⟨rfl, fun m h1 h2 => ?_⟩
      have hl : w.length ≤ spot := List.getElem?_eq_none_iff.mp e
      have all : w.take spot = w := List.take_of_length_le hl
      have key : ∀ k x, Wlk T k first x → x ∈ w ∧ (1 ≤ k → x ≠ first) := Wlk.ind ⟨by rw [q.keys]; exact List.mem_cons_self, fun z => by omega⟩ fun k x y ih e => by
        obtain ⟨g1, g2, _⟩ := hx _ (by rw [all]; exact ih.1) _ e
        exact ⟨g2, fun _ => g1⟩
      exact (key m first h2).2 h1 rfl
    | some here =>
      have hi := (List.getElem?_eq_some_iff.mp e).1
      have hh : here ∈ w := List.mem_of_getElem? e
      obtain ⟨b, p', w', d', h1, h2, h3, ⟨t, h4⟩, h5, h6⟩ := scan_ok hT (succs T here) ⟨q, hh, hb here e⟩ (fun l hl => mem_succs.mp hl)
      simp only [h1]
      have eh : d' here = d here := h3 here hh
      cases b with
      | true =>
        refine .inr (ring_of h2.toQue h2.hw (mem_succs.mp (h5 rfl)) (fun m m1 hm => ?_) hn)
        rw [eh]
        -- shorter closed roads there are not
        have split : ∀ x ∈ w, d x < d here → x ∈ w.take spot := by
          intro x hxw hlt
          rw [← List.take_append_drop spot w] at hxw
          rcases List.mem_append.mp hxw with z | z
          · exact z
          · have ed : w.drop spot = here :: w.drop (spot + 1) := by
              rw [List.drop_eq_getElem_cons hi]
              congr 1
              exact Option.some.inj ((List.getElem?_eq_getElem hi).symm.trans e)
            have sp : (w.drop spot).Pairwise fun a b => d a ≤ d b := q.srt.drop
            rw [ed] at sp z
            rcases List.mem_cons.mp z with y | y
            · rw [y] at hlt; omega
            · have := (List.pairwise_cons.mp sp).1 x y
              omega
        have key : ∀ k x, Wlk T k first x → k ≤ d here → x ∈ w ∧ d x ≤ k ∧ (1 ≤ k → x ≠ first) := Wlk.ind (fun _ => ⟨by rw [q.keys]; exact List.mem_cons_self, by rw [q.d0]; exact Nat.le_refl _, fun z => by omega⟩) fun k x y ih e2 hk => by
          obtain ⟨g1, g2, _⟩ := ih (by omega)
          obtain ⟨k1, k2, k3⟩ := hx _ (split _ g1 (by omega)) _ e2
          exact ⟨k2, by omega, fun _ => k1⟩
        by_cases c : d here + 1 ≤ m
        · exact c
        · exact absurd rfl ((key m first hm (by omega)).2.2 m1)
      | false =>
        refine bfs_ok hT hn f h2.toQue (fun h0 e0 x hx' => ?_) (fun x hx' v hv => ?_) (by omega) ?_
        · have := h2.bd x hx'
          have : d' here ≤ d' h0 := by
            have hi' : spot < w'.length := by rw [h4, List.length_append]; omega
            have es : w'[spot]? = some here := by rw [h4, List.getElem?_append_left hi]; exact e
            obtain ⟨j1, j2⟩ := List.getElem?_eq_some_iff.mp e0
            obtain ⟨i1, i2⟩ := List.getElem?_eq_some_iff.mp es
            have := (List.pairwise_iff_getElem.mp h2.srt) spot (spot + 1) i1 j1 (by omega)
            rw [i2, j2] at this
            exact this
          omega
        · have et : w'.take (spot + 1) = w.take spot ++ [here] := by
            rw [h4, List.take_append_of_le_length (by omega), List.take_succ, e]
            rfl
          rw [et] at hx'
          rcases List.mem_append.mp hx' with z | z
          · obtain ⟨k1, k2, k3⟩ := hx x z v hv
            have xw : x ∈ w := List.mem_of_mem_take z
            refine ⟨k1, by rw [h4]; exact List.mem_append_left _ k2, ?_⟩
            rw [h3 v k2, h3 x xw]
            exact k3
          · rw [List.mem_singleton.mp z] at hv ⊢
            obtain ⟨k1, k2⟩ := h6 rfl v (mem_succs.mpr hv)
            exact ⟨k1, k2, h2.bd v k2⟩
        · rw [h4, List.length_append]
          omega
/-- the search from first -/
theorem bfs_first {T : List Pr} {n first : Nat} (hT : ∀ e ∈ T, e.2 < n) (hn : n < 64) (hf : first < n) :
    (bfs (succs T) first 64 [] [first] 0 = some none ∧ ∀ m, 1 ≤ m → ¬ Wlk T m first first) ∨ ∃ l, bfs (succs T) first 64 [] [first] 0 = some (some l) ∧ RingOf T n first l := by
  refine bfs_ok hT hn 64 (d := fun _ => 0) ⟨by simp, rfl, by simp, rfl, ?_, ?_, ?_, ?_⟩ ?_ ?_ (by omega) (by simp)
  · intro x hx
    rw [List.mem_singleton.mp hx]
    exact .nil
  · intro x u e
    cases e
  · intro x hx
    rw [List.mem_singleton.mp hx]
    exact hf
  · intro x hx
    simp
  · intro h _ x hx
    exact Nat.zero_le _
  · intro x hx
    simp at hx
end K21
namespace K21
def ringL (f : Nat → Option (Option (List Nat))) : List Nat → Option (List Nat) → Option (Option (List Nat))
  | [], found => some found
  | x :: xs, found => match f x with
    | none => none
    | some none => ringL f xs found
    | some (some w) => ringL f xs (match found with
      | none => some w
      | some v => if w.length < v.length then some w else some v)
/-- what a search over the vertices xs has found -/
def Best (T : List Pr) (n : Nat) (xs : List Nat) : Option (List Nat) → Prop
  | none => ∀ x ∈ xs, ∀ m, 1 ≤ m → ¬ Wlk T m x x
  | some w => (∃ x, x ∈ xs ∧ RingOf T n x w) ∧ ∀ x ∈ xs, ∀ m, 1 ≤ m → Wlk T m x x → w.length ≤ m
theorem ringL_ok {T : List Pr} {n : Nat} (hT : ∀ e ∈ T, e.2 < n) (hn : n < 64) : ∀ (xs ys : List Nat) {found : Option (List Nat)}, (∀ x ∈ xs, x < n) → Best T n ys found → ∃ r, ringL (fun x => bfs (succs T) x 64 [] [x] 0) xs found = some r ∧ Best T n (ys ++ xs) r
  | [], ys, found, _, h => ⟨found, rfl, by rw [List.append_nil]; exact h⟩
  | x :: xs, ys, found, hx, h => by
    unfold ringL
    have e2 : ys ++ x :: xs = (ys ++ [x]) ++ xs := by simp
    rw [e2]
    rcases bfs_first hT hn (hx x List.mem_cons_self) with ⟨e, q⟩ | ⟨l, e, q⟩
    · simp only [e]
      refine ringL_ok hT hn xs (ys ++ [x]) (fun y hy => hx y (List.mem_cons_of_mem _ hy)) ?_
      cases found with
      | none =>
        intro y hy
        rcases List.mem_append.mp hy with z | z
        · exact h y z
        · rw [List.mem_singleton.mp z]; exact q
      | some w =>
        obtain ⟨⟨a, h1, h2⟩, h3⟩ := h
        refine ⟨⟨a, List.mem_append_left _ h1, h2⟩, fun y hy m m1 hm => ?_⟩
        rcases List.mem_append.mp hy with z | z
        · exact h3 y z m m1 hm
        · rw [List.mem_singleton.mp z] at hm
          exact absurd hm (q m m1)
    · simp only [e]
      refine ringL_ok hT hn xs (ys ++ [x]) (fun y hy => hx y (List.mem_cons_of_mem _ hy)) ?_
      cases found with
      | none =>
        refine ⟨⟨x, by simp, q⟩, fun y hy m m1 hm => ?_⟩
        rcases List.mem_append.mp hy with z | z
        · exact absurd hm (h y z m m1)
        · rw [List.mem_singleton.mp z] at hm
          exact q.least m m1 hm
      | some w =>
        obtain ⟨⟨a, h1, h2⟩, h3⟩ := h
        dsimp only
        by_cases c : l.length < w.length
        · rw [if_pos c]
          refine ⟨⟨x, by simp, q⟩, fun y hy m m1 hm => ?_⟩
          rcases List.mem_append.mp hy with z | z
          · exact Nat.le_trans (Nat.le_of_lt c) (h3 y z m m1 hm)
          · rw [List.mem_singleton.mp z] at hm
            exact q.least m m1 hm
        · rw [if_neg c]
          refine ⟨⟨a, List.mem_append_left _ h1, h2⟩, fun y hy m m1 hm => ?_⟩
          rcases List.mem_append.mp hy with z | z
          · exact h3 y z m m1 hm
          · rw [List.mem_singleton.mp z] at hm
            exact Nat.le_trans (Nat.not_lt.mp c) (q.least m m1 hm)
/-- the next layer -/
def layer (T : List Pr) (L K : List Nat) : List Nat := (T.filter fun p => L.elem p.1 && !K.elem p.2).map (·.2)
/-- the keys of a dict of numbers, more of them -/
def addK : List Nat → List Nat → List Nat
  | K, [] => K
  | K, x :: xs => addK (if K.elem x then K else K ++ [x]) xs
theorem mem_addK : ∀ {xs K : List Nat} {x : Nat}, x ∈ addK K xs ↔ x ∈ K ∨ x ∈ xs
  | [], K, x => by simp [addK]
  | y :: xs, K, x => by
    unfold addK
    rw [mem_addK (xs := xs), List.mem_cons]
    by_cases c : K.elem y = true
    · rw [if_pos c]
      have hy : y ∈ K := List.elem_iff.mp c
      constructor
      · rintro (h | h)
        · exact .inl h
        · exact .inr (.inr h)
      · rintro (h | h | h)
        · exact .inl h
        · rw [h]; exact .inl hy
        · exact .inr h
    · rw [if_neg c, List.mem_append, List.mem_singleton]
      constructor
      · rintro ((h | h) | h)
        · exact .inl h
        · exact .inr (.inl h)
        · exact .inr (.inr h)
      · rintro (h | h | h)
        · exact .inl (.inl h)
        · exact .inl (.inr h)
        · exact .inr h
theorem mem_layer {T : List Pr} {L K : List Nat} {v : Nat} : v ∈ layer T L K ↔ ∃ u, u ∈ L ∧ (u, v) ∈ T ∧ v ∉ K := by
  unfold layer
  rw [List.mem_map]
  constructor
  · rintro ⟨⟨a, b⟩, h, rfl⟩
    obtain ⟨h1, h2⟩ := List.mem_filter.mp h
    simp only [Bool.and_eq_true, Bool.not_eq_true'] at h2
    exact ⟨a, List.elem_iff.mp h2.1, h1, fun z => by rw [List.elem_iff.mpr z] at h2; exact Bool.noConfusion h2.2⟩
  · rintro ⟨u, h1, h2, h3⟩
    refine ⟨(u, v), List.mem_filter.mpr ⟨h2, ?_⟩, rfl⟩
    simp only [Bool.and_eq_true, Bool.not_eq_true']
    refine ⟨List.elem_iff.mpr h1, ?_⟩
    cases e : K.elem v with
    | false => rfl
    | true => exact absurd (List.elem_iff.mp e) h3
/-- s layers are laid -/
structure Lay (T : List Pr) (first s : Nat) (L K : List Nat) : Prop where
  k : ∀ v, v ∈ K ↔ ∃ m, 1 ≤ m ∧ m ≤ s ∧ Wlk T m first v
  l : ∀ v, v ∈ L ↔ Wlk T s first v ∧ ∀ m, 1 ≤ m → m < s → ¬ Wlk T m first v
theorem lay_zero {T : List Pr} {first : Nat} : Lay T first 0 [first] [] :=
  ⟨fun v => by simp; intro m h1 h2; omega, fun v => by
    rw [List.mem_singleton]
    constructor
    · intro h; subst h; exact ⟨.nil, fun m h1 h2 => by omega⟩
    · exact fun h => h.1.zero⟩
theorem Lay.step {T : List Pr} {first s : Nat} {L K : List Nat} (q : Lay T first s L K) : Lay T first (s + 1) (layer T L K) (addK K (layer T L K)) := by
  have hl : ∀ v, v ∈ layer T L K ↔ Wlk T (s + 1) first v ∧ ∀ m, 1 ≤ m → m < s + 1 → ¬ Wlk T m first v := by
    intro v
    rw [mem_layer]
    constructor
    · rintro ⟨u, h1, h2, h3⟩
      refine ⟨.snoc ((q.l u).mp h1).1 h2, fun m m1 m2 hm => h3 ((q.k v).mpr ⟨m, m1, by omega, hm⟩)⟩
    · rintro ⟨h1, h2⟩
      obtain ⟨u, g1, g2⟩ := h1.last
      refine ⟨u, (q.l u).mpr ⟨g1, fun m m1 m2 hm => h2 (m + 1) (by omega) (by omega) (.snoc hm g2)⟩, g2, fun hk => ?_⟩
      obtain ⟨m, m1, m2, hm⟩ := (q.k v).mp hk
      exact h2 m m1 (by omega) hm
  refine ⟨fun v => ?_, hl⟩
  rw [mem_addK]
  constructor
  · rintro (h | h)
    · obtain ⟨m, m1, m2, hm⟩ := (q.k v).mp h
      exact ⟨m, m1, by omega, hm⟩
    · exact ⟨s + 1, by omega, by omega, ((hl v).mp h).1⟩
  · rintro ⟨m, m1, m2, hm⟩
    by_cases c : v ∈ K
    · exact .inl c
    · refine .inr ((hl v).mpr ⟨?_, fun m' h1 h2 hm' => c ((q.k v).mpr ⟨m', h1, by omega, hm'⟩)⟩)
      by_cases e : m = s + 1
      · rw [← e]; exact hm
      · exact absurd ((q.k v).mpr ⟨m, m1, by omega, hm⟩) c
def less (s : Nat) : Option Nat → Bool
  | none => true
  | some b => decide (s < b)
/-- the sizes from s on, so many of them -/
def sizesP (T : List Pr) (first : Nat) : Nat → Nat → List Nat → List Nat → Option Nat → Option Nat
  | 0, _, _, _, best => best
  | k + 1, s, L, K, best => sizesP T first k (s + 1) (layer T L K) (addK K (layer T L K)) (if (layer T L K).elem first && less s best then some s else best)
def shortL (T : List Pr) (n : Nat) : List Nat → Option Nat → Option Nat
  | [], best => best
  | x :: xs, best => shortL T n xs (sizesP T x n 1 [x] [] best)
/-- P tells the sizes that were looked at -/
def Least (P : Nat → Prop) : Option Nat → Prop
  | none => ∀ m, ¬ P m
  | some b => P b ∧ ∀ m, P m → b ≤ m
theorem least_more {P Q : Nat → Prop} {s : Nat} {best : Option Nat} {hit : Bool} (h : Least P best) (hq : ∀ m, Q m ↔ P m ∨ (m = s ∧ hit = true)) : Least Q (if hit && less s best then some s else best) := by
  cases hit with
  | false =>
    rw [Bool.false_and, if_neg (by decide)]
    have e : ∀ m, Q m ↔ P m := fun m => (hq m).trans ⟨fun z => z.elim id fun y => Bool.noConfusion y.2, Or.inl⟩
    cases best with
    | none => exact fun m hm => h m ((e m).mp hm)
    | some b => exact ⟨(e b).mpr h.1, fun m hm => h.2 m ((e m).mp hm)⟩
  | true =>
    rw [Bool.true_and]
    cases best with
    | none =>
      rw [if_pos (show less s none = true from rfl)]
      refine ⟨(hq s).mpr (.inr ⟨rfl, rfl⟩), fun m hm => ?_⟩
      rcases (hq m).mp hm with z | z
      · exact absurd z (h m)
      · omega
    | some b =>
      unfold less
      by_cases c : s < b
      · rw [if_pos (decide_eq_true c)]
        refine ⟨(hq s).mpr (.inr ⟨rfl, rfl⟩), fun m hm => ?_⟩
        rcases (hq m).mp hm with z | z
        · have := h.2 m z
          omega
        · omega
      · rw [if_neg (by simpa using c)]
        refine ⟨(hq b).mpr (.inl h.1), fun m hm => ?_⟩
        rcases (hq m).mp hm with z | z
        · exact h.2 m z
        · omega
/-- first closed roads, of the vertices xs and of sizes 1 .. s for one more -/
def Small (T : List Pr) (n : Nat) (xs : List Nat) (first s m : Nat) : Prop := (∃ x ∈ xs, 1 ≤ m ∧ m ≤ n ∧ Wlk T m x x ∧ ∀ k, 1 ≤ k → k < m → ¬ Wlk T k x x) ∨ (1 ≤ m ∧ m ≤ s ∧ Wlk T m first first ∧ ∀ k, 1 ≤ k → k < m → ¬ Wlk T k first first)
theorem sizesP_ok {T : List Pr} {n first : Nat} {xs : List Nat} : ∀ (k s : Nat) {L K : List Nat} {best : Option Nat}, Lay T first s L K → Least (Small T n xs first s) best → Least (Small T n xs first (s + k)) (sizesP T first k (s + 1) L K best)
  | 0, s, L, K, best, _, h => h
  | k + 1, s, L, K, best, q, h => by
    have e : s + (k + 1) = s + 1 + k := by omega
    rw [e]
    unfold sizesP
    refine sizesP_ok k (s + 1) q.step (least_more h fun m => ?_)
    have hl := q.step.l first
    constructor
    · rintro (z | ⟨z1, z2, z3, z4⟩)
      · exact .inl (.inl z)
      · by_cases c : m ≤ s
        · exact .inl (.inr ⟨z1, c, z3, z4⟩)
        · have em : m = s + 1 := by omega
          subst em
          exact .inr ⟨rfl, List.elem_iff.mpr (hl.mpr ⟨z3, z4⟩)⟩
    · rintro ((z | ⟨z1, z2, z3, z4⟩) | ⟨z1, z2⟩)
      · exact .inl z
      · exact .inr ⟨z1, by omega, z3, z4⟩
      · subst z1
        obtain ⟨g1, g2⟩ := hl.mp (List.elem_iff.mp z2)
        exact .inr ⟨by omega, Nat.le_refl _, g1, g2⟩
theorem shortL_ok {T : List Pr} {n : Nat} : ∀ (xs ys : List Nat) {best : Option Nat}, Least (Small T n ys 0 0) best → Least (Small T n (ys ++ xs) 0 0) (shortL T n xs best)
  | [], ys, best, h => by rw [List.append_nil]; exact h
  | x :: xs, ys, best, h => by
    have e : ys ++ x :: xs = (ys ++ [x]) ++ xs := by simp
    rw [e]
    unfold shortL
    refine shortL_ok xs (ys ++ [x]) ?_
    have g := sizesP_ok (n := n) (xs := ys) n 0 (lay_zero (T := T) (first := x)) (best := best) (by
      have eq : Small T n ys x 0 = Small T n ys 0 0 := by
        funext m
        refine propext ⟨?_, ?_⟩ <;> rintro (z | ⟨z1, z2, _⟩) <;> first | exact .inl z | omega
      rw [eq]
      exact h)
    have eq : Small T n (ys ++ [x]) 0 0 = Small T n ys x (0 + n) := by
      funext m
      refine propext ⟨?_, ?_⟩
      · rintro (⟨y, hy, z⟩ | ⟨z1, z2, _⟩)
        · rcases List.mem_append.mp hy with c | c
          · exact .inl ⟨y, c, z⟩
          · rw [List.mem_singleton.mp c] at z
            exact .inr ⟨z.1, by have := z.2.1; omega, z.2.2⟩
        · omega
      · rintro (⟨y, hy, z⟩ | ⟨z1, z2, z3⟩)
        · exact .inl ⟨y, List.mem_append_left _ hy, z⟩
        · exact .inl ⟨x, by simp, z1, by omega, z3⟩
    rw [eq]
    exact g
end K21
namespace K21
def barred (T : List Pr) (left : List Nat) : List Nat := addK [] ((T.filter fun p => left.elem p.1).map (·.2))
theorem mem_barred {T : List Pr} {left : List Nat} {x : Nat} : x ∈ barred T left ↔ ∃ i, i ∈ left ∧ (i, x) ∈ T := by
  unfold barred
  rw [mem_addK, List.mem_map]
  constructor
  · rintro (h | ⟨⟨a, b⟩, h, rfl⟩)
    · cases h
    · obtain ⟨h1, h2⟩ := List.mem_filter.mp h
      exact ⟨a, List.elem_iff.mp h2, h1⟩
  · rintro ⟨i, h1, h2⟩
    exact .inr ⟨(i, x), List.mem_filter.mpr ⟨h2, List.elem_iff.mpr h1⟩, rfl⟩
def frees (T : List Pr) (left : List Nat) : List Nat := left.filter fun k => !(barred T left).elem k
theorem mem_frees {T : List Pr} {left : List Nat} {x : Nat} : x ∈ frees T left ↔ x ∈ left ∧ ∀ i, i ∈ left → (i, x) ∉ T := by
  unfold frees
  rw [List.mem_filter, Bool.not_eq_true']
  constructor
  · rintro ⟨h1, h2⟩
    refine ⟨h1, fun i hi ht => ?_⟩
    rw [List.elem_iff.mpr (mem_barred.mpr ⟨i, hi, ht⟩)] at h2
    cases h2
  · rintro ⟨h1, h2⟩
    refine ⟨h1, ?_⟩
    cases e : (barred T left).elem x with
    | false => rfl
    | true =>
      obtain ⟨i, hi, ht⟩ := mem_barred.mp (List.elem_iff.mp e)
      exact absurd ht (h2 i hi)
def ordP (T : List Pr) : Nat → List Nat → List Nat → Option (Option (List Nat))
  | 0, _, _ => none
  | f + 1, left, found => if left = [] then some (some found) else match frees T left with
    | [] => some none
    | x :: _ => ordP T f (left.erase x) (found ++ [x])
structure Odr (T : List Pr) (n : Nat) (left found : List Nat) : Prop where
  nd : (found ++ left).Nodup
  mem : ∀ x, x ∈ found ++ left ↔ x < n
  pre : ∀ (k x : Nat), found[k]? = some x → ∀ i, (i, x) ∈ T → i < n → ∃ k' : Nat, k' < k ∧ found[k']? = some i
/-- a row of vertices, each with a road to the next -/
def Row (T : List Pr) : List Nat → Prop
  | a :: b :: r => (a, b) ∈ T ∧ Row T (b :: r)
  | _ => True
theorem row_walk {T : List Pr} : ∀ {r : List Nat} {a x : Nat}, Row T (a :: r) → x ∈ r → ∃ m, 1 ≤ m ∧ Wlk T m a x
  | b :: r, a, x, h, hx => by
    rcases List.mem_cons.mp hx with e | e
    · subst e
      exact ⟨1, Nat.le_refl _, .snoc .nil h.1⟩
    · obtain ⟨m, m1, hm⟩ := row_walk h.2 e
      refine ⟨1 + m, by omega, ?_⟩
      exact (Wlk.snoc (.nil (a := a)) h.1).trans hm
theorem row_loop {T : List Pr} : ∀ {r : List Nat}, Row T r → ¬ r.Nodup → ∃ x m, x ∈ r ∧ 1 ≤ m ∧ Wlk T m x x
  | [], _, h => absurd List.nodup_nil h
  | a :: r, h, hn => by
    by_cases c : a ∈ r
    · obtain ⟨m, m1, hm⟩ := row_walk h c
      exact ⟨a, m, List.mem_cons_self, m1, hm⟩
    · have hr : ¬ r.Nodup := fun z => hn (List.nodup_cons.mpr ⟨c, z⟩)
      have h' : Row T r := by
        cases r with
        | nil => exact True.intro
        | cons b r => exact h.2
      obtain ⟨x, m, hx, m1, hm⟩ := row_loop h' hr
      exact ⟨x, m, List.mem_cons_of_mem _ hx, m1, hm⟩
theorem row_long {T : List Pr} {left : List Nat} (h : ∀ x ∈ left, ∃ i, i ∈ left ∧ (i, x) ∈ T) {x : Nat} (hx : x ∈ left) : ∀ k, ∃ r, Row T r ∧ r.length = k + 1 ∧ ∀ y ∈ r, y ∈ left
  | 0 => ⟨[x], True.intro, rfl, fun y hy => by rw [List.mem_singleton.mp hy]; exact hx⟩
  | k + 1 => by
    obtain ⟨r, h1, h2, h3⟩ := row_long h hx k
    cases r with
    | nil => simp at h2
    | cons a r =>
      obtain ⟨i, hi, ht⟩ := h a (h3 a List.mem_cons_self)
      refine ⟨i :: a :: r, ⟨ht, h1⟩, by rw [List.length_cons, h2], fun y hy => ?_⟩
      rcases List.mem_cons.mp hy with z | z
      · rw [z]; exact hi
      · exact h3 y z
theorem loop_of {T : List Pr} {left : List Nat} {n : Nat} (hl : ∀ x ∈ left, x < n) (h : ∀ x ∈ left, ∃ i, i ∈ left ∧ (i, x) ∈ T) {x : Nat} (hx : x ∈ left) : ∃ y m, y < n ∧ 1 ≤ m ∧ Wlk T m y y := by
  obtain ⟨r, h1, h2, h3⟩ := row_long h hx n
  have nd : ¬ r.Nodup := fun z => by
    have := nodup_le z fun y hy => hl y (h3 y hy)
    omega
  obtain ⟨y, m, hy, m1, hm⟩ := row_loop h1 nd
  exact ⟨y, m, hl y (h3 y hy), m1, hm⟩
theorem ordP_ok {T : List Pr} {n : Nat} (hn : n < 64) : ∀ (f : Nat) {left found : List Nat}, Odr T n left found → left.length < f →
    (∃ o, ordP T f left found = some (some o) ∧ Odr T n [] o) ∨ (ordP T f left found = some none ∧ ∃ y m, y < n ∧ 1 ≤ m ∧ Wlk T m y y)
  | 0, left, found, _, h => absurd h (Nat.not_lt_zero _)
  | f + 1, left, found, q, h => by
    unfold ordP
    by_cases c : left = []
    · rw [if_pos c]
      subst c
      exact .inl ⟨found, rfl, q⟩
    · rw [if_neg c]
      cases e : frees T left with
      | nil =>
        refine .inr ⟨rfl, ?_⟩
        obtain ⟨x, hx⟩ := List.exists_mem_of_ne_nil left c
        refine loop_of (fun y hy => (q.mem y).mp (List.mem_append_right _ hy)) (fun y hy => ?_) hx
        by_cases z : ∃ i, i ∈ left ∧ (i, y) ∈ T
        · exact z
        · have : y ∈ frees T left := mem_frees.mpr ⟨hy, fun i hi ht => z ⟨i, hi, ht⟩⟩
          rw [e] at this
          cases this
      | cons x r =>
        have hx : x ∈ frees T left := by rw [e]; exact List.mem_cons_self
        obtain ⟨h1, h2⟩ := mem_frees.mp hx
        have p := List.perm_cons_erase h1
        have pp : (found ++ [x] ++ left.erase x).Perm (found ++ left) := by
          rw [List.append_assoc]
          exact List.Perm.append_left _ p.symm
        refine ordP_ok hn f ⟨pp.nodup_iff.mpr q.nd, fun y => (pp.mem_iff).trans (q.mem y), fun k y hk i ht hi => ?_⟩ ?_
        · by_cases ck : k < found.length
          · rw [List.getElem?_append_left ck] at hk
            obtain ⟨k', g1, g2⟩ := q.pre k y hk i ht hi
            exact ⟨k', g1, by rw [List.getElem?_append_left (by omega)]; exact g2⟩
          · have ek : k = found.length := by
              have := (List.getElem?_eq_some_iff.mp hk).1
              rw [List.length_append, List.length_singleton] at this
              omega
            subst ek
            rw [List.getElem?_append_right (Nat.le_refl _), Nat.sub_self] at hk
            have hk : x = y := Option.some.inj hk
            subst hk
            have hi' : i ∈ found := by
              rcases List.mem_append.mp ((q.mem i).mpr hi) with z | z
              · exact z
              · exact absurd ht (h2 i z)
            obtain ⟨k', g⟩ := List.mem_iff_getElem?.mp hi'
            have gl := (List.getElem?_eq_some_iff.mp g).1
            exact ⟨k', gl, by rw [List.getElem?_append_left gl]; exact g⟩
        · have := p.length_eq
          rw [List.length_cons] at this
          omega
/-- an order that is there allows no ring -/
theorem ord_rank {T : List Pr} {n : Nat} {o : List Nat} (hT : ∀ e ∈ T, e.1 < n ∧ e.2 < n) (q : Odr T n [] o) {a : Nat} : ∀ m x, Wlk T m a x → ∀ k j : Nat, o[k]? = some a → o[j]? = some x → k + m ≤ j := by
  have uniq : ∀ {i j x : Nat}, o[i]? = some x → o[j]? = some x → i = j := by
    intro i j x h1 h2
    have nd : o.Nodup := by simpa using q.nd
    exact (List.getElem?_inj (List.getElem?_eq_some_iff.mp h1).1 nd).mp (h1.trans h2.symm)
  refine Wlk.ind (fun k j hk hj => Nat.le_of_eq (uniq hk hj)) fun m x y ih e k j hk hj => ?_
  obtain ⟨e1, e2⟩ := hT _ e
  obtain ⟨j', g1, g2⟩ := q.pre j y hj x e e1
  have := ih k j' hk g2
  omega
theorem ord_none {T : List Pr} {n : Nat} {o : List Nat} (hT : ∀ e ∈ T, e.1 < n ∧ e.2 < n) (q : Odr T n [] o) {a m : Nat} (ha : a < n) (hm : 1 ≤ m) : ¬ Wlk T m a a := by
  intro h
  have : a ∈ o := by simpa using (q.mem a).mpr ha
  obtain ⟨k, hk⟩ := List.mem_iff_getElem?.mp this
  have := ord_rank hT q m a h k k hk hk
  omega
/-- a closed road has a shortest one from the same vertex -/
theorem shorter {T : List Pr} {x : Nat} : ∀ m, 1 ≤ m → Wlk T m x x → ∃ k, 1 ≤ k ∧ k ≤ m ∧ Wlk T k x x ∧ ∀ j, 1 ≤ j → j < k → ¬ Wlk T j x x := by
  intro m
  induction m using Nat.strongRecOn with
  | ind m ih =>
    intro m1 hm
    by_cases c : ∃ j, 1 ≤ j ∧ j < m ∧ Wlk T j x x
    · obtain ⟨j, j1, j2, hj⟩ := c
      obtain ⟨k, k1, k2, k3, k4⟩ := ih j j2 j1 hj
      exact ⟨k, k1, by omega, k3, k4⟩
    · exact ⟨m, m1, Nat.le_refl _, hm, fun j j1 j2 hj => c ⟨j, j1, j2, hj⟩⟩
structure Told (T : List Pr) (n : Nat) (best : Option Nat) (ring order : Option (List Nat)) : Prop where
  tr : ring = none ↔ best = none
  to : order = none ↔ best ≠ none
  sm : ∀ w, ring = some w → some w.length = best ∧ w.Nodup ∧ (∀ x ∈ w, x < n) ∧ ∀ k, k < w.length → ∃ x y, w[k]? = some x ∧ w[(k + 1) % w.length]? = some y ∧ (x, y) ∈ T
  al : ∀ o, order = some o → o.Nodup ∧ (∀ x, x ∈ o ↔ x < n) ∧ ∀ i j, (i, j) ∈ T → ∃ k l : Nat, o[k]? = some i ∧ o[l]? = some j ∧ k < l
theorem told {T : List Pr} {n : Nat} (hT : ∀ e ∈ T, e.1 < n ∧ e.2 < n) (hn : n < 60) : ∃ ring order, ringL (fun x => bfs (succs T) x 64 [] [x] 0) (List.range n) none = some ring ∧ ordP T 64 (List.range n) [] = some order ∧ Told T n (shortL T n (List.range n) none) ring order := by
  obtain ⟨r, er, hr⟩ := ringL_ok (T := T) (n := n) (fun e he => (hT e he).2) (by omega) (List.range n) [] (found := none) (fun x hx => List.mem_range.mp hx) (fun x hx => by cases hx)
  rw [List.nil_append] at hr
  have hs := shortL_ok (T := T) (n := n) (List.range n) [] (best := none) (fun m hm => by
    rcases hm with ⟨x, hx, _⟩ | ⟨h1, h2, _⟩
    · cases hx
    · omega)
  rw [List.nil_append] at hs
  have ho := ordP_ok (T := T) (n := n) (by omega) 64 (left := List.range n) (found := []) ⟨by simpa using List.nodup_range, fun x => by simp, fun k x hk => by simp at hk⟩ (by simp; omega)
  revert hs
  generalize shortL T n (List.range n) none = best
  intro hs
  -- no closed road at all, or the least one
  have small : ∀ y m, y < n → 1 ≤ m → Wlk T m y y → ∃ b, best = some b ∧ b ≤ m := by
    intro y m hy m1 hm
    obtain ⟨k, k1, k2, k3, k4⟩ := shorter m m1 hm
    -- its length is at most n, by the ring that is found
    have kn : k ≤ n := by
      rcases bfs_first (T := T) (n := n) (first := y) (fun e he => (hT e he).2) (by omega) hy with ⟨_, q⟩ | ⟨l, _, q⟩
      · exact absurd k3 (q k k1)
      · have h1 := nodup_le q.nd q.bnd
        have h0 : 1 ≤ l.length := by
          have := q.ne
          cases l with
          | nil => exact absurd rfl this
          | cons _ _ => simp
        have h2 := q.cl
        by_cases c : l.length < k
        · exact absurd h2 (k4 _ h0 c)
        · omega
    have hp : Small T n (List.range n) 0 0 k := .inl ⟨y, List.mem_range.mpr hy, k1, kn, k3, k4⟩
    cases best with
    | none => exact absurd hp (hs k)
    | some b => exact ⟨b, rfl, Nat.le_trans (hs.2 k hp) k2⟩
  have there : ∀ b, best = some b → ∃ y, y < n ∧ 1 ≤ b ∧ Wlk T b y y := by
    intro b e
    subst e
    rcases hs.1 with ⟨x, hx, h1, _, h3, _⟩ | ⟨h1, h2, _⟩
    · exact ⟨x, List.mem_range.mp hx, h1, h3⟩
    · omega
  have len1 : ∀ {x : Nat} {w : List Nat}, RingOf T n x w → 1 ≤ w.length := by
    intro x w q
    have := q.ne
    cases w with
    | nil => exact absurd rfl this
    | cons _ _ => simp
  obtain ⟨order, eo, hor⟩ : ∃ order, ordP T 64 (List.range n) [] = some order ∧ ((∃ o, order = some o ∧ Odr T n [] o) ∨ (order = none ∧ ∃ y m, y < n ∧ 1 ≤ m ∧ Wlk T m y y)) := by
    rcases ho with ⟨o, e, q⟩ | ⟨e, q⟩
    · exact ⟨_, e, .inl ⟨o, rfl, q⟩⟩
    · exact ⟨_, e, .inr ⟨rfl, q⟩⟩
  refine ⟨r, order, er, eo, ⟨?_, ?_, fun w ew => ?_, fun o eo' => ?_⟩⟩
  · constructor
    · intro e
      subst e
      cases best with
      | none => rfl
      | some b =>
        obtain ⟨y, hy, b1, hb⟩ := there b rfl
        exact absurd hb (hr y (List.mem_range.mpr hy) b b1)
    · intro e
      cases r with
      | none => rfl
      | some w =>
        obtain ⟨⟨x, hx, q⟩, _⟩ := hr
        obtain ⟨b, eb, _⟩ := small x w.length (List.mem_range.mp hx) (len1 q) q.cl
        rw [e] at eb
        cases eb
  · constructor
    · intro e hb
      subst e
      rcases hor with ⟨o, e, _⟩ | ⟨_, y, m, hy, m1, hm⟩
      · cases e
      · obtain ⟨b, eb, _⟩ := small y m hy m1 hm
        rw [hb] at eb
        cases eb
    · intro hb
      rcases hor with ⟨o, e, q⟩ | ⟨e, _⟩
      · cases best with
        | none => exact absurd rfl hb
        | some b =>
          obtain ⟨y, hy, b1, h⟩ := there b rfl
          exact absurd h (ord_none hT q hy b1)
      · exact e
  · subst ew
    obtain ⟨⟨x, hx, q⟩, hmin⟩ := hr
    refine ⟨?_, q.nd, q.bnd, q.cyc⟩
    obtain ⟨b, eb, hb⟩ := small x w.length (List.mem_range.mp hx) (len1 q) q.cl
    obtain ⟨y, hy, b1, h⟩ := there b eb
    have := hmin y (List.mem_range.mpr hy) b b1 h
    rw [eb]
    congr 1
    omega
  · subst eo'
    rcases hor with ⟨o', e, q⟩ | ⟨e, _⟩
    · cases e
      refine ⟨by simpa using q.nd, fun x => by simpa using q.mem x, fun i j hij => ?_⟩
      obtain ⟨hi, hj⟩ := hT _ hij
      have : j ∈ o := by simpa using (q.mem j).mpr hj
      obtain ⟨l, hl⟩ := List.mem_iff_getElem?.mp this
      obtain ⟨k, k1, k2⟩ := q.pre l j hl i hij hi
      exact ⟨k, l, k2, hl, k1⟩
    · cases e
end K21
namespace K21
open PySem L2 PyProof.Rows VL
def nI (k : Nat) : D := .int (k : Nat)
def kI (k : Nat) : Key := .inl (k : Nat)
def prD (p : Pr) : D := .tup [nI p.1, nI p.2]
/-- a dict that holds numbers only -/
def dkB (K : List Nat) : Cell := .dk (K.map kI) (K.map fun _ => .bl true)
theorem inD_nI {i : Nat} : ∀ (L : List Nat), inD (nI i) (L.map nI) = L.elem i
  | [] => rfl
  | x :: L => by
    have ih := inD_nI (i := i) L
    unfold inD at ih ⊢
    rw [List.map_cons, List.any_cons, ih]
    show (((x : Nat) : Int) == ((i : Nat) : Int) || _) = _
    rw [List.elem_cons]
    by_cases c : i = x
    · subst c; simp
    · have h1 : (((x : Nat) : Int) == ((i : Nat) : Int)) = false := beq_eq_false_iff_ne.mpr fun e => c (by omega)
      have h2 : (i == x) = false := beq_eq_false_iff_ne.mpr c
      rw [h1, h2]
      rfl
theorem flat_nI : ∀ (L : List Nat), (L.map nI).all flatD = true
  | [] => rfl
  | x :: L => by rw [List.map_cons, List.all_cons, flat_nI L]; rfl
theorem in_ints {neg : Bool} {cs : List Cell} {i : Nat} {L : List Nat} : gIn neg cs (nI i) (.lst (L.map nI)) = .ok (.bl (if neg then !L.elem i else L.elem i)) cs := by
  show (match seqOf cs (.lst (L.map nI)) with
    | some ds => if flatD (nI i) && ds.all flatD then Out.ok (D.bl (if neg then !inD (nI i) ds else inD (nI i) ds)) cs else .no
    | none => .no) = _
  show (if flatD (nI i) && (L.map nI).all flatD then Out.ok (D.bl (if neg then !inD (nI i) (L.map nI) else inD (nI i) (L.map nI))) cs else .no) = _
  rw [flat_nI, inD_nI]
  rfl
theorem sameKI {a b : Nat} : sameKey (kI a) (kI b) = (a == b) := by
  show (((a : Nat) : Int) == ((b : Nat) : Int)) = _
  by_cases c : a = b
  · subst c; simp
  · rw [beq_eq_false_iff_ne.mpr c, beq_eq_false_iff_ne.mpr fun e => c (by omega)]
theorem look_dkB {j : Nat} : ∀ (K : List Nat), (lookK (kI j) (K.map kI) (K.map fun _ => D.bl true)).isSome = K.elem j
  | [] => rfl
  | x :: K => by
    rw [List.map_cons, List.map_cons]
    unfold lookK
    rw [sameKI, List.elem_cons]
    by_cases c : x = j
    · subst c; simp
    · have h1 : (x == j) = false := beq_eq_false_iff_ne.mpr c
      have h2 : (j == x) = false := beq_eq_false_iff_ne.mpr fun e => c e.symm
      rw [h1, h2, if_neg (by decide), look_dkB K]
theorem inD_dkB {neg : Bool} {cs : List Cell} {m j : Nat} {K : List Nat} (h : cs[m]? = some (dkB K)) : gInD neg cs (nI j) (.loc m) = .ok (.bl (if neg then !K.elem j else K.elem j)) cs := by
  unfold gInD
  have e : dctOf cs (.loc m) = some (K.map kI, K.map fun _ => D.bl true) := by
    unfold dctOf
    simp only [h]
    rfl
  rw [e]
  show Out.ok (D.bl (if neg then !(lookK (kI j) (K.map kI) (K.map fun _ => D.bl true)).isSome else (lookK (kI j) (K.map kI) (K.map fun _ => D.bl true)).isSome)) cs = _
  rw [look_dkB]
theorem inD_dct {neg : Bool} {cs : List Cell} {j : Nat} {K : List Nat} : gInD neg cs (nI j) (.dct (K.map kI) (K.map fun _ => D.bl true)) = .ok (.bl (if neg then !K.elem j else K.elem j)) cs := by
  show Out.ok (D.bl (if neg then !(lookK (kI j) (K.map kI) (K.map fun _ => D.bl true)).isSome else (lookK (kI j) (K.map kI) (K.map fun _ => D.bl true)).isSome)) cs = _
  rw [look_dkB]
/-- one key more -/
def addK1 (K : List Nat) (x : Nat) : List Nat := if K.elem x then K else K ++ [x]
theorem setK_bl {x : Nat} : ∀ (K : List Nat), setK (kI x) (.bl true) (K.map kI) (K.map fun _ => D.bl true) = K.map fun _ => D.bl true
  | [] => rfl
  | y :: K => by
    rw [List.map_cons, List.map_cons]
    unfold setK
    rw [setK_bl K]
    by_cases c : sameKey (kI y) (kI x) = true
    · rw [if_pos c]
    · rw [if_neg c]
theorem any_kI {x : Nat} : ∀ (K : List Nat), ((K.map kI).any fun j => sameKey j (kI x)) = K.elem x
  | [] => rfl
  | y :: K => by
    rw [List.map_cons, List.any_cons, any_kI K, sameKI, List.elem_cons]
    by_cases c : y = x
    · subst c; simp
    · rw [beq_eq_false_iff_ne.mpr c, beq_eq_false_iff_ne.mpr fun e => c e.symm]
      rfl
theorem put_dkB {K : List Nat} {x : Nat} : putKD (kI x) (.bl true) (K.map kI) (K.map fun _ => D.bl true) = ((addK1 K x).map kI, (addK1 K x).map fun _ => D.bl true) := by
  unfold putKD addK1
  rw [any_kI]
  by_cases c : K.elem x = true
  · rw [if_pos c, if_pos c, setK_bl]
  · rw [if_neg c, if_neg c, List.map_append, List.map_append]
    rfl
theorem mergeD_B : ∀ (xs K : List Nat), mergeD (xs.map fun x => (kI x, D.bl true)) (K.map kI, K.map fun _ => D.bl true) = ((addK K xs).map kI, (addK K xs).map fun _ => D.bl true)
  | [], K => rfl
  | x :: xs, K => by
    show mergeD (xs.map fun x => (kI x, D.bl true)) (putKD (kI x) (.bl true) (K.map kI) (K.map fun _ => D.bl true)) = _
    rw [put_dkB, mergeD_B xs]
    rfl
theorem pairsD_B : ∀ (xs : List Nat), pairsD (xs.map fun x => D.tup [nI x, .bl true]) = some (xs.map fun x => (kI x, D.bl true))
  | [] => rfl
  | x :: xs => by
    rw [List.map_cons]
    show (match keyD (nI x), pairsD (xs.map fun x => D.tup [nI x, .bl true]) with
      | some j, some l => some ((j, D.bl true) :: l)
      | _, _ => none) = _
    rw [pairsD_B xs]
    rfl
theorem dict_B {cs : List Cell} {xs : List Nat} : hDict cs [.lst (xs.map fun x => D.tup [nI x, .bl true])] = .ok (.dct ((addK [] xs).map kI) ((addK [] xs).map fun _ => D.bl true)) cs := by
  have e : dictD (xs.map fun x => D.tup [nI x, .bl true]) = some ((addK [] xs).map kI, (addK [] xs).map fun _ => D.bl true) := by
    unfold dictD
    rw [pairsD_B]
    show some (mergeD (xs.map fun x => (kI x, D.bl true)) (([] : List Nat).map kI, ([] : List Nat).map fun _ => D.bl true)) = _
    rw [mergeD_B]
  show (match lstOf cs (.lst (xs.map fun x => D.tup [nI x, .bl true])) with
    | some xs => (match dictD xs with
      | some (ks, es) => Out.ok (D.dct ks es) cs
      | none => .no)
    | none => .no) = _
  show (match dictD (xs.map fun x => D.tup [nI x, .bl true]) with
      | some (ks, es) => Out.ok (D.dct ks es) cs
      | none => .no) = _
  rw [e]
theorem addK_app : ∀ (xs ys K : List Nat), addK K (xs ++ ys) = addK (addK K xs) ys
  | [], _, _ => rfl
  | x :: xs, ys, K => addK_app xs ys (addK1 K x)
theorem addK_addK : ∀ (xs A K : List Nat), addK K (addK A xs) = addK (addK K A) xs
  | [], _, _ => rfl
  | x :: xs, A, K => by
    show addK K (addK (addK1 A x) xs) = addK (addK1 (addK K A) x) xs
    rw [addK_addK xs]
    congr 1
    unfold addK1
    by_cases c : A.elem x = true
    · rw [if_pos c]
      have : (addK K A).elem x = true := List.elem_iff.mpr (mem_addK.mpr (.inr (List.elem_iff.mp c)))
      rw [if_pos this]
    · rw [if_neg c, addK_app]
      rfl
theorem zip_B : ∀ (xs : List Nat), (xs.map kI).zip (xs.map fun _ => D.bl true) = xs.map fun x => (kI x, D.bl true)
  | [] => rfl
  | x :: xs => by rw [List.map_cons, List.map_cons, List.zip_cons_cons, zip_B xs]; rfl
theorem at_snoc {cs : List Cell} {c : Cell} : (cs ++ [c])[cs.length]? = some c := by
  rw [List.getElem?_append_right (Nat.le_refl _), Nat.sub_self]; rfl
theorem set_snoc {cs : List Cell} {c d : Cell} : (cs ++ [c]).set cs.length d = cs ++ [d] := by
  rw [List.set_append_right _ _ (Nat.le_refl _), Nat.sub_self]; rfl
theorem upd_B {env : List (Option D)} {fo fe : Ex} {cs : List Cell} {K xs : List Nat} (h1 : fo ⟨env, cs ++ [dkB K]⟩ = .ok (.loc cs.length) (cs ++ [dkB K])) (h2 : fe ⟨env, cs ++ [dkB K]⟩ = .ok (.dct ((addK [] xs).map kI) ((addK [] xs).map fun _ => D.bl true)) (cs ++ [dkB K])) (hl : K.length + (addK [] xs).length ≤ 16777216) :
    eUpdK fo fe ⟨env, cs ++ [dkB K]⟩ = .ok .non (cs ++ [dkB (addK K xs)]) := by
  have e : dkAt (cs ++ [dkB K]) (.loc cs.length) = some (cs.length, K.map kI, K.map fun _ => D.bl true) := by
    unfold dkAt
    simp only [at_snoc]
    rfl
  unfold eUpdK
  rw [h1]
  show (match dkAt (cs ++ [dkB K]) (.loc cs.length) with
    | some _ => (fe ⟨env, cs ++ [dkB K]⟩).bind fun y c2 => _
    | none => Out.no) = _
  rw [e]
  show (fe ⟨env, cs ++ [dkB K]⟩).bind _ = _
  rw [h2]
  show (match dkAt (cs ++ [dkB K]) (.loc cs.length), some ((addK [] xs).map kI, (addK [] xs).map fun _ => D.bl true) with
    | some (n, ks, ds), some (js, es) => if _ then Out.ok D.non _ else .no
    | _, _ => .no) = _
  rw [e]
  dsimp only
  rw [if_pos ⟨rfl, by simpa using hl⟩, zip_B, mergeD_B, set_snoc, addK_addK]
  rfl
end K21
namespace K21
open PySem L2 PyProof.Rows VL
def upD : Nat → Nat → List D
  | _, 0 => []
  | s, k + 1 => nI s :: upD (s + 1) k
theorem upD_range : ∀ (k s : Nat), rangeD (s : Nat) k = upD s k
  | 0, s => rfl
  | k + 1, s => by
    show (List.range (k + 1)).map (fun i : Nat => D.int ((s : Nat) + (i : Nat))) = nI s :: upD (s + 1) k
    rw [List.range_succ_eq_map, List.map_cons, List.map_map, ← upD_range k (s + 1)]
    refine List.cons_eq_cons.mpr ⟨?_, List.map_congr_left fun a _ => ?_⟩
    · show D.int ((s : Nat) + ((0 : Nat) : Int)) = D.int (s : Nat)
      rw [show ((s : Nat) : Int) + ((0 : Nat) : Int) = (s : Nat) by omega]
    · show D.int (((s : Nat) : Int) + ((a + 1 : Nat) : Int)) = D.int (((s + 1 : Nat) : Int) + (a : Nat))
      rw [show ((s : Nat) : Int) + ((a + 1 : Nat) : Int) = ((s + 1 : Nat) : Int) + (a : Nat) by omega]
def optN : Option Nat → D
  | none => .non
  | some b => nI b
theorem lowB : ∀ (Ks : List (List Nat)) (m : Nat), (Ks.map dkB).all (belowC m) = true
  | [], m => rfl
  | K :: Ks, m => by
    rw [List.map_cons, List.all_cons, lowB Ks m, Bool.and_true]
    show belows m (K.map fun _ => D.bl true) = true
    exact belows_of fun x hx => by
      obtain ⟨_, _, rfl⟩ := List.mem_map.mp hx
      rfl
abbrev eS (T : List Pr) (n : Nat) (best : Option Nat) (first : Option D) (lay known size : Option D) : List (Option D) := [some (.lst (T.map prD)), some (nI n), some (optN best), first, lay, known, size, none, none]
theorem layer_len {T : List Pr} {L K : List Nat} : (layer T L K).length ≤ T.length := by
  unfold layer
  rw [List.length_map]
  exact List.length_filter_le _ _
theorem addK_len : ∀ (xs K : List Nat), (addK K xs).length ≤ K.length + xs.length
  | [], K => Nat.le_refl _
  | x :: xs, K => by
    have := addK_len xs (addK1 K x)
    have h : (addK1 K x).length ≤ K.length + 1 := by
      unfold addK1
      by_cases c : K.elem x = true
      · rw [if_pos c]; omega
      · rw [if_neg c, List.length_append]; simp
    show (addK (addK1 K x) xs).length ≤ _
    rw [List.length_cons]
    omega
/-- the next layer, as the law reckons it -/
theorem lc_layer {T : List Pr} {n : Nat} {best : Option Nat} {first size : Option D} {L K : List Nat} {Ks : List (List Nat)} (hT : T.length < 16777216) :
    eLc (iL (eVar 0)) (gTp 2 (gsCons (gNm 7) (gsCons (gNm 8) gsNil))) (tAnd' (tCmp' (gIn false) (eVar 7) (eVar 4)) (tCmp' (gInD true) (eVar 8) (eVar 5))) (eVar 8) [7, 8] ⟨eS T n best first (some (.lst (L.map nI))) (some (.loc Ks.length)) size, Ks.map dkB ++ [dkB K]⟩ = .ok (.lst ((layer T L K).map nI)) (Ks.map dkB ++ [dkB K]) := by
  have low : (Ks.map dkB ++ [dkB K]).all (belowC (Ks.map dkB ++ [dkB K]).length) = true := by
    have := lowB (Ks ++ [K]) (Ks.map dkB ++ [dkB K]).length
    rwa [List.map_append] at this
  have := ev_eLc (xs := T) (fD := prD) (kp := keepAll) (c1 := Ks.map dkB ++ [dkB K]) (src := iL (eVar 0)) (g := gTp 2 (gsCons (gNm 7) (gsCons (gNm 8) gsNil))) (t := tAnd' (tCmp' (gIn false) (eVar 7) (eVar 4)) (tCmp' (gInD true) (eVar 8) (eVar 5))) (f := eVar 8) (vs := [7, 8])
    (st := ⟨eS T n best first (some (.lst (L.map nI))) (some (.loc Ks.length)) size, Ks.map dkB ++ [dkB K]⟩) (fun p => L.elem p.1 && !K.elem p.2) (fun p => nI p.2) rfl (fun _ => rfl) hT low (fun _ _ _ => rfl) (fun p _ acc _ => by
      refine ⟨[some (.lst (T.map prD)), some (nI n), some (optN best), first, some (.lst (L.map nI)), some (.loc Ks.length), size, some (nI p.1), some (nI p.2)], rfl, ?_, fun _ => rfl⟩
      have e1 : tCmp' (gIn false) (eVar 7) (eVar 4) ⟨[some (.lst (T.map prD)), some (nI n), some (optN best), first, some (.lst (L.map nI)), some (.loc Ks.length), size, some (nI p.1), some (nI p.2)], Ks.map dkB ++ [dkB K] ++ [.lst acc]⟩ = .ok (L.elem p.1) (Ks.map dkB ++ [dkB K] ++ [.lst acc]) := ev_tCmp (ev_eOp rfl rfl in_ints)
      have hc : (Ks.map dkB ++ [dkB K] ++ [Cell.lst acc])[Ks.length]? = some (dkB K) := by
        rw [List.getElem?_append_left (by simp)]
        have := at_snoc (cs := Ks.map dkB) (c := dkB K)
        rwa [List.length_map] at this
      have e2 : tCmp' (gInD true) (eVar 8) (eVar 5) ⟨[some (.lst (T.map prD)), some (nI n), some (optN best), first, some (.lst (L.map nI)), some (.loc Ks.length), size, some (nI p.1), some (nI p.2)], Ks.map dkB ++ [dkB K] ++ [.lst acc]⟩ = .ok (!K.elem p.2) (Ks.map dkB ++ [dkB K] ++ [.lst acc]) := ev_tCmp (ev_eOp rfl rfl (inD_dkB hc))
      cases c : L.elem p.1 with
      | true =>
        rw [c] at e1
        rw [Bool.true_and]
        exact ev_tAndT e1 e2
      | false =>
        rw [c] at e1
        exact ev_tAndF e1)
  rw [this]
  show Out.ok (D.lst _) _ = Out.ok (D.lst _) _
  unfold layer
  rw [List.map_map]
  rfl
theorem lc_pairs {T : List Pr} {n : Nat} {best : Option Nat} {first size : Option D} {xs K : List Nat} {Ks : List (List Nat)} (hx : xs.length < 16777216) :
    eLc (iL (eVar 4)) (gNm 8) tTrue (eTup (aCons (eVar 8) (aCons (eC (.bl true)) aNil))) [8] ⟨eS T n best first (some (.lst (xs.map nI))) (some (.loc Ks.length)) size, Ks.map dkB ++ [dkB K]⟩ = .ok (.lst (xs.map fun x => D.tup [nI x, .bl true])) (Ks.map dkB ++ [dkB K]) := by
  have low : (Ks.map dkB ++ [dkB K]).all (belowC (Ks.map dkB ++ [dkB K]).length) = true := by
    have := lowB (Ks ++ [K]) (Ks.map dkB ++ [dkB K]).length
    rwa [List.map_append] at this
  have := ev_eLc (xs := xs) (fD := nI) (kp := keepAll) (c1 := Ks.map dkB ++ [dkB K]) (src := iL (eVar 4)) (g := gNm 8) (t := tTrue) (f := eTup (aCons (eVar 8) (aCons (eC (.bl true)) aNil))) (vs := [8])
    (st := ⟨eS T n best first (some (.lst (xs.map nI))) (some (.loc Ks.length)) size, Ks.map dkB ++ [dkB K]⟩) (fun _ => true) (fun x => D.tup [nI x, .bl true]) rfl (fun _ => rfl) hx low (fun _ _ _ => rfl) (fun x _ acc _ => ⟨_, rfl, rfl, fun _ => rfl⟩)
  rw [this]
  rw [List.filter_eq_self.mpr fun _ _ => rfl]
theorem sizes_read {T : List Pr} {n x : Nat} (hT : T.length ≤ 1000) {Ks : List (List Nat)} : ∀ (k s : Nat) {L K : List Nat} {best : Option Nat} {size : Option D}, K.length + k * 1000 ≤ 100000 → L.length ≤ 1000 →
    ∃ (L' K' : List Nat) (size' : Option D), forL (gNm 6) (sSeq (sAsg (eLc (iL (eVar 0)) (gTp 2 (gsCons (gNm 7) (gsCons (gNm 8) gsNil))) (tAnd' (tCmp' (gIn false) (eVar 7) (eVar 4)) (tCmp' (gInD true) (eVar 8) (eVar 5))) (eVar 8) [7, 8]) (gNm 4))
    (sSeq (sExpr (eUpdK (eVar 5) (eB hDict (aCons (eLc (iL (eVar 4)) (gNm 8) tTrue (eTup (aCons (eVar 8) (aCons (eC (.bl true)) aNil))) [8]) aNil))))
    (sIf (tAnd' (tCmp' (gIn false) (eVar 3) (eVar 4)) (tOr' (tCmp' (gIs false) (eVar 2) (eC .non)) (tCmp' gLt (eVar 6) (eVar 2)))) (sAsg (eVar 6) (gNm 2)) sNil))) keepAll (upD s k) ⟨eS T n best (some (nI x)) (some (.lst (L.map nI))) (some (.loc Ks.length)) size, Ks.map dkB ++ [dkB K]⟩
      = .nx ⟨eS T n (sizesP T x k s L K best) (some (nI x)) (some (.lst (L'.map nI))) (some (.loc Ks.length)) size', Ks.map dkB ++ [dkB K']⟩
  | 0, s, L, K, best, size, _, _ => ⟨L, K, size, ev_forNil rfl⟩
  | k + 1, s, L, K, best, size, h1, h2 => by
    have hl := layer_len (T := T) (L := L) (K := K)
    have ha := addK_len (layer T L K) []
    have ha2 := addK_len (layer T L K) K
    simp only [List.length_nil] at ha
    obtain ⟨L', K', size', ih⟩ := sizes_read (x := x) (Ks := Ks) hT k (s + 1) (L := layer T L K) (K := addK K (layer T L K)) (best := if (layer T L K).elem x && less s best then some s else best) (size := some (nI s)) (by omega) (by omega)
    refine ⟨L', K', size', ?_⟩
    refine ev_forNx (st1 := ⟨eS T n best (some (nI x)) (some (.lst (L.map nI))) (some (.loc Ks.length)) (some (nI s)), Ks.map dkB ++ [dkB K]⟩) (st2 := ⟨eS T n (if (layer T L K).elem x && less s best then some s else best) (some (nI x)) (some (.lst ((layer T L K).map nI))) (some (.loc Ks.length)) (some (nI s)), Ks.map dkB ++ [dkB (addK K (layer T L K))]⟩) rfl rfl ?_ ih
    refine ev_sSeq (ev_sAsg (lc_layer (by omega)) rfl) ?_
    refine ev_sSeq (st1 := ⟨eS T n best (some (nI x)) (some (.lst ((layer T L K).map nI))) (some (.loc Ks.length)) (some (nI s)), Ks.map dkB ++ [dkB (addK K (layer T L K))]⟩) ?_ ?_
    · refine ev_sExpr (d := .non) ?_
      have := upd_B (env := eS T n best (some (nI x)) (some (.lst ((layer T L K).map nI))) (some (.loc Ks.length)) (some (nI s))) (fo := eVar 5) (fe := eB hDict (aCons (eLc (iL (eVar 4)) (gNm 8) tTrue (eTup (aCons (eVar 8) (aCons (eC (.bl true)) aNil))) [8]) aNil)) (cs := Ks.map dkB) (K := K) (xs := layer T L K) (by rw [List.length_map]; rfl) (ev_eB (ev_aCons (lc_pairs (by omega)) rfl) dict_B) (by omega)
      exact this
    · have e1 : tCmp' (gIn false) (eVar 3) (eVar 4) ⟨eS T n best (some (nI x)) (some (.lst ((layer T L K).map nI))) (some (.loc Ks.length)) (some (nI s)), Ks.map dkB ++ [dkB (addK K (layer T L K))]⟩ = .ok ((layer T L K).elem x) (Ks.map dkB ++ [dkB (addK K (layer T L K))]) := ev_tCmp (ev_eOp rfl rfl in_ints)
      cases c : (layer T L K).elem x with
      | false =>
        rw [c] at e1
        rw [Bool.false_and, if_neg (by decide)]
        exact ev_sIfF (ev_tAndF e1) rfl
      | true =>
        rw [c] at e1
        rw [Bool.true_and]
        cases best with
        | none =>
          rw [if_pos (show less s none = true from rfl)]
          exact ev_sIfT (ev_tAndT e1 rfl) rfl
        | some b =>
          have e2 : tOr' (tCmp' (gIs false) (eVar 2) (eC .non)) (tCmp' gLt (eVar 6) (eVar 2)) ⟨eS T n (some b) (some (nI x)) (some (.lst ((layer T L K).map nI))) (some (.loc Ks.length)) (some (nI s)), Ks.map dkB ++ [dkB (addK K (layer T L K))]⟩ = .ok (less s (some b)) (Ks.map dkB ++ [dkB (addK K (layer T L K))]) := by
            show Out.ok (decide (((s : Nat) : Int) < ((b : Nat) : Int))) _ = _
            congr 1
            show decide (((s : Nat) : Int) < ((b : Nat) : Int)) = decide (s < b)
            by_cases z : s < b
            · rw [decide_eq_true z, decide_eq_true (by omega)]
            · rw [decide_eq_false z, decide_eq_false (by omega)]
          cases z : less s (some b) with
          | true =>
            rw [z] at e2
            rw [if_pos rfl]
            exact ev_sIfT (ev_tAndT e1 e2) rfl
          | false =>
            rw [z] at e2
            rw [if_neg (by decide)]
            exact ev_sIfF (ev_tAndT e1 e2) rfl
theorem iR2_int {st : S} {i j : Int} (h : (decide (-(2 ^ 62) ≤ i) && decide (i < 2 ^ 62) && decide (-(2 ^ 62) ≤ j) && decide (j < 2 ^ 62)) = true) {c1 : List Cell} : iR2 (fun _ => .ok [.int i, .int j] c1) st = .ok (rangeD i (j - i).toNat, keepAll) c1 := if_pos h
theorem iR2_of {ga : Ax} {st : S} {i j : Int} {c1 : List Cell} (q : ga st = .ok [.int i, .int j] c1) (h : (decide (-(2 ^ 62) ≤ i) && decide (i < 2 ^ 62) && decide (-(2 ^ 62) ≤ j) && decide (j < 2 ^ 62)) = true) : iR2 ga st = .ok (rangeD i (j - i).toNat, keepAll) c1 := by
  have : iR2 ga st = iR2 (fun _ => .ok [.int i, .int j] c1) st := by unfold iR2; rw [q]
  rw [this, iR2_int h]
theorem iR1_of {ga : Ax} {st : S} {j : Nat} {c1 : List Cell} (q : ga st = .ok [nI j] c1) (h : j < 1000000) : iR1 ga st = .ok (upD 0 j, keepAll) c1 := by
  have : iR1 ga st = iR1 (fun _ => .ok [nI j] c1) st := by unfold iR1; rw [q]
  rw [this]
  have e : iR1 (fun _ => .ok [nI j] c1) st = .ok (rangeD 0 j, keepAll) c1 := iR1_at h
  rw [e]
  exact congrArg (fun z => Out.ok (z, keepAll) c1) (upD_range j 0)
theorem firsts_read {T : List Pr} {n : Nat} (hT : T.length ≤ 1000) (hn : n ≤ 40) : ∀ (k s : Nat) (Ks : List (List Nat)) {best : Option Nat} {f l kn z : Option D}, ∃ (Ks' : List (List Nat)) (f' l' kn' z' : Option D),
    forL (gNm 3) (sSeq (sAsg (eTup (aCons (eLst (aCons (eVar 3) aNil)) (aCons eNewD aNil))) (gTp 2 (gsCons (gNm 4) (gsCons (gNm 5) gsNil))))
    (sFor (iR2 (aCons (eC (.int 1)) (aCons (eOp gAdd (eVar 1) (eC (.int 1))) aNil))) (gNm 6) (sSeq (sAsg (eLc (iL (eVar 0)) (gTp 2 (gsCons (gNm 7) (gsCons (gNm 8) gsNil))) (tAnd' (tCmp' (gIn false) (eVar 7) (eVar 4)) (tCmp' (gInD true) (eVar 8) (eVar 5))) (eVar 8) [7, 8]) (gNm 4))
    (sSeq (sExpr (eUpdK (eVar 5) (eB hDict (aCons (eLc (iL (eVar 4)) (gNm 8) tTrue (eTup (aCons (eVar 8) (aCons (eC (.bl true)) aNil))) [8]) aNil))))
    (sIf (tAnd' (tCmp' (gIn false) (eVar 3) (eVar 4)) (tOr' (tCmp' (gIs false) (eVar 2) (eC .non)) (tCmp' gLt (eVar 6) (eVar 2)))) (sAsg (eVar 6) (gNm 2)) sNil))))) keepAll (upD s k) ⟨eS T n best f l kn z, Ks.map dkB⟩
      = .nx ⟨eS T n (shortL T n (List.range' s k) best) f' l' kn' z', Ks'.map dkB⟩
  | 0, s, Ks, best, f, l, kn, z => ⟨Ks, f, l, kn, z, ev_forNil rfl⟩
  | k + 1, s, Ks, best, f, l, kn, z => by
    obtain ⟨L', K', z', h⟩ := sizes_read (T := T) (n := n) (x := s) hT (Ks := Ks) n 1 (L := [s]) (K := []) (best := best) (size := z) (by simp; omega) (by simp)
    have h : forL _ _ keepAll (upD 1 n) ⟨eS T n best (some (nI s)) (some (.lst [nI s])) (some (.loc Ks.length)) z, Ks.map dkB ++ [.dk [] []]⟩ = _ := h
    obtain ⟨Ks', f', l', kn', z2, ih⟩ := firsts_read hT hn k (s + 1) (Ks ++ [K']) (best := sizesP T s n 1 [s] [] best) (f := some (nI s)) (l := some (.lst (L'.map nI))) (kn := some (.loc Ks.length)) (z := z')
    rw [List.map_append] at ih
    refine ⟨Ks', f', l', kn', z2, ?_⟩
    rw [List.range'_succ]
    refine ev_forNx (st1 := ⟨eS T n best (some (nI s)) l kn z, Ks.map dkB⟩) (st2 := ⟨eS T n (sizesP T s n 1 [s] [] best) (some (nI s)) (some (.lst (L'.map nI))) (some (.loc Ks.length)) z', Ks.map dkB ++ [dkB K']⟩) rfl rfl ?_ ih
    refine ev_sSeq (st1 := ⟨eS T n best (some (nI s)) (some (.lst [nI s])) (some (.loc Ks.length)) z, Ks.map dkB ++ [.dk [] []]⟩) (ev_sAsg (d := .tup [.lst [nI s], .loc Ks.length]) (c1 := Ks.map dkB ++ [.dk [] []]) ?_ rfl) ?_
    · show Out.ok (D.tup [.lst [nI s], .loc (Ks.map dkB).length]) _ = _
      rw [List.length_map]
    · refine ev_sFor (w := (upD 1 n, keepAll)) (c1 := Ks.map dkB ++ [.dk [] []]) ?_ h
      have c : (decide (-(2 ^ 62) ≤ (1 : Int)) && decide ((1 : Int) < 2 ^ 62) && decide (-(2 ^ 62) ≤ ((n : Nat) : Int) + 1) && decide (((n : Nat) : Int) + 1 < 2 ^ 62)) = true := by
        simp only [Bool.and_eq_true, decide_eq_true_eq]
        omega
      have e := iR2_of (ga := aCons (eC (.int 1)) (aCons (eOp gAdd (eVar 1) (eC (.int 1))) aNil)) (st := ⟨eS T n best (some (nI s)) (some (.lst [nI s])) (some (.loc Ks.length)) z, Ks.map dkB ++ [.dk [] []]⟩) (i := 1) (j := ((n : Nat) : Int) + 1) rfl c
      rw [e, show (((n : Nat) : Int) + 1 - 1).toNat = n by omega]
      exact congrArg (fun z => Out.ok (z, keepAll) (Ks.map dkB ++ [.dk [] []])) (upD_range n 1)
theorem lshort_ok {T : List Pr} {n : Nat} (hT : T.length ≤ 1000) (hn : n ≤ 40) : lshortF [.lst (T.map prD), nI n] [] = .ok (optN (shortL T n (List.range n) none)) [] := by
  obtain ⟨Ks', f', l', kn', z', h⟩ := firsts_read (T := T) (n := n) hT hn n 0 [] (best := none) (f := none) (l := none) (kn := none) (z := none)
  rw [← List.range_eq_range'] at h
  refine trimF_of (cs := []) (d := optN (shortL T n (List.range n) none)) (cs' := Ks'.map dkB) ?_ rfl ?_
  · refine ev_runRt (env := [some (.lst (T.map prD)), some (nI n), none, none, none, none, none, none, none]) (st1 := ⟨eS T n (shortL T n (List.range n) none) f' l' kn' z', Ks'.map dkB⟩) rfl ?_
    refine ev_sSeq (st1 := ⟨eS T n none none none none none, []⟩) rfl (ev_sSeq (ev_sFor (w := (upD 0 n, keepAll)) (c1 := []) (iR1_of rfl (by omega)) h) (ev_sRet rfl))
  · cases shortL T n (List.range n) none with
    | none => rfl
    | some b => rfl
end K21
namespace K21
open PySem L2 PyProof.Rows VL
theorem ev_eDcB {α : Type} {src : Ix} {g : Gt} {t : VL.Tx} {fk : Ex} {vs : List Nat} {st : S} {xs : List α} {fD : α → D} {c1 : List Cell} (q : α → Bool) (h : α → Nat) (hs : src st = .ok (xs.map fD, keepAll) c1) (hl : xs.length < 16777216) (hb : c1.all (belowC c1.length) = true)
    (ht : ∀ x ∈ xs, ∀ K : List Nat, ∃ env1, g (fD x) ⟨wipeD st.env vs, c1 ++ [dkB K]⟩ = some ⟨env1, c1 ++ [dkB K]⟩ ∧ t ⟨env1, c1 ++ [dkB K]⟩ = .ok (q x) (c1 ++ [dkB K]) ∧ (q x = true → fk ⟨env1, c1 ++ [dkB K]⟩ = .ok (nI (h x)) (c1 ++ [dkB K]))) :
    eDc src g t fk (eC (.bl true)) vs st = .ok (.dct ((addK [] ((xs.filter q).map h)).map kI) ((addK [] ((xs.filter q).map h)).map fun _ => D.bl true)) c1 := by
  have main : ∀ (es : List α) (K : List Nat), (∀ d ∈ es, d ∈ xs) → K.length + es.length < 16777216 → dcL g t fk (eC (.bl true)) keepAll (wipeD st.env vs) c1.length (es.map fD) (c1 ++ [dkB K]) = some (c1 ++ [dkB (addK K ((es.filter q).map h))]) := by
    intro es
    induction es with
    | nil => intro K _ _; rfl
    | cons d es ih =>
      intro K hm hz
      have hz' : K.length + es.length + 1 < 16777216 := by simpa [Nat.add_assoc] using hz
      obtain ⟨env1, e1, e2, e3⟩ := ht d (hm d List.mem_cons_self) K
      rw [List.map_cons]
      unfold dcL
      rw [if_pos (show keepAll (c1 ++ [dkB K]) = true from rfl), e1]
      cases c : q d with
      | false =>
        rw [c] at e2
        simp only [e2]
        rw [ih K (fun x hx => hm x (List.mem_cons_of_mem _ hx)) (by omega), List.filter_cons_of_neg (by simp [c])]
      | true =>
        rw [c] at e2
        simp only [e2, e3 c, eC]
        have h1 : (addK1 K (h d)).length ≤ K.length + 1 := by
          unfold addK1
          by_cases z : K.elem (h d) = true
          · rw [if_pos z]; omega
          · rw [if_neg z, List.length_append]; simp
        have gk : (c1 ++ [dkB K])[c1.length]? = some (.dk (K.map kI) (K.map fun _ => D.bl true)) := at_snoc
        have kd : keyD (nI (h d)) = some (kI (h d)) := rfl
        simp only [kd, gk]
        rw [if_pos (by rw [List.length_map]; omega), put_dkB, set_snoc]
        have := ih (addK1 K (h d)) (fun x hx => hm x (List.mem_cons_of_mem _ hx)) (by omega)
        rw [List.filter_cons_of_pos (by simp [c]), List.map_cons]
        exact this
  unfold eDc
  rw [hs]
  show (match dcL g t fk (eC (.bl true)) keepAll (wipeD st.env vs) c1.length (xs.map fD) (c1 ++ [dkB []]) with
    | some c2 => _
    | none => _) = _
  rw [main xs [] (fun _ h => h) (by simpa using hl)]
  have e : lastDict (c1 ++ [dkB (addK [] ((xs.filter q).map h))]) = some (c1, (addK [] ((xs.filter q).map h)).map kI, (addK [] ((xs.filter q).map h)).map fun _ => D.bl true) := by
    unfold lastDict
    rw [List.reverse_append]
    simp [dkB]
  simp only [e]
  refine if_pos ⟨by first | trivial | rfl, belows_of fun x hx => ?_, hb⟩
  obtain ⟨_, _, rfl⟩ := List.mem_map.mp hx
  rfl
theorem in_intsO {neg : Bool} {cs : List Cell} {i m : Nat} {L : List Nat} (h : cs[m]? = some (.lst (L.map nI))) : gIn neg cs (nI i) (.loc m) = .ok (.bl (if neg then !L.elem i else L.elem i)) cs := by
  show (match seqOf cs (.loc m) with
    | some ds => if flatD (nI i) && ds.all flatD then Out.ok (D.bl (if neg then !inD (nI i) ds else inD (nI i) ds)) cs else .no
    | none => .no) = _
  have e : seqOf cs (.loc m) = some (L.map nI) := by
    show lstOf cs (.loc m) = _
    unfold lstOf
    simp only [h]
  rw [e]
  show (if flatD (nI i) && (L.map nI).all flatD then Out.ok (D.bl (if neg then !inD (nI i) (L.map nI) else inD (nI i) (L.map nI))) cs else .no) = _
  rw [flat_nI, inD_nI]
  rfl
theorem belows_nI {n : Nat} : ∀ (L : List Nat), belows n (L.map nI) = true
  | [] => rfl
  | x :: L => by rw [List.map_cons, belows_cons, belows_nI L]; rfl
theorem eqDs_nI : ∀ (L : List Nat), eqDs (L.map nI) (L.map nI) = true
  | [] => rfl
  | x :: L => by
    rw [List.map_cons]
    show (eqD (nI x) (nI x) && eqDs (L.map nI) (L.map nI)) = true
    rw [eqDs_nI L, Bool.and_true]
    show (((x : Nat) : Int) == ((x : Nat) : Int)) = true
    exact beq_self_eq_true _
theorem intsOf_nI : ∀ (L : List Nat), intsOf (L.map nI) = some (L.map fun k => ((k : Nat) : Int))
  | [] => rfl
  | x :: L => by
    rw [List.map_cons]
    show (intsOf (L.map nI)).map (((x : Nat) : Int) :: ·) = _
    rw [intsOf_nI L]
    rfl
theorem erase_first {x : Nat} : ∀ {L : List Nat}, x ∈ L → ∃ j, firstI ((x : Nat) : Int) (L.map fun k => ((k : Nat) : Int)) = some j ∧ L.eraseIdx j = L.erase x
  | [], h => by cases h
  | y :: L, h => by
    rw [List.map_cons]
    unfold firstI
    by_cases c : y = x
    · subst c
      rw [if_pos rfl]
      exact ⟨0, rfl, by simp⟩
    · rw [if_neg fun e => c (by omega)]
      rcases List.mem_cons.mp h with e | e
      · exact absurd e.symm c
      · obtain ⟨j, h1, h2⟩ := erase_first e
        refine ⟨j + 1, by rw [h1]; rfl, ?_⟩
        rw [List.eraseIdx_cons_succ, h2, List.erase_cons_tail (by simpa using c)]
abbrev eO (rows : D) (T : List Pr) (bar fr : Option D) : List (Option D) := [some rows, some (.loc 0), some (.tup (T.map prD)), some (.loc 1), bar, none, none, fr, none]
abbrev cO (left found : List Nat) : List Cell := [.lst (left.map nI), .lst (found.map nI)]
theorem lowO {left found : List Nat} (m : Nat) : (cO left found).all (belowC m) = true := by
  show (belows m (left.map nI) && (belows m (found.map nI) && true)) = true
  rw [belows_nI, belows_nI]
  rfl
theorem bar_read {rows : D} {T : List Pr} {bar fr : Option D} {left found : List Nat} (hT : T.length < 16777216) :
    eDc (iT (eVar 2)) (gTp 2 (gsCons (gNm 5) (gsCons (gNm 6) gsNil))) (tCmp' (gIn false) (eVar 5) (eVar 1)) (eVar 6) (eC (.bl true)) [5, 6] ⟨eO rows T bar fr, cO left found⟩ = .ok (.dct ((barred T left).map kI) ((barred T left).map fun _ => D.bl true)) (cO left found) := by
  have := ev_eDcB (xs := T) (fD := prD) (c1 := cO left found) (src := iT (eVar 2)) (g := gTp 2 (gsCons (gNm 5) (gsCons (gNm 6) gsNil))) (t := tCmp' (gIn false) (eVar 5) (eVar 1)) (fk := eVar 6) (vs := [5, 6]) (st := ⟨eO rows T bar fr, cO left found⟩) (fun p => left.elem p.1) (fun p => p.2) rfl hT (lowO _) (fun p _ K => by
    refine ⟨[some rows, some (.loc 0), some (.tup (T.map prD)), some (.loc 1), bar, some (nI p.1), some (nI p.2), fr, none], rfl, ?_, fun _ => rfl⟩
    exact ev_tCmp (ev_eOp rfl rfl (in_intsO rfl)))
  exact this
theorem free_read {rows : D} {T : List Pr} {fr : Option D} {left found : List Nat} (hl : left.length < 16777216) :
    eLc (iLo (eVar 1)) (gNm 8) (tCmp' (gInD true) (eVar 8) (eVar 4)) (eVar 8) [8] ⟨eO rows T (some (.dct ((barred T left).map kI) ((barred T left).map fun _ => D.bl true))) fr, cO left found⟩ = .ok (.lst ((frees T left).map nI)) (cO left found) := by
  have := ev_eLc (xs := left) (fD := nI) (kp := keepD 0 (left.map nI)) (c1 := cO left found) (src := iLo (eVar 1)) (g := gNm 8) (t := tCmp' (gInD true) (eVar 8) (eVar 4)) (f := eVar 8) (vs := [8])
    (st := ⟨eO rows T (some (.dct ((barred T left).map kI) ((barred T left).map fun _ => D.bl true))) fr, cO left found⟩) (fun k => !(barred T left).elem k) nI rfl (fun acc => eqDs_refl_of (eqDs_nI left) rfl) hl (lowO _) (fun _ _ _ => rfl) (fun p _ acc _ => by
      refine ⟨[some rows, some (.loc 0), some (.tup (T.map prD)), some (.loc 1), some (.dct ((barred T left).map kI) ((barred T left).map fun _ => D.bl true)), none, none, fr, some (nI p)], rfl, ?_, fun _ => rfl⟩
      exact ev_tCmp (ev_eOp rfl rfl inD_dct))
  exact this
end K21
namespace K21
open PySem L2 PyProof.Rows VL
abbrev w_order : Sx := (sSeq (sAsg (eDc (iT (eVar 2)) (gTp 2 (gsCons (gNm 5) (gsCons (gNm 6) gsNil))) (tCmp' (gIn false) (eVar 5) (eVar 1)) (eVar 6) (eC (.bl true)) [5, 6]) (gNm 4))
    (sSeq (sAsg (eLc (iLo (eVar 1)) (gNm 8) (tCmp' (gInD true) (eVar 8) (eVar 4)) (eVar 8) [8]) (gNm 7))
    (sSeq (sIf (tCmp' (gEqB false) (eB hLen (aCons (eVar 7) aNil)) (eC (.int 0))) (sRet (eC .non)) sNil)
    (sSeq (sExpr (eAppend (eVar 3) (eOp gIx (eVar 7) (eC (.int 0)))))
    (sExpr (eRemove (eVar 1) (eOp gIx (eVar 7) (eC (.int 0)))))))))
abbrev t_order : VL.Tx := tCmp' gGt (eB hLen (aCons (eVar 1) aNil)) (eC (.int 0))
theorem erase_nI : ∀ (L : List Nat) (j : Nat), (L.map nI).eraseIdx j = (L.eraseIdx j).map nI
  | [], j => by simp
  | x :: L, 0 => rfl
  | x :: L, j + 1 => by
    rw [List.map_cons, List.eraseIdx_cons_succ, erase_nI L j, List.eraseIdx_cons_succ]
    rfl
theorem ev_append {fo f : Ex} {env : List (Option D)} {cs : List Cell} {n : Nat} {ds : List D} {y : D} (h1 : fo ⟨env, cs⟩ = .ok (.loc n) cs) (h2 : cs[n]? = some (.lst ds)) (h3 : f ⟨env, cs⟩ = .ok y cs) (h4 : ds.length < 16777216) : eAppend fo f ⟨env, cs⟩ = .ok .non (cs.set n (.lst (ds ++ [y]))) := by
  unfold eAppend
  rw [h1]
  simp only [Out.bind, h2, h3]
  rw [if_pos h4]
theorem ev_remove {fo f : Ex} {env : List (Option D)} {cs : List Cell} {n j : Nat} {ds : List D} {ns : List Int} {k : Int} (h1 : fo ⟨env, cs⟩ = .ok (.loc n) cs) (h2 : cs[n]? = some (.lst ds)) (h3 : f ⟨env, cs⟩ = .ok (.int k) cs) (h4 : intsOf ds = some ns) (h5 : firstI k ns = some j) : eRemove fo f ⟨env, cs⟩ = .ok .non (cs.set n (.lst (ds.eraseIdx j))) := by
  unfold eRemove
  rw [h1]
  simp only [Out.bind, h2, h3, h4, h5]
theorem order_loop {rows : D} {T : List Pr} (hT : T.length < 16777216) : ∀ (f : Nat) {left found : List Nat} {bar fr : Option D} {r : Option (List Nat)}, left.length + found.length ≤ 1000 → ordP T f left found = some r →
    ∃ bar' fr', match r with
      | some o => whL t_order w_order f ⟨eO rows T bar fr, cO left found⟩ = .nx ⟨eO rows T bar' fr', cO [] o⟩
      | none => ∃ l o, whL t_order w_order f ⟨eO rows T bar fr, cO left found⟩ = .rt .non ⟨eO rows T bar' fr', cO l o⟩
  | 0, left, found, bar, fr, r, _, h => by cases h
  | f + 1, left, found, bar, fr, r, hl, h => by
    have ht : t_order ⟨eO rows T bar fr, cO left found⟩ = .ok (decide (0 < left.length)) (cO left found) := by
      have : hLen (cO left found) [.loc 0] = .ok (nI left.length) (cO left found) := by
        show Out.ok (D.int ((left.map nI).length : Nat)) _ = _
        rw [List.length_map]
        rfl
      refine ev_tCmp (ev_eOp (x := nI left.length) (y := .int 0) (ev_eB (ev_aCons rfl rfl) this) rfl ?_)
      show Out.ok (D.bl (decide (((left.length : Nat) : Int) > 0))) _ = _
      congr 2
      by_cases c : 0 < left.length
      · rw [decide_eq_true c, decide_eq_true (by omega)]
      · rw [decide_eq_false c, decide_eq_false (by omega)]
    unfold ordP at h
    by_cases c : left = []
    · rw [if_pos c] at h
      cases h
      subst c
      refine ⟨bar, fr, ?_⟩
      show whL t_order w_order (f + 1) ⟨eO rows T bar fr, cO [] found⟩ = _
      unfold whL
      rw [ht]
      rfl
    · rw [if_neg c] at h
      have c0 : 0 < left.length := by
        cases left with
        | nil => exact absurd rfl c
        | cons _ _ => simp
      rw [decide_eq_true c0] at ht
      have s1 : sAsg (eDc (iT (eVar 2)) (gTp 2 (gsCons (gNm 5) (gsCons (gNm 6) gsNil))) (tCmp' (gIn false) (eVar 5) (eVar 1)) (eVar 6) (eC (.bl true)) [5, 6]) (gNm 4) ⟨eO rows T bar fr, cO left found⟩ = .nx ⟨eO rows T (some (.dct ((barred T left).map kI) ((barred T left).map fun _ => D.bl true))) fr, cO left found⟩ := ev_sAsg (bar_read hT) rfl
      have s2 : sAsg (eLc (iLo (eVar 1)) (gNm 8) (tCmp' (gInD true) (eVar 8) (eVar 4)) (eVar 8) [8]) (gNm 7) ⟨eO rows T (some (.dct ((barred T left).map kI) ((barred T left).map fun _ => D.bl true))) fr, cO left found⟩ = .nx ⟨eO rows T (some (.dct ((barred T left).map kI) ((barred T left).map fun _ => D.bl true))) (some (.lst ((frees T left).map nI))), cO left found⟩ := ev_sAsg (free_read (by omega)) rfl
      obtain ⟨B, eB'⟩ : ∃ B : D, B = .dct ((barred T left).map kI) ((barred T left).map fun _ => D.bl true) := ⟨_, rfl⟩
      rw [← eB'] at s1 s2
      have t3 : tCmp' (gEqB false) (eB hLen (aCons (eVar 7) aNil)) (eC (.int 0)) ⟨eO rows T (some B) (some (.lst ((frees T left).map nI))), cO left found⟩ = .ok (((((frees T left).length : Nat) : Int)) == 0) (cO left found) := by
        refine ev_tCmp (ev_eOp (x := nI (frees T left).length) (y := .int 0) (c1 := cO left found) (c2 := cO left found) (ev_eB (c1 := cO left found) (xs := [.lst ((frees T left).map nI)]) rfl ?_) rfl eqII)
        show Out.ok (D.int (((frees T left).map nI).length : Nat)) _ = _
        rw [List.length_map]
        rfl
      cases e : frees T left with
      | nil =>
        rw [e] at h
        cases h
        rw [e] at s2 t3
        refine ⟨some B, some (.lst []), left, found, ?_⟩
        unfold whL
        rw [ht]
        show (match w_order ⟨eO rows T bar fr, cO left found⟩ with
          | .nx st2 => whL t_order w_order f st2
          | .ct st2 => whL t_order w_order f st2
          | .bk st2 => .nx st2
          | o => o) = _
        have : w_order ⟨eO rows T bar fr, cO left found⟩ = .rt .non ⟨eO rows T (some B) (some (.lst [])), cO left found⟩ := ev_sSeq s1 (ev_sSeq s2 (ev_sSeqR (ev_sIfT t3 rfl)))
        rw [this]
      | cons x rest =>
        rw [e] at h
        rw [e] at s2 t3
        have hx : x ∈ left := (mem_frees.mp (by rw [e]; exact List.mem_cons_self)).1
        have hle := (List.perm_cons_erase hx).length_eq
        rw [List.length_cons] at hle
        obtain ⟨bar', fr', ih⟩ := order_loop (rows := rows) hT f (left := left.erase x) (found := found ++ [x]) (bar := some B) (fr := some (.lst ((x :: rest).map nI))) (r := r) (by rw [List.length_append]; simp; omega) h
        have t3' : tCmp' (gEqB false) (eB hLen (aCons (eVar 7) aNil)) (eC (.int 0)) ⟨eO rows T (some B) (some (.lst ((x :: rest).map nI))), cO left found⟩ = .ok false (cO left found) := by
          rw [t3]
          have z : ((((x :: rest).length : Nat) : Int) == 0) = false := beq_eq_false_iff_ne.mpr (by rw [List.length_cons]; omega)
          rw [z]
        have gx : ∀ cs, eOp gIx (eVar 7) (eC (.int 0)) ⟨eO rows T (some B) (some (.lst ((x :: rest).map nI))), cs⟩ = .ok (nI x) cs := fun cs => ev_eOp (x := .lst ((x :: rest).map nI)) (y := .int ((0 : Nat) : Int)) rfl rfl (ix_lst (VL.atI_nat rfl))
        have s4 : sExpr (eAppend (eVar 3) (eOp gIx (eVar 7) (eC (.int 0)))) ⟨eO rows T (some B) (some (.lst ((x :: rest).map nI))), cO left found⟩ = .nx ⟨eO rows T (some B) (some (.lst ((x :: rest).map nI))), cO left (found ++ [x])⟩ := by
          refine ev_sExpr (d := .non) ?_
          have hz : (found.map nI).length < 16777216 := by rw [List.length_map]; omega
          rw [ev_append (n := 1) (ds := found.map nI) (y := nI x) rfl rfl (gx (cO left found)) hz]
          show Out.ok D.non [.lst (left.map nI), .lst (found.map nI ++ [nI x])] = Out.ok D.non [.lst (left.map nI), .lst ((found ++ [x]).map nI)]
          rw [List.map_append]
          rfl
        have s5 : sExpr (eRemove (eVar 1) (eOp gIx (eVar 7) (eC (.int 0)))) ⟨eO rows T (some B) (some (.lst ((x :: rest).map nI))), cO left (found ++ [x])⟩ = .nx ⟨eO rows T (some B) (some (.lst ((x :: rest).map nI))), cO (left.erase x) (found ++ [x])⟩ := by
          obtain ⟨j, j1, j2⟩ := erase_first hx
          refine ev_sExpr (d := .non) ?_
          rw [ev_remove (n := 0) (ds := left.map nI) (k := ((x : Nat) : Int)) rfl rfl (gx _) (intsOf_nI left) j1]
          show Out.ok D.non [.lst ((left.map nI).eraseIdx j), .lst ((found ++ [x]).map nI)] = Out.ok D.non [.lst ((left.erase x).map nI), .lst ((found ++ [x]).map nI)]
          rw [erase_nI, j2]
        have s : w_order ⟨eO rows T bar fr, cO left found⟩ = .nx ⟨eO rows T (some B) (some (.lst ((x :: rest).map nI))), cO (left.erase x) (found ++ [x])⟩ := ev_sSeq s1 (ev_sSeq s2 (ev_sSeq (ev_sIfF t3' rfl) (ev_sSeq s4 s5)))
        have w : whL t_order w_order (f + 1) ⟨eO rows T bar fr, cO left found⟩ = whL t_order w_order f ⟨eO rows T (some B) (some (.lst ((x :: rest).map nI))), cO (left.erase x) (found ++ [x])⟩ := by
          rw [whL, ht]
          show (match w_order ⟨eO rows T bar fr, cO left found⟩ with
            | .nx st2 => whL t_order w_order f st2
            | .ct st2 => whL t_order w_order f st2
            | .bk st2 => .nx st2
            | o => o) = _
          rw [s]
        refine ⟨bar', fr', ?_⟩
        rw [w]
        exact ih
def optO : Option (List Nat) → D
  | none => .non
  | some o => .btp (o.map nI)
theorem order_ok {rows : D} {T : List Pr} {n : Nat} {r : Option (List Nat)} (hT : T.length ≤ 1000) (hn : n ≤ 40) (hr : [rows].map (lendD 0 [.lst ((List.range n).map nI)]) = [rows]) (hb : belows 0 [rows] = true) (hlen : hLen [] [rows] = .ok (nI n) []) (ht : tiesF [rows] [] = .ok (.tup (T.map prD)) []) (hp : ordP T 64 (List.range n) [] = some r) : orderF [rows] [] = .ok (optO r) [] := by
  obtain ⟨bar', fr', h⟩ := order_loop (rows := rows) (T := T) (by omega) 64 (bar := none) (fr := none) (by simp; omega) hp
  have e0 : ∀ (sx : SOut), sx = whL t_order w_order 64 ⟨eO rows T none none, cO (List.range n) []⟩ → sWhile (fun _ => 64) t_order w_order ⟨eO rows T none none, cO (List.range n) []⟩ = sx := fun sx e => e.symm
  have lr : eListR true (eB hLen (aCons (eVar 0) aNil)) ⟨[some rows, none, none, none, none, none, none, none, none], []⟩ = .ok (.loc 0) [.lst ((List.range n).map nI)] := by
    have h1 : eB hLen (aCons (eVar 0) aNil) ⟨[some rows, none, none, none, none, none, none, none, none], []⟩ = .ok (nI n) [] := ev_eB (ev_aCons rfl rfl) hlen
    unfold eListR
    rw [h1]
    have c : (decide (0 ≤ ((n : Nat) : Int)) && decide (((n : Nat) : Int) ≤ 16777216)) = true := by
      simp only [Bool.and_eq_true, decide_eq_true_eq]
      omega
    show (if (decide (0 ≤ ((n : Nat) : Int)) && decide (((n : Nat) : Int) ≤ 16777216)) = true then newCell (rangeD 0 ((n : Nat) : Int).toNat) [] else .no) = _
    rw [if_pos c, Int.toNat_natCast]
    have er : rangeD 0 n = (List.range n).map nI := by
      unfold rangeD
      refine List.map_congr_left fun a _ => ?_
      show D.int ((0 : Int) + (a : Nat)) = D.int (a : Nat)
      rw [Int.zero_add]
    rw [er]
    rfl
  have tc : eCall 0 tiesF (aCons (eVar 0) aNil) ⟨[some rows, none, none, none, none, none, none, none, none], [.lst ((List.range n).map nI)]⟩ = .ok (.tup (T.map prD)) [.lst ((List.range n).map nI)] := ev_eCall (ev_aCons rfl rfl) (callV0_of hr hb ht)
  have st : sAsg (eTup (aCons (eListR true (eB hLen (aCons (eVar 0) aNil))) (aCons (eCall 0 tiesF (aCons (eVar 0) aNil)) (aCons (eLoc aNil) aNil)))) (gTp 3 (gsCons (gNm 1) (gsCons (gNm 2) (gsCons (gNm 3) gsNil)))) ⟨[some rows, none, none, none, none, none, none, none, none], []⟩ = .nx ⟨eO rows T none none, cO (List.range n) []⟩ :=
    ev_sAsg (d := .tup [.loc 0, .tup (T.map prD), .loc 1]) (c1 := cO (List.range n) []) (ev_eTup (ev_aCons lr (ev_aCons tc rfl)) rfl) rfl
  cases r with
  | none =>
    obtain ⟨l, o, h⟩ := h
    refine trimF_of (cs := []) (d := .non) (cs' := cO l o) ?_ rfl rfl
    exact ev_runRt (st1 := ⟨eO rows T bar' fr', cO l o⟩) rfl (ev_sSeq st (ev_sSeqR (e0 _ h.symm)))
  | some o =>
    refine trimF_of (cs := []) (d := .btp (o.map nI)) (cs' := cO [] o) ?_ rfl ?_
    · exact ev_runRt (st1 := ⟨eO rows T bar' fr', cO [] o⟩) rfl (ev_sSeq st (ev_sSeq (e0 _ h.symm) (ev_sRet (ev_eB (ev_aCons rfl rfl) rfl))))
    · refine outD_low ?_ fun m e => by cases e
      show below 0 (.btp (o.map nI)) = true
      exact belows_nI o
end K21
namespace K21
open PySem L2 PyProof.Rows VL
structure DLw (cs : List Cell) (n : Nat) (f : Key → List Nat) (ks : List Key) (ms : List Nat) : Prop where
  at_ : cs[n]? = some (.dk ks (ms.map D.loc))
  len : ks.length = ms.length
  nd : ks.Nodup
  mnd : ms.Nodup
  gt : ∀ m ∈ ms, n < m ∧ m < cs.length
  el : ∀ (i : Nat) (k : Key) (m : Nat), ks[i]? = some k → ms[i]? = some m → cs[m]? = some (.lst ((f k).map nI))
  no : ∀ k, k ∉ ks → f k = []
  sz : ks.length ≤ cs.length
  fz : ∀ k, (f k).length ≤ cs.length
theorem look_loc {k : Key} : ∀ {ks : List Key} {ms : List Nat}, ks.length = ms.length → (∃ (i m : Nat), lookK k ks (ms.map D.loc) = some (.loc m) ∧ ks[i]? = some k ∧ ms[i]? = some m) ∨ (lookK k ks (ms.map D.loc) = none ∧ k ∉ ks)
  | [], [], _ => .inr ⟨rfl, by simp⟩
  | [], _ :: _, h => by cases h
  | _ :: _, [], h => by cases h
  | j :: ks, m :: ms, h => by
    rw [List.map_cons]
    unfold lookK
    rw [sameKey_eq]
    by_cases c : j = k
    · subst c
      rw [if_pos (decide_eq_true rfl)]
      exact .inl ⟨0, m, rfl, rfl, rfl⟩
    · rw [decide_eq_false c, if_neg (by decide)]
      rcases look_loc (k := k) (ks := ks) (ms := ms) (by simpa using h) with ⟨i, m', h1, h2, h3⟩ | ⟨h1, h2⟩
      · exact .inl ⟨i + 1, m', h1, h2, h3⟩
      · refine .inr ⟨h1, fun hm => ?_⟩
        rcases List.mem_cons.mp hm with e | e
        · exact c e.symm
        · exact h2 e
theorem any_not {k : Key} {ks : List Key} (h : k ∉ ks) : (ks.any fun j => sameKey j k) = false := by
  rw [List.any_eq_false]
  intro j hj
  rw [sameKey_eq]
  intro e
  exact h (of_decide_eq_true e ▸ hj)
def addF (f : Key → List Nat) (k : Key) (v : Nat) : Key → List Nat := fun j => if j = k then f j ++ [v] else f j
theorem Low.set {cs : List Cell} (h : Low cs) {n : Nat} {c : Cell} (hc : ∀ k, cs.length ≤ k → belowC k c = true) : Low (cs.set n c) := fun k hk => by
  rw [List.length_set] at hk
  rw [List.all_eq_true]
  intro x hx
  rcases List.mem_or_eq_of_mem_set hx with e | e
  · exact List.all_eq_true.mp (h k hk) x e
  · rw [e]; exact hc k hk
theorem belows_loc {n : Nat} : ∀ {ms : List Nat}, (∀ m ∈ ms, m < n) → belows n (ms.map D.loc) = true
  | [], _ => rfl
  | m :: ms, h => by
    rw [List.map_cons, belows_cons, belows_loc fun x hx => h x (List.mem_cons_of_mem _ hx), Bool.and_true, below_loc]
    exact decide_eq_true (h m List.mem_cons_self)
theorem belowC_nI {n : Nat} {L : List Nat} : belowC n (.lst (L.map nI)) = true := belows_nI L
theorem dl_step {cs : List Cell} {n v : Nat} {f : Key → List Nat} {ks : List Key} {ms : List Nat} {env : List (Option D)} {fo fe fv : Ex} {d : D} {k : Key} (q : DLw cs n f ks ms) (low : Low cs) (hz : cs.length < 1000000) (h1 : fo ⟨env, cs⟩ = .ok (.loc n) cs) (h2 : ∀ c, fe ⟨env, c⟩ = .ok d c) (hk : keyD d = some k) (h3 : ∀ c, fv ⟨env, c⟩ = .ok (nI v) c) :
    ∃ cs' ks' ms', eAppend (eSetd fo fe (eLoc aNil)) fv ⟨env, cs⟩ = .ok .non cs' ∧ DLw cs' n (addF f k v) ks' ms' ∧ Low cs' ∧ cs'.length = cs.length + 1 ∧ ∀ m, m < n → cs'[m]? = cs[m]? := by
  have hn : n < cs.length := (List.getElem?_eq_some_iff.mp q.at_).1
  have d1 : dkAt cs (.loc n) = some (n, ks, ms.map D.loc) := by
    unfold dkAt
    simp only [q.at_]
  have at2 : (cs ++ [Cell.lst []])[n]? = some (.dk ks (ms.map D.loc)) := by
    rw [List.getElem?_append_left hn]
    exact q.at_
  have d2 : dkAt (cs ++ [.lst []]) (.loc n) = some (n, ks, ms.map D.loc) := by
    unfold dkAt
    simp only [at2]
  have hs : ks.length < 16777216 := by have := q.sz; omega
  have low2 : Low (cs ++ [.lst []]) := low.snoc fun _ _ => rfl
  have len2 : (cs ++ [Cell.lst []]).length = cs.length + 1 := by simp
  have e0 : eLoc aNil ⟨env, cs⟩ = .ok (.loc cs.length) (cs ++ [.lst []]) := rfl
  rcases look_loc (k := k) q.len with ⟨i, m, l1, l2, l3⟩ | ⟨l1, l2⟩
  · have hm : m ∈ ms := List.mem_of_getElem? l3
    obtain ⟨m1, m2⟩ := q.gt m hm
    have em : cs[m]? = some (.lst ((f k).map nI)) := q.el i k m l2 l3
    have em2 : (cs ++ [Cell.lst []])[m]? = some (.lst ((f k).map nI)) := by
      rw [List.getElem?_append_left m2]
      exact em
    have es : eSetd fo fe (eLoc aNil) ⟨env, cs⟩ = .ok (.loc m) (cs ++ [.lst []]) := by
      unfold eSetd
      rw [h1]
      simp only [Out.bind, d1, h2, e0, d2, hk]
      rw [if_pos hs, l1]
    have fl : ((f k).map nI).length < 16777216 := by have := q.fz k; rw [List.length_map]; omega
    have ea : eAppend (eSetd fo fe (eLoc aNil)) fv ⟨env, cs⟩ = .ok .non ((cs ++ [Cell.lst []]).set m (.lst ((f k).map nI ++ [nI v]))) := by
      unfold eAppend
      rw [es]
      simp only [Out.bind, em2, h3]
      rw [if_pos fl]
    have ex : (f k).map nI ++ [nI v] = (addF f k v k).map nI := by
      unfold addF
      rw [if_pos rfl, List.map_append]
      rfl
    refine ⟨_, ks, ms, ea, ⟨?_, q.len, q.nd, q.mnd, fun x hx => ?_, fun j k2 m' e1 e2 => ?_, fun k2 hk2 => ?_, ?_, fun k2 => ?_⟩, Low.set low2 fun kk _ => ?_, ?_, fun x hx => ?_⟩
    · rw [List.getElem?_set_ne (by omega)]
      exact at2
    · rw [List.length_set, len2]
      have := q.gt x hx
      omega
    · by_cases c : m' = m
      · subst c
        have eij : i = j := (List.getElem?_inj (List.getElem?_eq_some_iff.mp l3).1 q.mnd).mp (l3.trans e2.symm)
        subst eij
        rw [l2] at e1
        cases e1
        rw [List.getElem?_set_self (by rw [len2]; omega), ex]
      · have hm' : m' ∈ ms := List.mem_of_getElem? e2
        have := (q.gt m' hm').2
        rw [List.getElem?_set_ne (fun e => c e.symm), List.getElem?_append_left this, q.el j k2 m' e1 e2]
        have ne : k2 ≠ k := fun e => by
          subst e
          have eij : i = j := (List.getElem?_inj (List.getElem?_eq_some_iff.mp l2).1 q.nd).mp (l2.trans e1.symm)
          subst eij
          rw [l3] at e2
          cases e2
          exact c rfl
        unfold addF
        rw [if_neg ne]
    · have ne : k2 ≠ k := fun e => hk2 (e ▸ List.mem_of_getElem? l2)
      unfold addF
      rw [if_neg ne]
      exact q.no k2 hk2
    · rw [List.length_set, len2]
      have := q.sz
      omega
    · rw [List.length_set, len2]
      have := q.fz k2
      unfold addF
      by_cases c : k2 = k
      · rw [if_pos c, List.length_append, List.length_singleton]
        omega
      · rw [if_neg c]; omega
    · rw [ex]; exact belowC_nI
    · rw [List.length_set, len2]
    · rw [List.getElem?_set_ne (by omega), List.getElem?_append_left (by omega)]
  · have pk : putKD k (.loc cs.length) ks (ms.map D.loc) = (ks ++ [k], (ms ++ [cs.length]).map D.loc) := by
      unfold putKD
      rw [any_not l2, if_neg (by decide), List.map_append]
      rfl
    have es : eSetd fo fe (eLoc aNil) ⟨env, cs⟩ = .ok (.loc cs.length) ((cs ++ [Cell.lst []]).set n (.dk (ks ++ [k]) ((ms ++ [cs.length]).map D.loc))) := by
      unfold eSetd
      rw [h1]
      simp only [Out.bind, d1, h2, e0, d2, hk]
      rw [if_pos hs, l1]
      simp only [pk]
    have at3 : ((cs ++ [Cell.lst []]).set n (.dk (ks ++ [k]) ((ms ++ [cs.length]).map D.loc)))[cs.length]? = some (.lst []) := by
      rw [List.getElem?_set_ne (by omega)]
      exact at_snoc
    have ea : eAppend (eSetd fo fe (eLoc aNil)) fv ⟨env, cs⟩ = .ok .non (((cs ++ [Cell.lst []]).set n (.dk (ks ++ [k]) ((ms ++ [cs.length]).map D.loc))).set cs.length (.lst [nI v])) := by
      unfold eAppend
      rw [es]
      simp only [Out.bind, at3, h3]
      rw [if_pos (by simp)]
      rfl
    have fk : f k = [] := q.no k l2
    refine ⟨_, ks ++ [k], ms ++ [cs.length], ea, ⟨?_, by simp [q.len], ?_, ?_, fun x hx => ?_, fun j k2 m' e1 e2 => ?_, fun k2 hk2 => ?_, ?_, fun k2 => ?_⟩, ?_, ?_, fun x hx => ?_⟩
    · rw [List.getElem?_set_ne (by omega), List.getElem?_set_self (by rw [len2]; omega)]
    · exact List.nodup_append.mpr ⟨q.nd, by simp, fun a ha b hb e => l2 (by rw [List.mem_singleton.mp hb] at e; exact e ▸ ha)⟩
    · exact List.nodup_append.mpr ⟨q.mnd, by simp, fun a ha b hb e => by
        have := (q.gt a ha).2
        rw [e, List.mem_singleton.mp hb] at this
        omega⟩
    · rw [List.length_set, List.length_set, len2]
      rcases List.mem_append.mp hx with h | h
      · have := q.gt x h
        omega
      · rw [List.mem_singleton.mp h]
        omega
    · by_cases c : j < ks.length
      · rw [List.getElem?_append_left c] at e1
        rw [List.getElem?_append_left (by rw [← q.len]; exact c)] at e2
        have hm' : m' ∈ ms := List.mem_of_getElem? e2
        have := q.gt m' hm'
        rw [List.getElem?_set_ne (by omega), List.getElem?_set_ne (by omega), List.getElem?_append_left this.2, q.el j k2 m' e1 e2]
        have ne : k2 ≠ k := fun e => l2 (e ▸ List.mem_of_getElem? e1)
        unfold addF
        rw [if_neg ne]
      · have ej : j = ks.length := by
          have := (List.getElem?_eq_some_iff.mp e1).1
          rw [List.length_append] at this
          simp at this
          omega
        subst ej
        rw [List.getElem?_append_right (Nat.le_refl _), Nat.sub_self] at e1
        rw [q.len, List.getElem?_append_right (Nat.le_refl _), Nat.sub_self] at e2
        cases (show some k = some k2 from e1)
        cases (show some cs.length = some m' from e2)
        rw [List.getElem?_set_self (by rw [List.length_set, len2]; omega)]
        unfold addF
        rw [if_pos rfl, fk]
        rfl
    · have ne : k2 ≠ k := fun e => hk2 (by rw [e]; simp)
      unfold addF
      rw [if_neg ne]
      exact q.no k2 fun h => hk2 (List.mem_append_left _ h)
    · rw [List.length_set, List.length_set, len2, List.length_append]
      have := q.sz
      rw [List.length_singleton]
      omega
    · rw [List.length_set, List.length_set, len2]
      have := q.fz k2
      unfold addF
      by_cases c : k2 = k
      · rw [if_pos c, List.length_append, List.length_singleton]
        omega
      · rw [if_neg c]; omega
    · refine Low.set (Low.set low2 fun kk hkk => ?_) fun kk _ => rfl
      rw [len2] at hkk
      refine belows_loc fun x hx => ?_
      rcases List.mem_append.mp hx with h | h
      · have := (q.gt x h).2
        omega
      · rw [List.mem_singleton.mp h]; omega
    · rw [List.length_set, List.length_set, len2]
    · rw [List.getElem?_set_ne (by omega), List.getElem?_set_ne (by omega), List.getElem?_append_left (by omega)]
theorem dl_new {cs : List Cell} : DLw (cs ++ [.dk [] []]) cs.length (fun _ => []) [] [] :=
  ⟨at_snoc, rfl, List.nodup_nil, List.nodup_nil, (fun m hm => by cases hm), (fun i k m h => by simp at h), fun _ _ => rfl, Nat.zero_le _, fun _ => Nat.zero_le _⟩
end K21
namespace K21
open PySem L2 PyProof.Rows VL
theorem dl_get {cs : List Cell} {n : Nat} {f : Key → List Nat} {ks : List Key} {ms : List Nat} {env : List (Option D)} {fo fe : Ex} {d : D} {k : Key} (q : DLw cs n f ks ms) (h1 : fo ⟨env, cs⟩ = .ok (.loc n) cs) (h2 : fe ⟨env, cs⟩ = .ok d cs) (hk : keyD d = some k) :
    ∃ kp, iLq (eGetD2 fo fe (eLst aNil)) ⟨env, cs⟩ = .ok ((f k).map nI, kp) cs ∧ ∀ cs' : List Cell, (∀ m, m ∈ ms → cs'[m]? = cs[m]?) → kp cs' = true := by
  have d1 : dctOf cs (.loc n) = some (ks, ms.map D.loc) := by
    unfold dctOf
    simp only [q.at_]
  have e0 : eLst aNil ⟨env, cs⟩ = .ok (.lst []) cs := rfl
  have es : eGetD2 fo fe (eLst aNil) ⟨env, cs⟩ = .ok ((lookK k ks (ms.map D.loc)).getD (.lst [])) cs := by
    unfold eGetD2
    rw [h1]
    simp only [Out.bind, d1, h2, e0, hk]
  unfold iLq
  rw [es]
  rcases look_loc (k := k) q.len with ⟨i, m, l1, l2, l3⟩ | ⟨l1, l2⟩
  · rw [l1]
    have em : cs[m]? = some (.lst ((f k).map nI)) := q.el i k m l2 l3
    refine ⟨keepD m ((f k).map nI), ?_, fun cs' h => ?_⟩
    · show (match cs[m]? with
        | some (.lst ds) => Out.ok (ds, keepD m ds) cs
        | _ => .no) = _
      rw [em]
    · have := h m (List.mem_of_getElem? l3)
      exact eqDs_refl_of (eqDs_nI (f k)) (this.trans em)
  · rw [l1, q.no k l2]
    exact ⟨keepAll, rfl, fun _ _ => rfl⟩
theorem ev_trimX {f : Ex} {st : S} {d : D} {c : List Cell} (h : f st = .ok d c) (h1 : (c.take st.cs.length).all (belowC st.cs.length) = true) (h2 : outD st.cs.length c d = some d) : trimX f st = .ok d (c.take st.cs.length) := by
  unfold trimX
  rw [h]
  simp only [h1, if_true, h2]
def nextOf (l : List Nat) (layer : Int) : Option Nat := (l.filter fun v => decide (((v : Nat) : Int) > layer)).head?
theorem next_ok {cs : List Cell} {n : Nat} {f : Key → List Nat} {ks : List Key} {ms : List Nat} {d : D} {k : Key} {layer : Int} (q : DLw cs n f ks ms) (low : Low cs) (hz : cs.length < 1000000) (hk : keyD d = some k) : nextF [.loc n, d, .int layer] cs = .ok (optN (nextOf (f k) layer)) cs := by
  obtain ⟨kp, e, hkp⟩ := dl_get (env := [some (.loc n), some d, some (.int layer), none, none]) (fo := eVar 0) (fe := eVar 1) q rfl rfl hk
  have hl := q.fz k
  have lc := ev_eLc (xs := f k) (fD := nI) (kp := kp) (c1 := cs) (src := iLq (eGetD2 (eVar 0) (eVar 1) (eLst aNil))) (g := gNm 4) (t := tCmp' gGt (eVar 4) (eVar 2)) (f := eVar 4) (vs := [4]) (st := ⟨[some (.loc n), some d, some (.int layer), none, none], cs⟩)
    (fun v => decide (((v : Nat) : Int) > layer)) nI e (fun acc => hkp _ fun m hm => List.getElem?_append_left (q.gt m hm).2) (by omega) low.all (fun _ _ _ => rfl) (fun v _ acc _ => ⟨_, rfl, rfl, fun _ => rfl⟩)
  unfold nextOf
  have hlen : ((f k).filter fun v => decide (((v : Nat) : Int) > layer)).length ≤ (f k).length := List.length_filter_le _ _
  revert lc hlen
  generalize (f k).filter (fun v => decide (((v : Nat) : Int) > layer)) = l
  intro lc hlen
  refine ev_runRt (env := [some (.loc n), some d, some (.int layer), none, none]) (st1 := ⟨[some (.loc n), some d, some (.int layer), some (.lst (l.map nI)), none], cs⟩) rfl ?_
  refine ev_sSeq (st1 := ⟨[some (.loc n), some d, some (.int layer), some (.lst (l.map nI)), none], cs⟩) (ev_sAsg lc rfl) (ev_sRet ?_)
  cases l with
  | nil => rfl
  | cons v l =>
    have t : tCmp' gGt (eB hLen (aCons (eVar 3) aNil)) (eC (.int 0)) ⟨[some (.loc n), some d, some (.int layer), some (.lst ((v :: l).map nI)), none], cs⟩ = .ok true cs := by
      have e1 : tCmp' gGt (eB hLen (aCons (eVar 3) aNil)) (eC (.int 0)) ⟨[some (.loc n), some d, some (.int layer), some (.lst ((v :: l).map nI)), none], cs⟩ = .ok (decide (((((v :: l).map nI).length : Nat) : Int) > 0)) cs := rfl
      rw [e1, decide_eq_true (by rw [List.length_map, List.length_cons]; omega)]
    unfold eIf
    rw [t]
    show eOp gIx (eVar 3) (eC (.int 0)) ⟨[some (.loc n), some d, some (.int layer), some (.lst ((v :: l).map nI)), none], cs⟩ = .ok (nI v) cs
    exact ev_eOp (c1 := cs) (c2 := cs) (x := .lst ((v :: l).map nI)) (y := .int ((0 : Nat) : Int)) rfl rfl (ix_lst (VL.atI_nat rfl))
structure Rw where
  task : Nat
  gets : List (Str × Int)
  puts : List Str
def getD2 (g : Str × Int) : D := .tup [.str g.1, .int g.2]
def rowD (r : Rw) : D := .tup [nI r.task, .tup (r.gets.map getD2), .tup (r.puts.map D.str)]
def enR : Nat → List Rw → List D
  | _, [] => []
  | s, r :: rs => .tup [nI s, rowD r] :: enR (s + 1) rs
theorem enumD_rows : ∀ (rows : List Rw) (s : Nat), (rows.map rowD).mapIdx (fun i d => D.tup [.int ((s + i : Nat) : Int), d]) = enR s rows
  | [], s => rfl
  | r :: rs, s => by
    rw [List.map_cons, List.mapIdx_cons]
    show D.tup [.int ((s + 0 : Nat) : Int), rowD r] :: _ = D.tup [nI s, rowD r] :: enR (s + 1) rs
    rw [← enumD_rows rs (s + 1)]
    refine List.cons_eq_cons.mpr ⟨rfl, ?_⟩
    congr 1
    funext i d
    rw [show s + (i + 1) = s + 1 + i by omega]
theorem enum_rows (rows : List Rw) : enumD (rows.map rowD) = enR 0 rows := by
  rw [← enumD_rows rows 0]
  unfold enumD
  congr 1
  funext i d
  rw [Nat.zero_add]
/-- rows as they may be handed over -/
def IsRows (d : D) (rows : List Rw) : Prop := d = .lst (rows.map rowD) ∨ d = .tup (rows.map rowD)
theorem IsRows.en {d : D} {rows : List Rw} (h : IsRows d rows) {ga : Ax} {st : S} {c : List Cell} (e : ga st = .ok [d] c) : iEnQ ga st = .ok (enR 0 rows, keepAll) c := by
  unfold iEnQ
  rw [e]
  rcases h with h | h
  · subst h
    show Out.ok (enumD (rows.map rowD), keepAll) c = _
    rw [enum_rows]
  · subst h
    show Out.ok (enumD (rows.map rowD), keepAll) c = _
    rw [enum_rows]
def putsF (s : Nat) : List Str → (Key → List Nat) → Key → List Nat
  | [], f => f
  | c :: cs, f => putsF s cs (addF f (.inr c) s)
def layF : Nat → List Rw → (Key → List Nat) → Key → List Nat
  | _, [], f => f
  | s, r :: rs, f => layF (s + 1) rs (putsF s r.puts f)
def putsN : List Rw → Nat
  | [] => 0
  | r :: rs => r.puts.length + putsN rs
abbrev eL (d : D) (n : Nat) (a b c e x : Option D) : List (Option D) := [some d, some (.loc n), a, b, c, e, x]
theorem puts_read {dr : D} {n s : Nat} : ∀ (ps : List Str) {cs : List Cell} {f : Key → List Nat} {ks : List Key} {ms : List Nat} {b c e x : Option D}, DLw cs n f ks ms → Low cs → cs.length + ps.length < 1000000 →
    ∃ cs' ks' ms' x', forL (gNm 6) (sExpr (eAppend (eSetd (eVar 1) (eVar 6) (eLoc aNil)) (eVar 2))) keepAll (ps.map D.str) ⟨eL dr n (some (nI s)) b c e x, cs⟩ = .nx ⟨eL dr n (some (nI s)) b c e x', cs'⟩ ∧ DLw cs' n (putsF s ps f) ks' ms' ∧ Low cs' ∧ cs'.length = cs.length + ps.length ∧ ∀ m, m < n → cs'[m]? = cs[m]?
  | [], cs, f, ks, ms, b, c, e, x, q, low, _ => ⟨cs, ks, ms, x, ev_forNil rfl, q, low, rfl, fun _ _ => rfl⟩
  | p :: ps, cs, f, ks, ms, b, c, e, x, q, low, hz => by
    rw [List.length_cons] at hz
    obtain ⟨c1, ks1, ms1, e1, q1, low1, l1, p1⟩ := dl_step (env := eL dr n (some (nI s)) b c e (some (.str p))) (fo := eVar 1) (fe := eVar 6) (fv := eVar 2) (v := s) (d := .str p) (k := .inr p) q low (by omega) rfl (fun _ => rfl) rfl (fun _ => rfl)
    obtain ⟨c2, ks2, ms2, x2, e2, q2, low2, l2, p2⟩ := puts_read (dr := dr) (n := n) (s := s) ps (b := b) (c := c) (e := e) (x := some (.str p)) q1 low1 (by omega)
    refine ⟨c2, ks2, ms2, x2, ?_, q2, low2, by rw [l2, l1, List.length_cons]; omega, fun m hm => (p2 m hm).trans (p1 m hm)⟩
    rw [List.map_cons]
    exact ev_forNx (st1 := ⟨eL dr n (some (nI s)) b c e (some (.str p)), cs⟩) rfl rfl (ev_sExpr e1) e2
theorem lay_read {dr : D} {n : Nat} : ∀ (rs : List Rw) (s : Nat) {cs : List Cell} {f : Key → List Nat} {ks : List Key} {ms : List Nat} {a b c e x : Option D}, DLw cs n f ks ms → Low cs → cs.length + putsN rs < 1000000 →
    ∃ cs' ks' ms' a' b' c' e' x', forL (gTp 2 (gsCons (gNm 2) (gsCons (gTp 3 (gsCons (gNm 3) (gsCons (gNm 4) (gsCons (gNm 5) gsNil)))) gsNil))) (sFor (iT (eVar 5)) (gNm 6) (sExpr (eAppend (eSetd (eVar 1) (eVar 6) (eLoc aNil)) (eVar 2)))) keepAll (enR s rs) ⟨eL dr n a b c e x, cs⟩ = .nx ⟨eL dr n a' b' c' e' x', cs'⟩ ∧ DLw cs' n (layF s rs f) ks' ms' ∧ Low cs' ∧ cs'.length = cs.length + putsN rs ∧ ∀ m, m < n → cs'[m]? = cs[m]?
  | [], s, cs, f, ks, ms, a, b, c, e, x, q, low, _ => ⟨cs, ks, ms, a, b, c, e, x, ev_forNil rfl, q, low, rfl, fun _ _ => rfl⟩
  | r :: rs, s, cs, f, ks, ms, a, b, c, e, x, q, low, hz => by
    unfold putsN at hz
    obtain ⟨c1, ks1, ms1, x1, e1, q1, low1, l1, p1⟩ := puts_read (dr := dr) (n := n) (s := s) r.puts (b := some (nI r.task)) (c := some (.tup (r.gets.map getD2))) (e := some (.tup (r.puts.map D.str))) (x := x) q low (by omega)
    obtain ⟨c2, ks2, ms2, a2, b2, cc2, e2, x2, h2, q2, low2, l2, p2⟩ := lay_read (dr := dr) (n := n) rs (s + 1) (a := some (nI s)) (b := some (nI r.task)) (c := some (.tup (r.gets.map getD2))) (e := some (.tup (r.puts.map D.str))) (x := x1) q1 low1 (by omega)
    refine ⟨c2, ks2, ms2, a2, b2, cc2, e2, x2, ?_, q2, low2, by rw [l2, l1, putsN]; omega, fun m hm => (p2 m hm).trans (p1 m hm)⟩
    exact ev_forNx (st1 := ⟨eL dr n (some (nI s)) (some (nI r.task)) (some (.tup (r.gets.map getD2))) (some (.tup (r.puts.map D.str))) x, cs⟩) rfl rfl (ev_sFor (w := (r.puts.map D.str, keepAll)) (c1 := cs) rfl e1) h2
theorem layers_ok {dr : D} {rows : List Rw} {cs : List Cell} (h : IsRows dr rows) (low : Low cs) (hz : cs.length + putsN rows < 900000) : ∃ cs' ks' ms', layersF [dr] cs = .ok (.loc cs.length) cs' ∧ DLw cs' cs.length (layF 0 rows fun _ => []) ks' ms' ∧ Low cs' ∧ cs'.length = cs.length + 1 + putsN rows ∧ ∀ m, m < cs.length → cs'[m]? = cs[m]? := by
  obtain ⟨c1, ks1, ms1, a, b, c, e, x, h1, q1, low1, l1, p1⟩ := lay_read (dr := dr) (n := cs.length) rows 0 (cs := cs ++ [.dk [] []]) (a := none) (b := none) (c := none) (e := none) (x := none) dl_new (low.snoc fun _ _ => rfl) (by simp; omega)
  refine ⟨c1, ks1, ms1, ?_, q1, low1, by rw [l1]; simp, fun m hm => (p1 m hm).trans (List.getElem?_append_left hm)⟩
  refine ev_runRt (env := [some dr, none, none, none, none, none, none]) (st1 := ⟨eL dr cs.length a b c e x, c1⟩) rfl ?_
  refine ev_sSeq (st1 := ⟨eL dr cs.length none none none none none, cs ++ [.dk [] []]⟩) (ev_sAsg (d := .loc cs.length) (c1 := cs ++ [.dk [] []]) rfl rfl) (ev_sSeq (ev_sFor (w := (enR 0 rows, keepAll)) (c1 := cs ++ [.dk [] []]) (h.en rfl) h1) (ev_sRet rfl))
end K21
namespace K21
open PySem L2 PyProof.Rows VL
def dkP (p : List Pr) : Cell := .dk (p.map fun e => kI e.1) (p.map fun e => nI e.2)
theorem look_dkP {x : Nat} : ∀ (p : List Pr), lookK (kI x) (p.map fun e => kI e.1) (p.map fun e => nI e.2) = (look p x).map nI
  | [] => rfl
  | (k, v) :: p => by
    rw [List.map_cons, List.map_cons]
    unfold lookK look
    rw [sameKI]
    by_cases c : k = x
    · subst c; simp
    · rw [beq_eq_false_iff_ne.mpr c, if_neg (by decide), if_neg c, look_dkP p]
theorem ixD_P {cs : List Cell} {m x v : Nat} {p : List Pr} (h : cs[m]? = some (dkP p)) (e : look p x = some v) : gIxD cs (.loc m) (nI x) = .ok (nI v) cs := by
  have d1 : dctOf cs (.loc m) = some (p.map (fun e => kI e.1), p.map fun e => nI e.2) := by
    unfold dctOf
    simp only [h]
    rfl
  unfold gIxD
  rw [d1]
  show (match lookK (kI x) (p.map fun e => kI e.1) (p.map fun e => nI e.2) with
    | some d => Out.ok d cs
    | none => .no) = _
  rw [look_dkP, e]
  rfl
theorem last_of {cs : List Cell} {m x : Nat} {l : List Nat} (h : cs[m]? = some (.lst ((l ++ [x]).map nI))) : gIx cs (.loc m) (.int (-1)) = .ok (nI x) cs := by
  have e : atI ((l ++ [x]).map nI) (-1) = some (nI x) := by
    have hl : ((l ++ [x]).map nI).length = l.length + 1 := by simp
    have hi : ixN (l.length + 1) (-1) = some l.length := by
      unfold ixN
      rw [if_neg (by omega), if_pos (by omega)]
      congr 1
      omega
    unfold atI
    rw [hl, hi]
    show ((l ++ [x]).map nI)[l.length]? = _
    rw [List.map_append, List.getElem?_append_right (by simp)]
    simp
  have es : seqOf cs (.loc m) = some ((l ++ [x]).map nI) := by
    show lstOf cs (.loc m) = _
    unfold lstOf
    simp only [h]
  show (match seqOf cs (.loc m) with
    | some ds => (match atI ds (-1) with
      | some d => Out.ok d cs
      | none => .no)
    | none => .no) = _
  rw [es]
  show (match atI ((l ++ [x]).map nI) (-1) with
      | some d => Out.ok d cs
      | none => .no) = _
  rw [e]
theorem eqN_ne {a b : Nat} : (((a : Nat) : Int) == ((b : Nat) : Int)) = (a == b) := by
  by_cases c : a = b
  · subst c; simp
  · rw [beq_eq_false_iff_ne.mpr c, beq_eq_false_iff_ne.mpr fun e => c (by omega)]
abbrev eW (p first : Nat) (here : D) (m : Nat) : List (Option D) := [some (.loc p), some (nI first), some here, some (.loc m)]
abbrev t_wb : VL.Tx := tCmp' (gEqB true) (eOp gIx (eVar 3) (eUn gNeg (eC (.int 1)))) (eVar 1)
abbrev b_wb : Sx := sExpr (eAppend (eVar 3) (eOp gIxD (eVar 0) (eOp gIx (eVar 3) (eUn gNeg (eC (.int 1))))))
theorem wb_loop {pa : List Pr} {p first : Nat} {here : D} {cs : List Cell} (hp : cs[p]? = some (dkP pa)) : ∀ (f : Nat) (l : List Nat) (x : Nat) {r : List Nat}, l.length + f < 1000 → wback pa first f (l ++ [x]) x = some r → whL t_wb b_wb f ⟨eW p first here cs.length, cs ++ [.lst ((l ++ [x]).map nI)]⟩ = .nx ⟨eW p first here cs.length, cs ++ [.lst (r.map nI)]⟩
  | 0, l, x, r, _, h => by cases h
  | f + 1, l, x, r, hz, h => by
    have hpl := (List.getElem?_eq_some_iff.mp hp).1
    have lx : ∀ c : List Cell, c = cs ++ [.lst ((l ++ [x]).map nI)] → eOp gIx (eVar 3) (eUn gNeg (eC (.int 1))) ⟨eW p first here cs.length, c⟩ = .ok (nI x) c := fun c hc => by
      subst hc
      exact ev_eOp (c1 := cs ++ [.lst ((l ++ [x]).map nI)]) (c2 := cs ++ [.lst ((l ++ [x]).map nI)]) (x := .loc cs.length) (y := .int (-1)) rfl rfl (last_of at_snoc)
    have t : t_wb ⟨eW p first here cs.length, cs ++ [.lst ((l ++ [x]).map nI)]⟩ = .ok (!(x == first)) (cs ++ [.lst ((l ++ [x]).map nI)]) := by
      refine ev_tCmp (ev_eOp (lx _ rfl) rfl ?_)
      have := eqII (neg := true) (cs := cs ++ [.lst ((l ++ [x]).map nI)]) (i := ((x : Nat) : Int)) (j := ((first : Nat) : Int))
      rw [eqN_ne] at this
      exact this
    unfold wback at h
    by_cases c : x = first
    · rw [if_pos c] at h
      cases h
      rw [show (x == first) = true from by simpa using c] at t
      unfold whL
      rw [t]
      rfl
    · rw [if_neg c] at h
      rw [show (x == first) = false from by simpa using c] at t
      cases e : look pa x with
      | none => rw [e] at h; cases h
      | some y =>
        rw [e] at h
        have h : wback pa first f ((l ++ [x]) ++ [y]) y = some r := h
        have ih := wb_loop (here := here) hp f (l ++ [x]) y (by rw [List.length_append]; simp; omega) h
        have hb : b_wb ⟨eW p first here cs.length, cs ++ [.lst ((l ++ [x]).map nI)]⟩ = .nx ⟨eW p first here cs.length, cs ++ [.lst ((l ++ [x] ++ [y]).map nI)]⟩ := by
          refine ev_sExpr (d := .non) ?_
          have g : eOp gIxD (eVar 0) (eOp gIx (eVar 3) (eUn gNeg (eC (.int 1)))) ⟨eW p first here cs.length, cs ++ [.lst ((l ++ [x]).map nI)]⟩ = .ok (nI y) (cs ++ [.lst ((l ++ [x]).map nI)]) :=
            ev_eOp (c1 := cs ++ [.lst ((l ++ [x]).map nI)]) (c2 := cs ++ [.lst ((l ++ [x]).map nI)]) (x := .loc p) rfl (lx _ rfl) (ixD_P (by rw [List.getElem?_append_left hpl]; exact hp) e)
          rw [ev_append (n := cs.length) (ds := (l ++ [x]).map nI) (y := nI y) rfl at_snoc g (by simp; omega), set_snoc]
          congr 2
          rw [List.map_append (l₁ := l ++ [x])]
          rfl
        unfold whL
        rw [t]
        show (match b_wb ⟨eW p first here cs.length, cs ++ [.lst ((l ++ [x]).map nI)]⟩ with
          | .nx st2 => whL t_wb b_wb f st2
          | .ct st2 => whL t_wb b_wb f st2
          | .bk st2 => .nx st2
          | o => o) = _
        rw [hb]
        exact ih
theorem wayback_ok {pa : List Pr} {p first here : Nat} {cs : List Cell} {r : List Nat} (hp : cs[p]? = some (dkP pa)) (h : wback pa first 64 [here] here = some r) : waybackF [.loc p, nI first, nI here] cs = .ok (.tup (r.reverse.map nI)) (cs ++ [Cell.lst (r.map nI)]) := by
  have w : sWhile (fun _ => 64) t_wb b_wb ⟨eW p first (nI here) cs.length, cs ++ [Cell.lst [nI here]]⟩ = .nx ⟨eW p first (nI here) cs.length, cs ++ [Cell.lst (r.map nI)]⟩ := wb_loop (here := nI here) hp 64 [] here (by simp) h
  show runF 4 b_wayback [.loc p, nI first, nI here] cs = _
  refine ev_runRt (n := 4) (ds := [.loc p, nI first, nI here]) (cs := cs) (d := .tup (r.reverse.map nI)) (sf := b_wayback) (env := [some (.loc p), some (nI first), some (nI here), none]) (st1 := ⟨eW p first (nI here) cs.length, cs ++ [Cell.lst (r.map nI)]⟩) rfl ?_
  refine ev_sSeq (st1 := ⟨eW p first (nI here) cs.length, cs ++ [Cell.lst [nI here]]⟩) (ev_sAsg (d := .loc cs.length) (c1 := cs ++ [Cell.lst [nI here]]) rfl rfl) (ev_sSeq (st1 := ⟨eW p first (nI here) cs.length, cs ++ [Cell.lst (r.map nI)]⟩) w (ev_sRet ?_))
  have es : seqOf (cs ++ [Cell.lst (r.map nI)]) (.loc cs.length) = some (r.map nI) := by
    show lstOf _ (.loc cs.length) = _
    unfold lstOf
    simp only [at_snoc]
  have g : eUn gRev (eVar 3) ⟨eW p first (nI here) cs.length, cs ++ [Cell.lst (r.map nI)]⟩ = .ok (.lst (r.reverse.map nI)) (cs ++ [Cell.lst (r.map nI)]) := by
    refine ev_eUn (x := .loc cs.length) (c1 := cs ++ [Cell.lst (r.map nI)]) rfl ?_
    have el : lstOf (cs ++ [Cell.lst (r.map nI)]) (.loc cs.length) = some (r.map nI) := es
    unfold gRev
    simp only [el, es]
    rw [List.map_reverse]
  exact ev_eB (ev_aCons g rfl) rfl
end K21
namespace K21
open PySem L2 PyProof.Rows VL
abbrev eR (n first m spot : Nat) (he la : Option D) : List (Option D) := [some (.loc n), some (nI first), some (.loc m), some (.loc (m + 1)), some (nI spot), he, la]
abbrev b_scan : Sx := (sSeq (sIf (tCmp' (gEqB false) (eVar 6) (eVar 1)) (sRet (trimX (eCallAll waybackF (aCons (eVar 2) (aCons (eVar 1) (aCons (eVar 5) aNil)))))) sNil)
    (sIf (tCmp' (gInD true) (eVar 6) (eVar 2)) (sSeq (sSetKD (eVar 5) (eVar 2) (eVar 6))
    (sExpr (eAppend (eVar 3) (eVar 6)))) sNil))
abbrev cR (cs0 : List Cell) (p : List Pr) (w : List Nat) : List Cell := cs0 ++ [dkP p, Cell.lst (w.map nI)]
theorem cR_0 {cs0 : List Cell} {p : List Pr} {w : List Nat} : (cR cs0 p w)[cs0.length]? = some (dkP p) := by
  rw [List.getElem?_append_right (Nat.le_refl _), Nat.sub_self]; rfl
theorem cR_1 {cs0 : List Cell} {p : List Pr} {w : List Nat} : (cR cs0 p w)[cs0.length + 1]? = some (Cell.lst (w.map nI)) := by
  rw [List.getElem?_append_right (by omega), Nat.add_sub_cancel_left]; rfl
theorem cR_set0 {cs0 : List Cell} {p p' : List Pr} {w : List Nat} : (cR cs0 p w).set cs0.length (dkP p') = cR cs0 p' w := by
  rw [List.set_append_right _ _ (Nat.le_refl _), Nat.sub_self]; rfl
theorem cR_set1 {cs0 : List Cell} {p : List Pr} {w w' : List Nat} : (cR cs0 p w).set (cs0.length + 1) (Cell.lst (w'.map nI)) = cR cs0 p w' := by
  rw [List.set_append_right _ _ (by omega), Nat.add_sub_cancel_left]; rfl
theorem low_dkP {p : List Pr} {k : Nat} : belowC k (dkP p) = true := by
  show belows k (p.map fun e => nI e.2) = true
  exact belows_of fun x hx => by
    obtain ⟨_, _, rfl⟩ := List.mem_map.mp hx
    rfl
theorem cR_low {cs0 : List Cell} {p : List Pr} {w : List Nat} (low : Low cs0) : Low (cR cs0 p w) := by
  have : cR cs0 p w = (cs0 ++ [dkP p]) ++ [Cell.lst (w.map nI)] := by simp
  rw [this]
  exact (low.snoc fun _ _ => low_dkP).snoc fun _ _ => belowC_nI
theorem inP {neg : Bool} {cs : List Cell} {m x : Nat} {p : List Pr} (h : cs[m]? = some (dkP p)) : gInD neg cs (nI x) (.loc m) = .ok (.bl (if neg then !(look p x).isSome else (look p x).isSome)) cs := by
  have d1 : dctOf cs (.loc m) = some (p.map (fun e => kI e.1), p.map fun e => nI e.2) := by
    unfold dctOf
    simp only [h]
    rfl
  unfold gInD
  rw [d1]
  show Out.ok (D.bl (if neg then !(lookK (kI x) (p.map fun e => kI e.1) (p.map fun e => nI e.2)).isSome else (lookK (kI x) (p.map fun e => kI e.1) (p.map fun e => nI e.2)).isSome)) cs = _
  rw [look_dkP]
  cases look p x <;> rfl
theorem any_P {x : Nat} {p : List Pr} (h : look p x = none) : ((p.map fun e => kI e.1).any fun j => sameKey j (kI x)) = false := by
  rw [List.any_eq_false]
  intro j hj
  obtain ⟨e, he, rfl⟩ := List.mem_map.mp hj
  rw [sameKI]
  intro z
  have : e.1 = x := by simpa using z
  exact look_none.mp h (this ▸ List.mem_map_of_mem he)
theorem set_P {cs0 : List Cell} {p : List Pr} {w : List Nat} {x v : Nat} {env : List (Option D)} (h : look p x = none) (hz : p.length < 16777216) : setKD (.loc cs0.length) (nI x) (nI v) ⟨env, cR cs0 p w⟩ = .nx ⟨env, cR cs0 (p ++ [(x, v)]) w⟩ := by
  have d1 : dkAt (cR cs0 p w) (.loc cs0.length) = some (cs0.length, p.map (fun e => kI e.1), p.map fun e => nI e.2) := by
    unfold dkAt
    simp only [cR_0]
    rfl
  have pk : putKD (kI x) (nI v) (p.map fun e => kI e.1) (p.map fun e => nI e.2) = ((p ++ [(x, v)]).map (fun e => kI e.1), (p ++ [(x, v)]).map fun e => nI e.2) := by
    unfold putKD
    rw [any_P h, if_neg (by decide), List.map_append, List.map_append]
    rfl
  unfold setKD
  show (match dkAt (cR cs0 p w) (.loc cs0.length), some (kI x) with
    | some (n, ks, ds), some j => if ks.length < 16777216 then SOut.nx ⟨env, (cR cs0 p w).set n (.dk (putKD j (nI v) ks ds).1 (putKD j (nI v) ks ds).2)⟩ else .no
    | _, _ => .no) = _
  rw [d1]
  dsimp only
  rw [if_pos (by rw [List.length_map]; exact hz), pk]
  show SOut.nx ⟨env, (cR cs0 p w).set cs0.length (dkP (p ++ [(x, v)]))⟩ = _
  rw [cR_set0]
theorem scan_read {cs0 : List Cell} {n first spot here : Nat} {kp : List Cell → Bool} (low : Low cs0) (hk : ∀ p w, kp (cR cs0 p w) = true) : ∀ (ls : List Nat) {p : List Pr} {w : List Nat} {la : Option D}, p.length + ls.length < 1000000 → w.length + ls.length < 1000000 →
    ∃ la', match scan first here ls p w with
      | (false, p', w') => forL (gNm 6) b_scan kp (ls.map nI) ⟨eR n first cs0.length spot (some (nI here)) la, cR cs0 p w⟩ = .nx ⟨eR n first cs0.length spot (some (nI here)) la', cR cs0 p' w'⟩
      | (true, p', w') => ∀ r, wback p' first 64 [here] here = some r → forL (gNm 6) b_scan kp (ls.map nI) ⟨eR n first cs0.length spot (some (nI here)) la, cR cs0 p w⟩ = .rt (.tup (r.reverse.map nI)) ⟨eR n first cs0.length spot (some (nI here)) la', cR cs0 p' w'⟩
  | [], p, w, la, _, _ => ⟨la, ev_forNil (hk p w)⟩
  | l :: ls, p, w, la, h1, h2 => by
    rw [List.length_cons] at h1 h2
    have t1 : tCmp' (gEqB false) (eVar 6) (eVar 1) ⟨eR n first cs0.length spot (some (nI here)) (some (nI l)), cR cs0 p w⟩ = .ok (l == first) (cR cs0 p w) := by
      refine ev_tCmp (ev_eOp rfl rfl ?_)
      have := eqII (neg := false) (cs := cR cs0 p w) (i := ((l : Nat) : Int)) (j := ((first : Nat) : Int))
      rw [eqN_ne] at this
      exact this
    unfold scan
    by_cases c : l = first
    · rw [if_pos c]
      rw [show (l == first) = true from by simpa using c] at t1
      refine ⟨some (nI l), fun r hr => ?_⟩
      rw [List.map_cons]
      refine ev_forRt (st1 := ⟨eR n first cs0.length spot (some (nI here)) (some (nI l)), cR cs0 p w⟩) (hk p w) rfl (ev_sSeqR (ev_sIfT t1 ?_))
      have wb := wayback_ok (cs := cR cs0 p w) (p := cs0.length) cR_0 hr
      have tx : trimX (eCallAll waybackF (aCons (eVar 2) (aCons (eVar 1) (aCons (eVar 5) aNil)))) ⟨eR n first cs0.length spot (some (nI here)) (some (nI l)), cR cs0 p w⟩ = .ok (.tup (r.reverse.map nI)) (cR cs0 p w) := by
        have e : eCallAll waybackF (aCons (eVar 2) (aCons (eVar 1) (aCons (eVar 5) aNil))) ⟨eR n first cs0.length spot (some (nI here)) (some (nI l)), cR cs0 p w⟩ = .ok (.tup (r.reverse.map nI)) (cR cs0 p w ++ [Cell.lst (r.map nI)]) := ev_eCallAll rfl wb
        have tk : (cR cs0 p w ++ [Cell.lst (r.map nI)]).take (cR cs0 p w).length = cR cs0 p w := List.take_left
        have := ev_trimX (st := ⟨eR n first cs0.length spot (some (nI here)) (some (nI l)), cR cs0 p w⟩) e (by
          show ((cR cs0 p w ++ [Cell.lst (r.map nI)]).take (cR cs0 p w).length).all (belowC (cR cs0 p w).length) = true
          rw [tk]
          exact (cR_low low).all) (outD_low (by
            show below _ (D.tup _) = true
            exact belows_nI _) fun m e => by cases e)
        rw [this]
        show Out.ok _ ((cR cs0 p w ++ [Cell.lst (r.map nI)]).take (cR cs0 p w).length) = _
        rw [tk]
      exact ev_sRet tx
    · rw [if_neg c]
      rw [show (l == first) = false from by simpa using c] at t1
      have t2 : tCmp' (gInD true) (eVar 6) (eVar 2) ⟨eR n first cs0.length spot (some (nI here)) (some (nI l)), cR cs0 p w⟩ = .ok (!(look p l).isSome) (cR cs0 p w) := ev_tCmp (ev_eOp rfl rfl (inP cR_0))
      cases e : look p l with
      | some u =>
        rw [e] at t2
        obtain ⟨la', ih⟩ := scan_read (n := n) (spot := spot) low hk ls (p := p) (w := w) (la := some (nI l)) (by omega) (by omega)
        refine ⟨la', ?_⟩
        have step : b_scan ⟨eR n first cs0.length spot (some (nI here)) (some (nI l)), cR cs0 p w⟩ = .nx ⟨eR n first cs0.length spot (some (nI here)) (some (nI l)), cR cs0 p w⟩ := ev_sSeq (ev_sIfF t1 rfl) (ev_sIfF t2 rfl)
        have go : ∀ so, forL (gNm 6) b_scan kp (ls.map nI) ⟨eR n first cs0.length spot (some (nI here)) (some (nI l)), cR cs0 p w⟩ = so → forL (gNm 6) b_scan kp ((l :: ls).map nI) ⟨eR n first cs0.length spot (some (nI here)) la, cR cs0 p w⟩ = so := fun so h => ev_forNx (st1 := ⟨eR n first cs0.length spot (some (nI here)) (some (nI l)), cR cs0 p w⟩) (hk p w) rfl step h
        revert ih
        dsimp only
        generalize scan first here ls p w = z
        obtain ⟨b, p', w'⟩ := z
        cases b with
        | false => exact fun ih => go _ ih
        | true => exact fun ih r hr => go _ (ih r hr)
      | none =>
        rw [e] at t2
        obtain ⟨la', ih⟩ := scan_read (n := n) (spot := spot) low hk ls (p := p ++ [(l, here)]) (w := w ++ [l]) (la := some (nI l)) (by rw [List.length_append]; simp; omega) (by rw [List.length_append]; simp; omega)
        refine ⟨la', ?_⟩
        have s1 : sSetKD (eVar 5) (eVar 2) (eVar 6) ⟨eR n first cs0.length spot (some (nI here)) (some (nI l)), cR cs0 p w⟩ = .nx ⟨eR n first cs0.length spot (some (nI here)) (some (nI l)), cR cs0 (p ++ [(l, here)]) w⟩ := ev_setKD (v := nI here) (o := .loc cs0.length) (k := nI l) (c1 := cR cs0 p w) (c2 := cR cs0 p w) (c3 := cR cs0 p w) rfl rfl rfl (set_P e (by omega))
        have s2 : sExpr (eAppend (eVar 3) (eVar 6)) ⟨eR n first cs0.length spot (some (nI here)) (some (nI l)), cR cs0 (p ++ [(l, here)]) w⟩ = .nx ⟨eR n first cs0.length spot (some (nI here)) (some (nI l)), cR cs0 (p ++ [(l, here)]) (w ++ [l])⟩ := by
          refine ev_sExpr (d := .non) ?_
          rw [ev_append (n := cs0.length + 1) (ds := w.map nI) (y := nI l) rfl cR_1 rfl (by rw [List.length_map]; omega)]
          have := cR_set1 (cs0 := cs0) (p := p ++ [(l, here)]) (w := w) (w' := w ++ [l])
          rw [List.map_append] at this
          exact congrArg (Out.ok D.non) this
        have step : b_scan ⟨eR n first cs0.length spot (some (nI here)) (some (nI l)), cR cs0 p w⟩ = .nx ⟨eR n first cs0.length spot (some (nI here)) (some (nI l)), cR cs0 (p ++ [(l, here)]) (w ++ [l])⟩ := ev_sSeq (ev_sIfF t1 rfl) (ev_sIfT t2 (ev_sSeq s1 s2))
        have go : ∀ so, forL (gNm 6) b_scan kp (ls.map nI) ⟨eR n first cs0.length spot (some (nI here)) (some (nI l)), cR cs0 (p ++ [(l, here)]) (w ++ [l])⟩ = so → forL (gNm 6) b_scan kp ((l :: ls).map nI) ⟨eR n first cs0.length spot (some (nI here)) la, cR cs0 p w⟩ = so := fun so h => ev_forNx (st1 := ⟨eR n first cs0.length spot (some (nI here)) (some (nI l)), cR cs0 p w⟩) (hk p w) rfl step h
        revert ih
        dsimp only
        generalize scan first here ls (p ++ [(l, here)]) (w ++ [l]) = z
        obtain ⟨b, p', w'⟩ := z
        cases b with
        | false => exact fun ih => go _ ih
        | true => exact fun ih r hr => go _ (ih r hr)
end K21
namespace K21
open PySem L2 PyProof.Rows VL
theorem dl_app {cs t : List Cell} {n : Nat} {f : Key → List Nat} {ks : List Key} {ms : List Nat} (q : DLw cs n f ks ms) : DLw (cs ++ t) n f ks ms := by
  have hn : n < cs.length := (List.getElem?_eq_some_iff.mp q.at_).1
  refine ⟨by rw [List.getElem?_append_left hn]; exact q.at_, q.len, q.nd, q.mnd, fun m hm => ⟨(q.gt m hm).1, ?_⟩, fun i k m h1 h2 => ?_, q.no, ?_, fun k => ?_⟩
  · have := (q.gt m hm).2
    rw [List.length_append]
    omega
  · rw [List.getElem?_append_left (q.gt m (List.mem_of_getElem? h2)).2]
    exact q.el i k m h1 h2
  · have := q.sz
    rw [List.length_append]
    omega
  · have := q.fz k
    rw [List.length_append]
    omega
theorem scan_len {first here : Nat} : ∀ (ls : List Nat) {p : List Pr} {w : List Nat}, (scan first here ls p w).2.1.length ≤ p.length + ls.length ∧ (scan first here ls p w).2.2.length ≤ w.length + ls.length
  | [], p, w => ⟨Nat.le_refl _, Nat.le_refl _⟩
  | l :: ls, p, w => by
    unfold scan
    by_cases c : l = first
    · rw [if_pos c]
      exact ⟨by show p.length ≤ _; omega, by show w.length ≤ _; omega⟩
    · rw [if_neg c]
      cases look p l with
      | some u =>
        have := scan_len (first := first) (here := here) ls (p := p) (w := w)
        dsimp only
        rw [List.length_cons]
        omega
      | none =>
        have := scan_len (first := first) (here := here) ls (p := p ++ [(l, here)]) (w := w ++ [l])
        rw [List.length_append, List.length_append, List.length_singleton, List.length_singleton] at this
        dsimp only
        rw [List.length_cons]
        omega
abbrev t_rf : VL.Tx := tCmp' gLt (eVar 4) (eB hLen (aCons (eVar 3) aNil))
abbrev b_rf : Sx := (sSeq (sAsg (eOp gIx (eVar 3) (eVar 4)) (gNm 5))
    (sSeq (sAug 4 (fun i j => i + j) (eC (.int 1)))
    (sFor (iLq (eGetD2 (eVar 0) (eVar 5) (eLst aNil))) (gNm 6) b_scan)))
theorem bfs_read {cs0 : List Cell} {n first : Nat} {f : Key → List Nat} {ks : List Key} {ms : List Nat} (q : DLw cs0 n f ks ms) (low : Low cs0) (hf : ∀ k, (f k).length ≤ 1000) : ∀ (fuel : Nat) {p : List Pr} {w : List Nat} {spot : Nat} {he la : Option D} {r : Option (List Nat)}, p.length + fuel * 1000 ≤ 100000 → w.length + fuel * 1000 ≤ 100000 → bfs (fun v => f (kI v)) first fuel p w spot = some r →
    ∃ (p' : List Pr) (w' : List Nat) (spot' : Nat) (he' la' : Option D), whL t_rf b_rf fuel ⟨eR n first cs0.length spot he la, cR cs0 p w⟩ = match r with
      | none => .nx ⟨eR n first cs0.length spot' he' la', cR cs0 p' w'⟩
      | some l => .rt (.tup (l.map nI)) ⟨eR n first cs0.length spot' he' la', cR cs0 p' w'⟩
  | 0, p, w, spot, he, la, r, _, _, h => by cases h
  | fuel + 1, p, w, spot, he, la, r, h1, h2, h => by
    have hl : hLen (cR cs0 p w) [.loc (cs0.length + 1)] = .ok (nI w.length) (cR cs0 p w) := by
      have e : seqOf (cR cs0 p w) (.loc (cs0.length + 1)) = some (w.map nI) := by
        show lstOf _ (.loc (cs0.length + 1)) = _
        unfold lstOf
        simp only [cR_1]
      show (match seqOf (cR cs0 p w) (.loc (cs0.length + 1)) with
        | some xs => Out.ok (D.int (xs.length : Nat)) (cR cs0 p w)
        | none => .no) = _
      rw [e]
      show Out.ok (D.int ((w.map nI).length : Nat)) _ = _
      rw [List.length_map]
      rfl
    have t : t_rf ⟨eR n first cs0.length spot he la, cR cs0 p w⟩ = .ok (decide (spot < w.length)) (cR cs0 p w) := by
      refine ev_tCmp (ev_eOp (x := nI spot) (y := nI w.length) (c1 := cR cs0 p w) (c2 := cR cs0 p w) rfl (ev_eB (c1 := cR cs0 p w) (xs := [.loc (cs0.length + 1)]) rfl hl) ?_)
      show Out.ok (D.bl (decide (((spot : Nat) : Int) < ((w.length : Nat) : Int)))) _ = _
      congr 2
      by_cases c : spot < w.length
      · rw [decide_eq_true c, decide_eq_true (by omega)]
      · rw [decide_eq_false c, decide_eq_false (by omega)]
    unfold bfs at h
    cases e : w[spot]? with
    | none =>
      rw [e] at h
      cases h
      have c : ¬ spot < w.length := Nat.not_lt.mpr (List.getElem?_eq_none_iff.mp e)
      rw [decide_eq_false c] at t
      refine ⟨p, w, spot, he, la, ?_⟩
      unfold whL
      rw [t]
      rfl
    | some here =>
      rw [e] at h
      have c : spot < w.length := (List.getElem?_eq_some_iff.mp e).1
      rw [decide_eq_true c] at t
      have s1 : sAsg (eOp gIx (eVar 3) (eVar 4)) (gNm 5) ⟨eR n first cs0.length spot he la, cR cs0 p w⟩ = .nx ⟨eR n first cs0.length spot (some (nI here)) la, cR cs0 p w⟩ := by
        refine ev_sAsg (d := nI here) (c1 := cR cs0 p w) (ev_eOp (c1 := cR cs0 p w) (c2 := cR cs0 p w) (x := .loc (cs0.length + 1)) (y := nI spot) rfl rfl ?_) rfl
        have es : seqOf (cR cs0 p w) (.loc (cs0.length + 1)) = some (w.map nI) := by
          show lstOf _ (.loc (cs0.length + 1)) = _
          unfold lstOf
          simp only [cR_1]
        show (match seqOf (cR cs0 p w) (.loc (cs0.length + 1)) with
          | some ds => (match atI ds ((spot : Nat) : Int) with
            | some d => Out.ok d (cR cs0 p w)
            | none => .no)
          | none => .no) = _
        rw [es]
        have ea : atI (w.map nI) ((spot : Nat) : Int) = some (nI here) := VL.atI_nat (by rw [List.getElem?_map, e]; rfl)
        show (match atI (w.map nI) ((spot : Nat) : Int) with
            | some d => Out.ok d (cR cs0 p w)
            | none => .no) = _
        rw [ea]
      have s2 : sAug 4 (fun i j => i + j) (eC (.int 1)) ⟨eR n first cs0.length spot (some (nI here)) la, cR cs0 p w⟩ = .nx ⟨eR n first cs0.length (spot + 1) (some (nI here)) la, cR cs0 p w⟩ := rfl
      obtain ⟨kp, g1, g2⟩ := dl_get (env := eR n first cs0.length (spot + 1) (some (nI here)) la) (fo := eVar 0) (fe := eVar 5) (d := nI here) (k := kI here) (dl_app (t := [dkP p, Cell.lst (w.map nI)]) q) rfl rfl rfl
      have hk : ∀ p' w', kp (cR cs0 p' w') = true := fun p' w' => g2 _ fun m hm => by
        have := (q.gt m hm).2
        rw [List.getElem?_append_left this, List.getElem?_append_left this]
      have hl2 := hf (kI here)
      obtain ⟨la', sc⟩ := scan_read (n := n) (first := first) (spot := spot + 1) (here := here) low hk (f (kI here)) (p := p) (w := w) (la := la) (by omega) (by omega)
      have sl := scan_len (first := first) (here := here) (f (kI here)) (p := p) (w := w)
      revert sc sl h
      dsimp only
      generalize scan first here (f (kI here)) p w = z
      obtain ⟨b, p', w'⟩ := z
      intro h sc sl
      have bd : ∀ so, forL (gNm 6) b_scan kp ((f (kI here)).map nI) ⟨eR n first cs0.length (spot + 1) (some (nI here)) la, cR cs0 p w⟩ = so → b_rf ⟨eR n first cs0.length spot he la, cR cs0 p w⟩ = so := fun so hs => ev_sSeq s1 (ev_sSeq s2 (ev_sFor (w := ((f (kI here)).map nI, kp)) (c1 := cR cs0 p w) g1 hs))
      have un : whL t_rf b_rf (fuel + 1) ⟨eR n first cs0.length spot he la, cR cs0 p w⟩ = (match b_rf ⟨eR n first cs0.length spot he la, cR cs0 p w⟩ with
          | .nx st2 => whL t_rf b_rf fuel st2
          | .ct st2 => whL t_rf b_rf fuel st2
          | .bk st2 => .nx st2
          | o => o) := by
        rw [whL, t]
        rfl
      cases b with
      | true =>
        have h : Option.map (fun l => some l.reverse) (wback p' first 64 [here] here) = some r := h
        cases ew : wback p' first 64 [here] here with
        | none => rw [ew] at h; cases h
        | some l =>
          rw [ew] at h
          cases h
          refine ⟨p', w', spot + 1, some (nI here), la', ?_⟩
          rw [un, bd _ (sc l ew)]
      | false =>
        dsimp only at sl sc h
        obtain ⟨p2, w2, sp2, he2, la2, ih⟩ := bfs_read q low hf fuel (p := p') (w := w') (spot := spot + 1) (he := some (nI here)) (la := la') (r := r) (by omega) (by omega) h
        refine ⟨p2, w2, sp2, he2, la2, ?_⟩
        rw [un, bd _ sc]
        exact ih
def optT : Option (List Nat) → D
  | none => .non
  | some l => .tup (l.map nI)
theorem ringfrom_ok {cs0 : List Cell} {n first : Nat} {f : Key → List Nat} {ks : List Key} {ms : List Nat} {r : Option (List Nat)} (q : DLw cs0 n f ks ms) (low : Low cs0) (hf : ∀ k, (f k).length ≤ 1000) (h : bfs (fun v => f (kI v)) first 64 [] [first] 0 = some r) : ∃ p w, ringfromF [.loc n, nI first] cs0 = .ok (optT r) (cR cs0 p w) := by
  obtain ⟨p', w', sp, he, la, hw⟩ := bfs_read q low hf 64 (p := []) (w := [first]) (spot := 0) (he := none) (la := none) (r := r) (by simp) (by simp) h
  refine ⟨p', w', ?_⟩
  have s0 : sPar [2, 3, 4] (aCons eNewD (aCons (eLoc (aCons (eVar 1) aNil)) (aCons (eC (.int 0)) aNil))) ⟨[some (.loc n), some (nI first), none, none, none, none, none], cs0⟩ = .nx ⟨eR n first cs0.length 0 none none, cR cs0 [] [first]⟩ := by
    refine ev_sPar (xs := [.loc cs0.length, .loc (cs0.length + 1), nI 0]) (c1 := cR cs0 [] [first]) ?_ rfl
    have e1 : eLoc (aCons (eVar 1) aNil) ⟨[some (.loc n), some (nI first), none, none, none, none, none], cs0 ++ [Cell.dk [] []]⟩ = .ok (.loc (cs0.length + 1)) (cR cs0 [] [first]) := by
      show Out.ok (D.loc (cs0 ++ [Cell.dk [] []]).length) ((cs0 ++ [Cell.dk [] []]) ++ [Cell.lst [nI first]]) = _
      rw [List.length_append, List.append_assoc]
      rfl
    exact ev_aCons (c1 := cs0 ++ [Cell.dk [] []]) (x := .loc cs0.length) rfl (ev_aCons e1 rfl)
  have w : sWhile (fun _ => 64) t_rf b_rf ⟨eR n first cs0.length 0 none none, cR cs0 [] [first]⟩ = _ := hw
  cases r with
  | none => exact ev_runRt (n := 7) (sf := b_ringfrom) (ds := [.loc n, nI first]) (cs := cs0) (d := .non) (env := [some (.loc n), some (nI first), none, none, none, none, none]) (st1 := ⟨eR n first cs0.length sp he la, cR cs0 p' w'⟩) rfl (ev_sSeq s0 (ev_sSeq w (ev_sRet rfl)))
  | some l => exact ev_runRt (n := 7) (sf := b_ringfrom) (ds := [.loc n, nI first]) (cs := cs0) (d := .tup (l.map nI)) (env := [some (.loc n), some (nI first), none, none, none, none, none]) (st1 := ⟨eR n first cs0.length sp he la, cR cs0 p' w'⟩) rfl (ev_sSeq s0 (ev_sSeqR w))
end K21
namespace K21
open PySem L2 PyProof.Rows VL
def adjF : List Pr → (Key → List Nat) → Key → List Nat
  | [], f => f
  | p :: T, f => adjF T (addF f (kI p.1) p.2)
theorem kI_inj {a b : Nat} : kI a = kI b ↔ a = b := by
  constructor
  · intro h
    have h : ((a : Nat) : Int) = ((b : Nat) : Int) := Sum.inl.inj h
    omega
  · exact fun h => by rw [h]
theorem adjF_at {v : Nat} : ∀ (T : List Pr) (f : Key → List Nat), adjF T f (kI v) = f (kI v) ++ succs T v
  | [], f => by simp [adjF, succs]
  | (a, b) :: T, f => by
    show adjF T (addF f (kI a) b) (kI v) = _
    rw [adjF_at T]
    unfold addF succs
    by_cases c : v = a
    · subst c
      rw [if_pos rfl, List.filter_cons_of_pos (by simp), List.map_cons, List.append_assoc]
      rfl
    · rw [if_neg fun e => c (kI_inj.mp e), List.filter_cons_of_neg (by simpa using fun e => c e.symm)]
abbrev eG (rows : D) (a b fd fi sm : Option D) : List (Option D) := [some rows, some (.loc 0), a, b, fd, fi, sm]
theorem edges_read {rows : D} : ∀ (T : List Pr) {cs : List Cell} {f : Key → List Nat} {ks : List Key} {ms : List Nat} {a b fd fi sm : Option D}, DLw cs 0 f ks ms → Low cs → cs.length + T.length < 1000000 →
    ∃ cs' ks' ms' a' b', forL (gTp 2 (gsCons (gNm 2) (gsCons (gNm 3) gsNil))) (sExpr (eAppend (eSetd (eVar 1) (eVar 2) (eLoc aNil)) (eVar 3))) keepAll (T.map prD) ⟨eG rows a b fd fi sm, cs⟩ = .nx ⟨eG rows a' b' fd fi sm, cs'⟩ ∧ DLw cs' 0 (adjF T f) ks' ms' ∧ Low cs' ∧ cs'.length = cs.length + T.length
  | [], cs, f, ks, ms, a, b, fd, fi, sm, q, low, _ => ⟨cs, ks, ms, a, b, ev_forNil rfl, q, low, rfl⟩
  | (x, y) :: T, cs, f, ks, ms, a, b, fd, fi, sm, q, low, hz => by
    rw [List.length_cons] at hz
    obtain ⟨c1, ks1, ms1, e1, q1, low1, l1, _⟩ := dl_step (env := eG rows (some (nI x)) (some (nI y)) fd fi sm) (fo := eVar 1) (fe := eVar 2) (fv := eVar 3) (v := y) (d := nI x) (k := kI x) q low (by omega) rfl (fun _ => rfl) rfl (fun _ => rfl)
    obtain ⟨c2, ks2, ms2, a2, b2, e2, q2, low2, l2⟩ := edges_read (rows := rows) T (a := some (nI x)) (b := some (nI y)) (fd := fd) (fi := fi) (sm := sm) q1 low1 (by omega)
    refine ⟨c2, ks2, ms2, a2, b2, ?_, q2, low2, by rw [l2, l1, List.length_cons]; omega⟩
    rw [List.map_cons]
    exact ev_forNx (st1 := ⟨eG rows (some (nI x)) (some (nI y)) fd fi sm, cs⟩) rfl rfl (ev_sExpr e1) e2
theorem len_tup {cs : List Cell} {l : List Nat} : hLen cs [.tup (l.map nI)] = .ok (nI l.length) cs := by
  show Out.ok (D.int ((l.map nI).length : Nat)) cs = _
  rw [List.length_map]
  rfl
abbrev b_first : Sx := (sSeq (sAsg (trimX (eCallAll ringfromF (aCons (eVar 1) (aCons (eVar 5) aNil)))) (gNm 6))
    (sIf (tAnd' (tCmp' (gIs true) (eVar 6) (eC .non)) (tOr' (tCmp' (gIs false) (eVar 4) (eC .non)) (tCmp' gLt (eB hLen (aCons (eVar 6) aNil)) (eB hLen (aCons (eVar 4) aNil))))) (sAsg (eVar 6) (gNm 4)) sNil))
theorem first_read {rows : D} {cs : List Cell} {f : Key → List Nat} {ks : List Key} {ms : List Nat} (q : DLw cs 0 f ks ms) (low : Low cs) (hf : ∀ k, (f k).length ≤ 1000) {a b : Option D} : ∀ (k s : Nat) {found : Option (List Nat)} {fi sm : Option D} {r : Option (List Nat)}, ringL (fun x => bfs (fun v => f (kI v)) x 64 [] [x] 0) (List.range' s k) found = some r →
    ∃ fi' sm', forL (gNm 5) b_first keepAll (upD s k) ⟨eG rows a b (some (optT found)) fi sm, cs⟩ = .nx ⟨eG rows a b (some (optT r)) fi' sm', cs⟩
  | 0, s, found, fi, sm, r, h => by
    cases h
    exact ⟨fi, sm, ev_forNil rfl⟩
  | k + 1, s, found, fi, sm, r, h => by
    rw [List.range'_succ] at h
    unfold ringL at h
    have tx : ∀ o, bfs (fun v => f (kI v)) s 64 [] [s] 0 = some o → sAsg (trimX (eCallAll ringfromF (aCons (eVar 1) (aCons (eVar 5) aNil)))) (gNm 6) ⟨eG rows a b (some (optT found)) (some (nI s)) sm, cs⟩ = .nx ⟨eG rows a b (some (optT found)) (some (nI s)) (some (optT o)), cs⟩ := by
      intro o ho
      obtain ⟨p, w, e⟩ := ringfrom_ok q low hf ho
      have e : eCallAll ringfromF (aCons (eVar 1) (aCons (eVar 5) aNil)) ⟨eG rows a b (some (optT found)) (some (nI s)) sm, cs⟩ = .ok (optT o) (cR cs p w) := ev_eCallAll rfl e
      have tk : (cR cs p w).take cs.length = cs := List.take_left
      have t := ev_trimX (st := ⟨eG rows a b (some (optT found)) (some (nI s)) sm, cs⟩) e (by
        show ((cR cs p w).take cs.length).all (belowC cs.length) = true
        rw [tk]
        exact low.all) (outD_low (by
          cases o with
          | none => rfl
          | some l => exact belows_nI l) fun m e => by cases o <;> cases e)
      have t : trimX (eCallAll ringfromF (aCons (eVar 1) (aCons (eVar 5) aNil))) ⟨eG rows a b (some (optT found)) (some (nI s)) sm, cs⟩ = .ok (optT o) ((cR cs p w).take cs.length) := t
      rw [tk] at t
      exact ev_sAsg t rfl
    cases eb : bfs (fun v => f (kI v)) s 64 [] [s] 0 with
    | none => simp only [eb] at h; cases h
    | some o =>
      have t0 := tx o eb
      cases o with
      | none =>
        simp only [eb] at h
        obtain ⟨fi', sm', ih⟩ := first_read q low hf (a := a) (b := b) k (s + 1) (fi := some (nI s)) (sm := some .non) h
        refine ⟨fi', sm', ?_⟩
        exact ev_forNx (st1 := ⟨eG rows a b (some (optT found)) (some (nI s)) sm, cs⟩) rfl rfl (ev_sSeq t0 (ev_sIfF (ev_tAndF rfl) rfl)) ih
      | some w =>
        simp only [eb] at h
        have t1 : tCmp' (gIs true) (eVar 6) (eC .non) ⟨eG rows a b (some (optT found)) (some (nI s)) (some (.tup (w.map nI))), cs⟩ = .ok true cs := rfl
        cases found with
        | none =>
          obtain ⟨fi', sm', ih⟩ := first_read q low hf (a := a) (b := b) k (s + 1) (fi := some (nI s)) (sm := some (.tup (w.map nI))) h
          refine ⟨fi', sm', ?_⟩
          exact ev_forNx (st1 := ⟨eG rows a b (some (optT none)) (some (nI s)) sm, cs⟩) rfl rfl (ev_sSeq t0 (ev_sIfT (ev_tAndT t1 rfl) rfl)) ih
        | some v =>
          have t2 : tOr' (tCmp' (gIs false) (eVar 4) (eC .non)) (tCmp' gLt (eB hLen (aCons (eVar 6) aNil)) (eB hLen (aCons (eVar 4) aNil))) ⟨eG rows a b (some (.tup (v.map nI))) (some (nI s)) (some (.tup (w.map nI))), cs⟩ = .ok (decide (w.length < v.length)) cs := by
            refine ev_tOrF (c1 := cs) rfl (ev_tCmp (ev_eOp (c1 := cs) (c2 := cs) (x := nI w.length) (y := nI v.length) (ev_eB (c1 := cs) (xs := [.tup (w.map nI)]) rfl len_tup) (ev_eB (c1 := cs) (xs := [.tup (v.map nI)]) rfl len_tup) ?_))
            show Out.ok (D.bl (decide (((w.length : Nat) : Int) < ((v.length : Nat) : Int)))) _ = _
            congr 2
            by_cases c : w.length < v.length
            · rw [decide_eq_true c, decide_eq_true (by omega)]
            · rw [decide_eq_false c, decide_eq_false (by omega)]
          by_cases c : w.length < v.length
          · rw [decide_eq_true c] at t2
            simp only [c, if_true] at h
            obtain ⟨fi', sm', ih⟩ := first_read q low hf (a := a) (b := b) k (s + 1) (fi := some (nI s)) (sm := some (.tup (w.map nI))) h
            refine ⟨fi', sm', ?_⟩
            exact ev_forNx (st1 := ⟨eG rows a b (some (optT (some v))) (some (nI s)) sm, cs⟩) rfl rfl (ev_sSeq t0 (ev_sIfT (ev_tAndT t1 t2) rfl)) ih
          · rw [decide_eq_false c] at t2
            simp only [c, if_false] at h
            obtain ⟨fi', sm', ih⟩ := first_read q low hf (a := a) (b := b) k (s + 1) (fi := some (nI s)) (sm := some (.tup (w.map nI))) h
            refine ⟨fi', sm', ?_⟩
            exact ev_forNx (st1 := ⟨eG rows a b (some (optT (some v))) (some (nI s)) sm, cs⟩) rfl rfl (ev_sSeq t0 (ev_sIfF (ev_tAndT t1 t2) rfl)) ih
theorem ring_ok {rows : D} {T : List Pr} {n : Nat} {r : Option (List Nat)} (hT : T.length ≤ 900) (hn : n ≤ 40) (hr : [rows].map (lendD 0 [.dk [] []]) = [rows]) (hb : belows 0 [rows] = true) (hlen : ∀ cs, hLen cs [rows] = .ok (nI n) cs) (ht : tiesF [rows] [] = .ok (.tup (T.map prD)) []) (hp : ringL (fun x => bfs (succs T) x 64 [] [x] 0) (List.range n) none = some r) : ringF [rows] [] = .ok (optT r) [] := by
  obtain ⟨cs, ks, ms, a, b, h1, q, low, l1⟩ := edges_read (rows := rows) T (cs := [.dk [] []]) (f := fun _ => []) (ks := []) (ms := []) (a := none) (b := none) (fd := none) (fi := none) (sm := none) (dl_new (cs := [])) (fun k hk => rfl) (by simp; omega)
  have af : (fun v => adjF T (fun _ => []) (kI v)) = succs T := by
    funext v
    rw [adjF_at]
    rfl
  have hf : ∀ k, (adjF T (fun _ => []) k).length ≤ 1000 := fun k => by
    have := q.fz k
    rw [l1] at this
    simp at this
    omega
  have hp' : ringL (fun x => bfs (fun v => adjF T (fun _ => []) (kI v)) x 64 [] [x] 0) (List.range' 0 n) none = some r := by
    rw [af, ← List.range_eq_range']
    exact hp
  obtain ⟨fi, sm, h2⟩ := first_read (rows := rows) q low hf (a := a) (b := b) n 0 (fi := none) (sm := none) hp'
  have tc : eCall 0 tiesF (aCons (eVar 0) aNil) ⟨[some rows, some (.loc 0), none, none, none, none, none], [.dk [] []]⟩ = .ok (.tup (T.map prD)) [.dk [] []] := ev_eCall (ev_aCons rfl rfl) (callV0_of hr hb ht)
  have run : runF 7 b_ring [rows] [] = .ok (optT r) cs := by
    refine ev_runRt (n := 7) (sf := b_ring) (ds := [rows]) (cs := []) (d := optT r) (env := [some rows, none, none, none, none, none, none]) (st1 := ⟨eG rows a b (some (optT r)) fi sm, cs⟩) rfl ?_
    refine ev_sSeq (st1 := ⟨eG rows none none none none none, [.dk [] []]⟩) (ev_sAsg (d := .loc 0) (c1 := [.dk [] []]) rfl rfl) ?_
    refine ev_sSeq (ev_sFor (w := (T.map prD, keepAll)) (c1 := [.dk [] []]) (ev_iT tc rfl) h1) ?_
    refine ev_sSeq (st1 := ⟨eG rows a b (some .non) none none, cs⟩) (ev_sAsg (d := .non) (c1 := cs) rfl rfl) ?_
    refine ev_sSeq (ev_sFor (w := (upD 0 n, keepAll)) (c1 := cs) (iR1_of (ev_aCons (c1 := cs) (ev_eB (c1 := cs) (xs := [rows]) rfl (hlen cs)) rfl) (by omega)) h2) (ev_sRet rfl)
  refine trimF_of (cs := []) (d := optT r) run rfl (outD_low ?_ fun m e => by cases r <;> cases e)
  cases r with
  | none => rfl
  | some l => exact belows_nI l
end K21
namespace K21
open PySem L2 PyProof.Rows VL
def pk (p : Pr) : NestedKey := .tup [.num (p.1 : Nat), .num (p.2 : Nat)]
def dnP (ps : List Pr) : Cell := .dn (ps.map prD) (ps.map fun _ => .bl true)
theorem nkD_pr (p : Pr) : nkD (prD p) = some (pk p) := by
  simp [nkD, nkDs, prD, nI, pk]
theorem nkT_pr (p : Pr) : nkT (prD p) = some (pk p) := by
  unfold nkT
  rw [nkD_pr]
  show (if (pk p).depth ≤ 8 then some (pk p) else none) = _
  rw [if_pos]
  simp [pk, NestedKey.depth, NestedKey.depthAll]
theorem pk_inj {p q : Pr} : pk p = pk q ↔ p = q := by
  constructor
  · intro h
    simp only [pk, NestedKey.tup.injEq, List.cons.injEq, NestedKey.num.injEq, and_true] at h
    obtain ⟨a, b⟩ := p
    obtain ⟨c, d⟩ := q
    simp only [Prod.mk.injEq]
    simp only at h
    omega
  · exact fun h => by rw [h]
theorem eqKD_pr {p q : Pr} : eqKD (prD p) (pk q) = (p == q) := by
  unfold eqKD
  rw [nkD_pr]
  show eqN (pk p) (pk q) = _
  rw [eqN_eq]
  by_cases c : p = q
  · subst c; simp
  · rw [decide_eq_false fun e => c (pk_inj.mp e)]
    exact (beq_eq_false_iff_ne.mpr c).symm
theorem lookN_pr {q : Pr} : ∀ (ps : List Pr), lookN (pk q) (ps.map prD) (ps.map fun _ => D.bl true) = if ps.elem q then some (.bl true) else none
  | [] => rfl
  | p :: ps => by
    rw [List.map_cons, List.map_cons]
    unfold lookN
    rw [eqKD_pr, lookN_pr ps, List.elem_cons]
    by_cases c : p = q
    · subst c; simp
    · rw [beq_eq_false_iff_ne.mpr c, if_neg (by decide), beq_eq_false_iff_ne.mpr fun e => c e.symm]
theorem setN_pr {q : Pr} : ∀ (ps : List Pr), setN (pk q) (.bl true) (ps.map prD) (ps.map fun _ => D.bl true) = ps.map fun _ => D.bl true
  | [] => rfl
  | p :: ps => by
    rw [List.map_cons, List.map_cons]
    unfold setN
    rw [setN_pr ps]
    by_cases c : eqKD (prD p) (pk q) = true
    · rw [if_pos c]
    · rw [if_neg c]
def addP1 (ps : List Pr) (q : Pr) : List Pr := if ps.elem q then ps else ps ++ [q]
def addP : List Pr → List Pr → List Pr
  | ps, [] => ps
  | ps, q :: qs => addP (addP1 ps q) qs
theorem mem_addP1 {ps : List Pr} {q x : Pr} : x ∈ addP1 ps q ↔ x ∈ ps ∨ x = q := by
  unfold addP1
  by_cases c : ps.elem q = true
  · rw [if_pos c]
    exact ⟨.inl, fun h => h.elim id fun e => e ▸ List.elem_iff.mp c⟩
  · rw [if_neg c, List.mem_append, List.mem_singleton]
theorem mem_addP : ∀ {qs ps : List Pr} {x : Pr}, x ∈ addP ps qs ↔ x ∈ ps ∨ x ∈ qs
  | [], ps, x => by simp [addP]
  | q :: qs, ps, x => by
    unfold addP
    rw [mem_addP (qs := qs), mem_addP1, List.mem_cons, or_assoc]
theorem nd_addP1 {ps : List Pr} {q : Pr} (h : ps.Nodup) : (addP1 ps q).Nodup := by
  unfold addP1
  by_cases c : ps.elem q = true
  · rw [if_pos c]; exact h
  · rw [if_neg c]
    refine List.nodup_append.mpr ⟨h, by simp, fun a ha b hb e => c (List.elem_iff.mpr ?_)⟩
    rw [List.mem_singleton.mp hb] at e
    exact e ▸ ha
theorem nd_addP : ∀ {qs ps : List Pr}, ps.Nodup → (addP ps qs).Nodup
  | [], _, h => h
  | _ :: qs, _, h => nd_addP (qs := qs) (nd_addP1 h)
theorem len_addP : ∀ {qs ps : List Pr}, (addP ps qs).length ≤ ps.length + qs.length
  | [], _ => Nat.le_refl _
  | q :: qs, ps => by
    have h := len_addP (qs := qs) (ps := addP1 ps q)
    have : (addP1 ps q).length ≤ ps.length + 1 := by
      unfold addP1
      by_cases c : ps.elem q = true
      · rw [if_pos c]; omega
      · rw [if_neg c, List.length_append]; simp
    show (addP (addP1 ps q) qs).length ≤ _
    rw [List.length_cons]
    omega
theorem setKN_pr {env : List (Option D)} {cs : List Cell} {n : Nat} {ps : List Pr} {q : Pr} (h : cs[n]? = some (dnP ps)) (hz : ps.length < 16777216) : setKN (.loc n) (prD q) (.bl true) ⟨env, cs⟩ = .nx ⟨env, cs.set n (dnP (addP1 ps q))⟩ := by
  unfold setKN
  rw [nkT_pr]
  have h : cs[n]? = some (.dn (ps.map prD) (ps.map fun _ => .bl true)) := h
  simp only [h]
  rw [if_pos (by rw [List.length_map]; exact hz), lookN_pr]
  unfold addP1
  by_cases c : ps.elem q = true
  · rw [if_pos c, if_pos c, setN_pr]
    rfl
  · rw [if_neg c, if_neg c]
    show SOut.nx ⟨env, cs.set n (.dn (ps.map prD ++ [prD q]) ((ps.map fun _ => D.bl true) ++ [.bl true]))⟩ = _
    unfold dnP
    rw [List.map_append, List.map_append]
    rfl
theorem mergeN_pr : ∀ (qs ps : List Pr), mergeN (ps.map prD) (ps.map fun _ => D.bl true) (qs.map prD) (qs.map fun _ => D.bl true) = ((addP ps qs).map prD, (addP ps qs).map fun _ => D.bl true)
  | [], ps => by
    cases ps <;> rfl
  | q :: qs, ps => by
    rw [List.map_cons, List.map_cons]
    unfold mergeN
    rw [nkD_pr]
    simp only [lookN_pr]
    unfold addP addP1
    by_cases c : ps.elem q = true
    · rw [if_pos c, if_pos c, setN_pr]
      exact mergeN_pr qs ps
    · rw [if_neg c, if_neg c]
      have := mergeN_pr qs (ps ++ [q])
      rw [List.map_append, List.map_append] at this
      exact this
theorem pairsN_pr : ∀ (ps : List Pr), pairsN (ps.map fun p => D.tup [prD p, .bl true]) = some (ps.map prD, ps.map fun _ => D.bl true)
  | [] => rfl
  | p :: ps => by
    rw [List.map_cons]
    unfold pairsN
    rw [nkT_pr, pairsN_pr ps]
    rfl
theorem dictN_pr {cs : List Cell} {ps : List Pr} (hz : ps.length ≤ 16777216) : hDictN cs [.lst (ps.map fun p => D.tup [prD p, .bl true])] = .ok (.dcn ((addP [] ps).map prD) ((addP [] ps).map fun _ => D.bl true)) cs := by
  show (match pairsN (ps.map fun p => D.tup [prD p, .bl true]) with
    | some (js, es) => if (ps.map fun p => D.tup [prD p, .bl true]).length ≤ 16777216 then Out.ok (D.dcn (mergeN [] [] js es).1 (mergeN [] [] js es).2) cs else .no
    | none => .no) = _
  rw [pairsN_pr]
  dsimp only
  rw [if_pos (by rw [List.length_map]; exact hz)]
  have := mergeN_pr ps []
  rw [List.map_nil, List.map_nil] at this
  rw [this]
theorem addP_addP : ∀ (qs A ps : List Pr), addP ps (addP A qs) = addP (addP ps A) qs := by
  have app : ∀ (xs ys ps : List Pr), addP ps (xs ++ ys) = addP (addP ps xs) ys := by
    intro xs
    induction xs with
    | nil => intro ys ps; rfl
    | cons x xs ih => intro ys ps; exact ih ys (addP1 ps x)
  intro qs
  induction qs with
  | nil => intro A ps; rfl
  | cons q qs ih =>
    intro A ps
    show addP ps (addP (addP1 A q) qs) = addP (addP1 (addP ps A) q) qs
    rw [ih]
    congr 1
    unfold addP1
    by_cases c : A.elem q = true
    · rw [if_pos c]
      rw [if_pos (List.elem_iff.mpr (mem_addP.mpr (.inr (List.elem_iff.mp c))))]
    · rw [if_neg c, app]
      rfl
theorem apart_pr : ∀ {ps : List Pr}, (∀ p ∈ ps, p.1 < 20 ∧ p.2 < 20) → apartN (ps.map prD) = true
  | [], _ => rfl
  | p :: ps, h => by
    rw [List.map_cons]
    show (pr20 (prD p) && apartN (ps.map prD)) = true
    rw [apart_pr fun x hx => h x (List.mem_cons_of_mem _ hx), Bool.and_true]
    obtain ⟨h1, h2⟩ := h p List.mem_cons_self
    show (decide ((0 : Int) ≤ (p.1 : Nat)) && decide (((p.1 : Nat) : Int) < 20) && decide ((0 : Int) ≤ (p.2 : Nat)) && decide (((p.2 : Nat) : Int) < 20)) = true
    simp only [Bool.and_eq_true, decide_eq_true_eq]
    omega
theorem updN_pr {env : List (Option D)} {fo fe : Ex} {cs : List Cell} {n : Nat} {ps qs : List Pr} (h0 : cs[n]? = some (dnP ps)) (h1 : fo ⟨env, cs⟩ = .ok (.loc n) cs) (h2 : fe ⟨env, cs⟩ = .ok (.dcn ((addP [] qs).map prD) ((addP [] qs).map fun _ => D.bl true)) cs) (hq : ∀ p ∈ qs, p.1 < 20 ∧ p.2 < 20) (hz : ps.length + (addP [] qs).length ≤ 16777216) :
    eUpdN fo fe ⟨env, cs⟩ = .ok .non (cs.set n (dnP (addP ps qs))) := by
  have h0 : cs[n]? = some (.dn (ps.map prD) (ps.map fun _ => .bl true)) := h0
  have d1 : dcnOf cs (.loc n) = some (ps.map prD, ps.map fun _ => .bl true) := by
    unfold dcnOf
    simp only [h0]
  have d2 : dcnOf cs (.dcn ((addP [] qs).map prD) ((addP [] qs).map fun _ => D.bl true)) = some ((addP [] qs).map prD, (addP [] qs).map fun _ => D.bl true) := rfl
  unfold eUpdN
  rw [h1]
  simp only [Out.bind, d1, h2, h0, d2]
  rw [if_pos ⟨rfl, .inr (apart_pr fun p hp => hq p (by simpa using mem_addP.mp hp)), by simpa using hz⟩, mergeN_pr, addP_addP]
  rfl
end K21
namespace K21
open PySem L2 PyProof.Rows VL
def ixR : Nat → List Rw → List (Nat × Rw)
  | _, [] => []
  | s, r :: rs => (s, r) :: ixR (s + 1) rs
def ixD (x : Nat × Rw) : D := .tup [nI x.1, rowD x.2]
theorem enR_ix : ∀ (rows : List Rw) (s : Nat), enR s rows = (ixR s rows).map ixD
  | [], _ => rfl
  | r :: rs, s => by
    rw [ixR, List.map_cons, ← enR_ix rs (s + 1)]
    rfl
theorem ixR_len : ∀ (rows : List Rw) (s : Nat), (ixR s rows).length = rows.length
  | [], _ => rfl
  | r :: rs, s => by rw [ixR, List.length_cons, ixR_len rs, List.length_cons]
theorem mem_ixR : ∀ {rows : List Rw} {s k : Nat} {r : Rw}, (k, r) ∈ ixR s rows ↔ s ≤ k ∧ rows[k - s]? = some r
  | [], s, k, r => by simp [ixR]
  | x :: rs, s, k, r => by
    rw [ixR, List.mem_cons, mem_ixR (rows := rs)]
    constructor
    · rintro (h | ⟨h1, h2⟩)
      · cases h
        exact ⟨Nat.le_refl _, by rw [Nat.sub_self]; rfl⟩
      · refine ⟨by omega, ?_⟩
        rw [show k - s = (k - (s + 1)) + 1 by omega]
        exact h2
    · rintro ⟨h1, h2⟩
      by_cases c : k = s
      · subst c
        rw [Nat.sub_self] at h2
        cases (show some x = some r from h2)
        exact .inl rfl
      · refine .inr ⟨by omega, ?_⟩
        rw [show k - s = (k - (s + 1)) + 1 by omega] at h2
        exact h2
def sameTask (rows : List Rw) (task i : Nat) : Bool := match rows[i]? with
  | some r => r.task == task
  | none => false
def laterL (rows : List Rw) (c : Str) (layer : Int) : List Nat := ((ixR 0 rows).filter fun x => inD (.str c) (x.2.puts.map D.str) && decide (((x.1 : Nat) : Int) > layer)).map (·.1)
theorem belows_rows : ∀ (rows : List Rw) (n : Nat), belows n (rows.map rowD) = true
  | [], _ => rfl
  | r :: rs, n => by
    have g : ∀ (l : List (Str × Int)), belows n (l.map getD2) = true := by
      intro l
      induction l with
      | nil => rfl
      | cons x l ih => rw [List.map_cons, belows_cons, ih]; rfl
    rw [List.map_cons, belows_cons, belows_rows rs n, Bool.and_true]
    show belows n [nI r.task, .tup (r.gets.map getD2), .tup (r.puts.map D.str)] = true
    rw [belows_cons, belows_cons, belows_cons]
    show (true && (belows n (r.gets.map getD2) && (belows n (r.puts.map D.str) && belows n []))) = true
    rw [g, belows_str]
    rfl
theorem upD_nI (n : Nat) : upD 0 n = (List.range n).map nI := by
  rw [← upD_range n 0]
  unfold rangeD
  refine List.map_congr_left fun a _ => ?_
  show D.int (((0 : Nat) : Int) + (a : Nat)) = D.int (a : Nat)
  rw [show (((0 : Nat) : Int) + (a : Nat)) = (a : Nat) by omega]
theorem dnP_low {ps : List Pr} {k : Nat} : [dnP ps].all (belowC k) = true := by
  show ((belows k (ps.map prD) && belows k (ps.map fun _ => D.bl true)) && true) = true
  have h1 : belows k (ps.map prD) = true := belows_of fun x hx => by
    obtain ⟨p, _, rfl⟩ := List.mem_map.mp hx
    rfl
  have h2 : belows k (ps.map fun _ => D.bl true) = true := belows_of fun x hx => by
    obtain ⟨_, _, rfl⟩ := List.mem_map.mp hx
    rfl
  rw [h1, h2]
  rfl
abbrev eP (rows : List Rw) (j : Nat) (r : Rw) (i sm ce la lt k row : Option D) : List (Option D) := [some (.lst (rows.map rowD)), some (.loc 0), some (nI j), some (nI r.task), some (.tup (r.gets.map getD2)), some (.tup (r.puts.map D.str)), i, sm, ce, la, lt, k, row]
theorem tasks_read {rows : List Rw} {j : Nat} {r : Rw} {i sm ce la lt k row : Option D} {ps : List Pr} (hj : j ≤ rows.length) (hr : rows.length ≤ 40) :
    eLc (iR1 (aCons (eVar 2) aNil)) (gNm 6) (tCmp' (gEqB false) (eOp gIx (eOp gIx (eVar 0) (eVar 6)) (eC (.int 0))) (eVar 3)) (eTup (aCons (eTup (aCons (eVar 6) (aCons (eVar 2) aNil))) (aCons (eC (.bl true)) aNil))) [6] ⟨eP rows j r i sm ce la lt k row, [dnP ps]⟩ = .ok (.lst ((((List.range j).filter (sameTask rows r.task)).map fun i => (i, j)).map fun p => D.tup [prD p, .bl true])) [dnP ps] := by
  have hs : iR1 (aCons (eVar 2) aNil) ⟨eP rows j r i sm ce la lt k row, [dnP ps]⟩ = .ok ((List.range j).map nI, keepAll) [dnP ps] := by
    rw [← upD_nI]
    exact iR1_of rfl (by omega)
  have := ev_eLc (xs := List.range j) (fD := nI) (kp := keepAll) (c1 := [dnP ps]) (src := iR1 (aCons (eVar 2) aNil)) (g := gNm 6) (t := tCmp' (gEqB false) (eOp gIx (eOp gIx (eVar 0) (eVar 6)) (eC (.int 0))) (eVar 3)) (f := eTup (aCons (eTup (aCons (eVar 6) (aCons (eVar 2) aNil))) (aCons (eC (.bl true)) aNil))) (vs := [6]) (st := ⟨eP rows j r i sm ce la lt k row, [dnP ps]⟩)
    (sameTask rows r.task) (fun i => D.tup [prD (i, j), .bl true]) hs (fun _ => rfl) (by rw [List.length_range]; omega) dnP_low (fun _ _ _ => rfl) (fun x hx acc _ => by
      have hx : x < j := List.mem_range.mp hx
      have hx2 : x < rows.length := by omega
      refine ⟨eP rows j r (some (nI x)) sm ce la lt k row, rfl, ?_, fun _ => rfl⟩
      have g1 : rows[x]? = some rows[x] := List.getElem?_eq_getElem hx2
      have e1 : eOp gIx (eOp gIx (eVar 0) (eVar 6)) (eC (.int 0)) ⟨eP rows j r (some (nI x)) sm ce la lt k row, [dnP ps] ++ [.lst acc]⟩ = .ok (nI rows[x].task) ([dnP ps] ++ [.lst acc]) := by
        refine ev_eOp (c1 := [dnP ps] ++ [.lst acc]) (c2 := [dnP ps] ++ [.lst acc]) (x := rowD rows[x]) (y := .int 0) (ev_eOp (c1 := [dnP ps] ++ [.lst acc]) (c2 := [dnP ps] ++ [.lst acc]) (x := .lst (rows.map rowD)) (y := nI x) rfl rfl ?_) rfl rfl
        exact ix_lst (VL.atI_nat (by rw [List.getElem?_map, g1]; rfl))
      refine ev_tCmp (ev_eOp e1 rfl ?_)
      have := eqII (neg := false) (cs := [dnP ps] ++ [Cell.lst acc]) (i := ((rows[x].task : Nat) : Int)) (j := ((r.task : Nat) : Int))
      rw [eqN_ne] at this
      unfold sameTask
      rw [g1]
      exact this)
  rw [this, List.map_map]
  rfl
theorem later_read {rows : List Rw} {j : Nat} {r : Rw} {i sm lt k row : Option D} {ps : List Pr} {c : Str} {layer : Int} (hr : rows.length ≤ 40) :
    eLc (iEn (aCons (eVar 0) aNil)) (gTp 2 (gsCons (gNm 11) (gsCons (gNm 12) gsNil))) (tAnd' (tCmp' (gIn false) (eVar 8) (eOp gIx (eVar 12) (eC (.int 2)))) (tCmp' gGt (eVar 11) (eVar 9))) (eVar 11) [11, 12] ⟨eP rows j r i sm (some (.str c)) (some (.int layer)) lt k row, [dnP ps]⟩ = .ok (.lst ((laterL rows c layer).map nI)) [dnP ps] := by
  have hs : iEn (aCons (eVar 0) aNil) ⟨eP rows j r i sm (some (.str c)) (some (.int layer)) lt k row, [dnP ps]⟩ = .ok ((ixR 0 rows).map ixD, keepAll) [dnP ps] := by
    rw [← enR_ix, ← enum_rows]
    rfl
  have := ev_eLc (xs := ixR 0 rows) (fD := ixD) (kp := keepAll) (c1 := [dnP ps]) (src := iEn (aCons (eVar 0) aNil)) (g := gTp 2 (gsCons (gNm 11) (gsCons (gNm 12) gsNil))) (t := tAnd' (tCmp' (gIn false) (eVar 8) (eOp gIx (eVar 12) (eC (.int 2)))) (tCmp' gGt (eVar 11) (eVar 9))) (f := eVar 11) (vs := [11, 12]) (st := ⟨eP rows j r i sm (some (.str c)) (some (.int layer)) lt k row, [dnP ps]⟩)
    (fun x => inD (.str c) (x.2.puts.map D.str) && decide (((x.1 : Nat) : Int) > layer)) (fun x => nI x.1) hs (fun _ => rfl) (by rw [ixR_len]; omega) dnP_low (fun _ _ _ => rfl) (fun x _ acc _ => by
      refine ⟨eP rows j r i sm (some (.str c)) (some (.int layer)) lt (some (nI x.1)) (some (rowD x.2)), rfl, ?_, fun _ => rfl⟩
      have fl : (x.2.puts.map D.str).all flatD = true := by
        rw [List.all_eq_true]
        intro z hz
        obtain ⟨_, _, rfl⟩ := List.mem_map.mp hz
        rfl
      have e1 : tCmp' (gIn false) (eVar 8) (eOp gIx (eVar 12) (eC (.int 2))) ⟨eP rows j r i sm (some (.str c)) (some (.int layer)) lt (some (nI x.1)) (some (rowD x.2)), [dnP ps] ++ [.lst acc]⟩ = .ok (inD (.str c) (x.2.puts.map D.str)) ([dnP ps] ++ [.lst acc]) := by
        refine ev_tCmp (ev_eOp (c1 := [dnP ps] ++ [.lst acc]) (c2 := [dnP ps] ++ [.lst acc]) (x := .str c) (y := .tup (x.2.puts.map D.str)) rfl rfl ?_)
        show (if flatD (.str c) && (x.2.puts.map D.str).all flatD then Out.ok (D.bl (if false then !inD (.str c) (x.2.puts.map D.str) else inD (.str c) (x.2.puts.map D.str))) ([dnP ps] ++ [.lst acc]) else .no) = _
        rw [fl]
        rfl
      cases e : inD (.str c) (x.2.puts.map D.str) with
      | true =>
        rw [e] at e1
        rw [Bool.true_and]
        exact ev_tAndT e1 rfl
      | false =>
        rw [e] at e1
        exact ev_tAndF e1)
  rw [this]
  unfold laterL
  rw [List.map_map]
  rfl
end K21
namespace K21
open PySem L2 PyProof.Rows VL
def someL (j : Nat) (r : Rw) : List (Str × Int) := r.gets ++ r.puts.map fun c => (c, ((j : Nat) : Int))
theorem some_read {rows : List Rw} {j : Nat} {r : Rw} {i sm ce la lt k row : Option D} {ps : List Pr} (hz : r.gets.length + r.puts.length ≤ 1000) :
    eOp gAdd (eLc (iT (eVar 4)) (gTp 2 (gsCons (gNm 8) (gsCons (gNm 9) gsNil))) tTrue (eTup (aCons (eVar 8) (aCons (eVar 9) aNil))) [8, 9]) (eLc (iT (eVar 5)) (gNm 8) tTrue (eTup (aCons (eVar 8) (aCons (eVar 2) aNil))) [8]) ⟨eP rows j r i sm ce la lt k row, [dnP ps]⟩ = .ok (.lst ((someL j r).map getD2)) [dnP ps] := by
  have h1 := ev_eLc (xs := r.gets) (fD := getD2) (kp := keepAll) (c1 := [dnP ps]) (src := iT (eVar 4)) (g := gTp 2 (gsCons (gNm 8) (gsCons (gNm 9) gsNil))) (t := tTrue) (f := eTup (aCons (eVar 8) (aCons (eVar 9) aNil))) (vs := [8, 9]) (st := ⟨eP rows j r i sm ce la lt k row, [dnP ps]⟩)
    (fun _ => true) getD2 rfl (fun _ => rfl) (by omega) dnP_low (fun _ _ _ => rfl) (fun x _ acc _ => ⟨_, rfl, rfl, fun _ => rfl⟩)
  have h2 := ev_eLc (xs := r.puts) (fD := D.str) (kp := keepAll) (c1 := [dnP ps]) (src := iT (eVar 5)) (g := gNm 8) (t := tTrue) (f := eTup (aCons (eVar 8) (aCons (eVar 2) aNil))) (vs := [8]) (st := ⟨eP rows j r i sm ce la lt k row, [dnP ps]⟩)
    (fun _ => true) (fun c => D.tup [.str c, nI j]) rfl (fun _ => rfl) (by omega) dnP_low (fun _ _ _ => rfl) (fun x _ acc _ => ⟨_, rfl, rfl, fun _ => rfl⟩)
  rw [List.filter_eq_self.mpr fun _ _ => rfl] at h1 h2
  refine ev_eOp h1 h2 ?_
  show (if (r.gets.map getD2).length + (r.puts.map fun c => D.tup [.str c, nI j]).length ≤ 16777216 then Out.ok (D.lst (r.gets.map getD2 ++ r.puts.map fun c => D.tup [.str c, nI j])) [dnP ps] else .no) = _
  rw [if_pos (by rw [List.length_map, List.length_map]; omega)]
  unfold someL
  rw [List.map_append, List.map_map]
  rfl
def lawStep (rows : List Rw) (j : Nat) (g : Str × Int) (ps : List Pr) : List Pr :=
  addP (if g.2 = -1 ∨ g.2 = ((j : Nat) : Int) then ps else addP1 ps (g.2.toNat, j)) ((((laterL rows g.1 g.2).take 1).filter fun k => !(k == j)).map fun k => (j, k))
theorem cut1 (l : List Nat) : VL.cutD (l.map nI) none (some 1) = (l.take 1).map nI := by
  unfold VL.cutD
  have h0 : HT.sIx (l.map nI).length 0 none = 0 := rfl
  have h1 : HT.sIx (l.map nI).length (l.map nI).length (some 1) = min 1 l.length := by
    rw [List.length_map]
    exact HT.sIx_nat _ _ 1
  rw [h0, h1, List.drop_zero, Nat.sub_zero, List.map_take]
  cases l with
  | nil => rfl
  | cons x l => rw [show min 1 (x :: l).length = 1 by rw [List.length_cons]; omega]
abbrev b_some : Sx := (sSeq (sAsg (eSl false (eLc (iEn (aCons (eVar 0) aNil)) (gTp 2 (gsCons (gNm 11) (gsCons (gNm 12) gsNil))) (tAnd' (tCmp' (gIn false) (eVar 8) (eOp gIx (eVar 12) (eC (.int 2)))) (tCmp' gGt (eVar 11) (eVar 9))) (eVar 11) [11, 12]) oNone (oSome (eC (.int 1)))) (gNm 10))
    (sSeq (sIf (tCmp' (gIn true) (eVar 9) (eTup (aCons (eOp gSub (eC (.int 0)) (eC (.int 1))) (aCons (eVar 2) aNil)))) (sSetKN (eC (.bl true)) (eVar 1) (eTup (aCons (eVar 9) (aCons (eVar 2) aNil)))) sNil)
    (sExpr (eUpdN (eVar 1) (eB hDictN (aCons (eLc (iL (eVar 10)) (gNm 11) (tCmp' (gEqB true) (eVar 11) (eVar 2)) (eTup (aCons (eTup (aCons (eVar 2) (aCons (eVar 11) aNil))) (aCons (eC (.bl true)) aNil))) [11]) aNil))))))
theorem lpairs_upd {rows : List Rw} {j : Nat} {r : Rw} {i sm ce la k row : Option D} {ps : List Pr} {l : List Nat} (hl : l.length ≤ 1000) (hb : ∀ x ∈ l, x < 20) (hj : j < 20) (hz : ps.length ≤ 100000) :
    eUpdN (eVar 1) (eB hDictN (aCons (eLc (iL (eVar 10)) (gNm 11) (tCmp' (gEqB true) (eVar 11) (eVar 2)) (eTup (aCons (eTup (aCons (eVar 2) (aCons (eVar 11) aNil))) (aCons (eC (.bl true)) aNil))) [11]) aNil)) ⟨eP rows j r i sm ce la (some (.lst (l.map nI))) k row, [dnP ps]⟩ = .ok .non [dnP (addP ps ((l.filter fun k => !(k == j)).map fun k => (j, k)))] := by
  have lc := ev_eLc (xs := l) (fD := nI) (kp := keepAll) (c1 := [dnP ps]) (src := iL (eVar 10)) (g := gNm 11) (t := tCmp' (gEqB true) (eVar 11) (eVar 2)) (f := eTup (aCons (eTup (aCons (eVar 2) (aCons (eVar 11) aNil))) (aCons (eC (.bl true)) aNil))) (vs := [11]) (st := ⟨eP rows j r i sm ce la (some (.lst (l.map nI))) k row, [dnP ps]⟩)
    (fun k => !(k == j)) (fun x => D.tup [prD (j, x), .bl true]) rfl (fun _ => rfl) (by omega) dnP_low (fun _ _ _ => rfl) (fun x _ acc _ => by
      refine ⟨eP rows j r i sm ce la (some (.lst (l.map nI))) (some (nI x)) row, rfl, ?_, fun _ => rfl⟩
      refine ev_tCmp (ev_eOp rfl rfl ?_)
      have := eqII (neg := true) (cs := [dnP ps] ++ [Cell.lst acc]) (i := ((x : Nat) : Int)) (j := ((j : Nat) : Int))
      rw [eqN_ne] at this
      exact this)
  have em : ((l.filter fun k => !(k == j)).map fun x => D.tup [prD (j, x), .bl true]) = ((l.filter fun k => !(k == j)).map fun k => (j, k)).map fun p => D.tup [prD p, .bl true] := by
    rw [List.map_map]; rfl
  rw [em] at lc
  have hf : ((l.filter fun k => !(k == j)).map fun k => (j, k)).length ≤ l.length := by
    rw [List.length_map]
    exact List.length_filter_le _ _
  have ha := len_addP (qs := (l.filter fun k => !(k == j)).map fun k => (j, k)) (ps := [])
  rw [List.length_nil] at ha
  have := updN_pr (env := eP rows j r i sm ce la (some (.lst (l.map nI))) k row) (fo := eVar 1) (fe := eB hDictN (aCons (eLc (iL (eVar 10)) (gNm 11) (tCmp' (gEqB true) (eVar 11) (eVar 2)) (eTup (aCons (eTup (aCons (eVar 2) (aCons (eVar 11) aNil))) (aCons (eC (.bl true)) aNil))) [11]) aNil)) (cs := [dnP ps]) (n := 0) (ps := ps) (qs := (l.filter fun k => !(k == j)).map fun k => (j, k)) rfl rfl (ev_eB (ev_aCons lc rfl) (dictN_pr (by omega))) (fun p hp => by
      obtain ⟨x, hx, rfl⟩ := List.mem_map.mp hp
      exact ⟨hj, hb x (List.mem_filter.mp hx).1⟩) (by omega)
  exact this
end K21
namespace K21
open PySem L2 PyProof.Rows VL
theorem addP1_len {ps : List Pr} {q : Pr} : (addP1 ps q).length ≤ ps.length + 1 := by
  unfold addP1
  by_cases c : ps.elem q = true
  · rw [if_pos c]; omega
  · rw [if_neg c, List.length_append]; simp
theorem laterL_lt {rows : List Rw} {c : Str} {layer : Int} : ∀ x ∈ laterL rows c layer, x < rows.length := by
  intro x hx
  unfold laterL at hx
  obtain ⟨⟨k, r⟩, hy, rfl⟩ := List.mem_map.mp hx
  obtain ⟨_, h2⟩ := mem_ixR.mp (List.mem_filter.mp hy).1
  rw [Nat.sub_zero] at h2
  exact (List.getElem?_eq_some_iff.mp h2).1
theorem lawStep_len {rows : List Rw} {j : Nat} {g : Str × Int} {ps : List Pr} : (lawStep rows j g ps).length ≤ ps.length + 2 := by
  unfold lawStep
  have h1 := len_addP (qs := (((laterL rows g.1 g.2).take 1).filter fun k => !(k == j)).map fun k => (j, k)) (ps := if g.2 = -1 ∨ g.2 = ((j : Nat) : Int) then ps else addP1 ps (g.2.toNat, j))
  have h2 : ((((laterL rows g.1 g.2).take 1).filter fun k => !(k == j)).map fun k => (j, k)).length ≤ 1 := by
    rw [List.length_map]
    refine Nat.le_trans (List.length_filter_le _ _) ?_
    rw [List.length_take]
    omega
  have h3 : (if g.2 = -1 ∨ g.2 = ((j : Nat) : Int) then ps else addP1 ps (g.2.toNat, j)).length ≤ ps.length + 1 := by
    by_cases c : g.2 = -1 ∨ g.2 = ((j : Nat) : Int)
    · rw [if_pos c]; omega
    · rw [if_neg c]; exact addP1_len
  omega
theorem some_turn {rows : List Rw} {j : Nat} {r : Rw} {i sm lt k row : Option D} {ps : List Pr} {g : Str × Int} (hr : rows.length ≤ 20) (hj : j < 20) (hg : -1 ≤ g.2) (hz : ps.length ≤ 90000) :
    ∃ lt', b_some ⟨eP rows j r i sm (some (.str g.1)) (some (.int g.2)) lt k row, [dnP ps]⟩ = .nx ⟨eP rows j r i sm (some (.str g.1)) (some (.int g.2)) lt' k row, [dnP (lawStep rows j g ps)]⟩ := by
  obtain ⟨c, l⟩ := g
  dsimp only at hg ⊢
  refine ⟨some (.lst (((laterL rows c l).take 1).map nI)), ?_⟩
  have s1 : sAsg (eSl false (eLc (iEn (aCons (eVar 0) aNil)) (gTp 2 (gsCons (gNm 11) (gsCons (gNm 12) gsNil))) (tAnd' (tCmp' (gIn false) (eVar 8) (eOp gIx (eVar 12) (eC (.int 2)))) (tCmp' gGt (eVar 11) (eVar 9))) (eVar 11) [11, 12]) oNone (oSome (eC (.int 1)))) (gNm 10) ⟨eP rows j r i sm (some (.str c)) (some (.int l)) lt k row, [dnP ps]⟩ = .nx ⟨eP rows j r i sm (some (.str c)) (some (.int l)) (some (.lst (((laterL rows c l).take 1).map nI))) k row, [dnP ps]⟩ := by
    refine ev_sAsg (d := .lst (((laterL rows c l).take 1).map nI)) (c1 := [dnP ps]) (ev_eSl (later_read (by omega)) (lo := none) (hi := some 1) (c2 := [dnP ps]) (c3 := [dnP ps]) rfl rfl ?_) rfl
    show Out.ok (D.lst (VL.cutD ((laterL rows c l).map nI) none (some 1))) [dnP ps] = _
    rw [cut1]
  have t2 : tCmp' (gIn true) (eVar 9) (eTup (aCons (eOp gSub (eC (.int 0)) (eC (.int 1))) (aCons (eVar 2) aNil))) ⟨eP rows j r i sm (some (.str c)) (some (.int l)) (some (.lst (((laterL rows c l).take 1).map nI))) k row, [dnP ps]⟩ = .ok (!((((0 : Int) - 1) == l) || ((((j : Nat) : Int) == l) || false))) [dnP ps] := rfl
  have upd := fun ps' (hz' : ps'.length ≤ 100000) => lpairs_upd (rows := rows) (j := j) (r := r) (i := i) (sm := sm) (ce := some (.str c)) (la := some (.int l)) (k := k) (row := row) (ps := ps') (l := (laterL rows c l).take 1) (by rw [List.length_take]; omega) (fun x hx => by
    have := laterL_lt x (List.mem_of_mem_take hx)
    omega) hj hz'
  unfold lawStep
  dsimp only
  by_cases z : l = -1 ∨ l = ((j : Nat) : Int)
  · have e : (!((((0 : Int) - 1) == l) || ((((j : Nat) : Int) == l) || false))) = false := by
      rcases z with h | h
      · subst h; rfl
      · subst h; simp
    rw [e] at t2
    rw [if_pos z]
    exact ev_sSeq s1 (ev_sSeq (ev_sIfF t2 rfl) (ev_sExpr (upd ps (by omega))))
  · have e : (!((((0 : Int) - 1) == l) || ((((j : Nat) : Int) == l) || false))) = true := by
      have h1 : (((0 : Int) - 1) == l) = false := beq_eq_false_iff_ne.mpr fun h => z (.inl (by omega))
      have h2 : (((j : Nat) : Int) == l) = false := beq_eq_false_iff_ne.mpr fun h => z (.inr h.symm)
      rw [h1, h2]
      rfl
    rw [e] at t2
    rw [if_neg z]
    have hl0 : 0 ≤ l := by
      by_cases h : 0 ≤ l
      · exact h
      · exact absurd (.inl (by omega)) z
    have el : (l.toNat : Int) = l := Int.toNat_of_nonneg hl0
    have sk : sSetKN (eC (.bl true)) (eVar 1) (eTup (aCons (eVar 9) (aCons (eVar 2) aNil))) ⟨eP rows j r i sm (some (.str c)) (some (.int l)) (some (.lst (((laterL rows c l).take 1).map nI))) k row, [dnP ps]⟩ = .nx ⟨eP rows j r i sm (some (.str c)) (some (.int l)) (some (.lst (((laterL rows c l).take 1).map nI))) k row, [dnP (addP1 ps (l.toNat, j))]⟩ := by
      have h := setKN_pr (env := eP rows j r i sm (some (.str c)) (some (.int l)) (some (.lst (((laterL rows c l).take 1).map nI))) k row) (cs := [dnP ps]) (n := 0) (ps := ps) (q := (l.toNat, j)) rfl (by omega)
      have ed : prD (l.toNat, j) = .tup [.int l, nI j] := by
        show D.tup [.int (l.toNat : Int), nI j] = _
        rw [el]
      rw [ed] at h
      exact h
    exact ev_sSeq s1 (ev_sSeq (ev_sIfT t2 sk) (ev_sExpr (upd _ (by have := addP1_len (ps := ps) (q := (l.toNat, j)); omega))))
def lawSome (rows : List Rw) (j : Nat) : List (Str × Int) → List Pr → List Pr
  | [], ps => ps
  | g :: gs, ps => lawSome rows j gs (lawStep rows j g ps)
theorem some_loop {rows : List Rw} {j : Nat} {r : Rw} {i sm k row : Option D} (hr : rows.length ≤ 20) (hj : j < 20) : ∀ (gs : List (Str × Int)) {ps : List Pr} {ce la lt : Option D}, (∀ g ∈ gs, -1 ≤ g.2) → ps.length + gs.length * 2 ≤ 80000 →
    ∃ ce' la' lt', forL (gTp 2 (gsCons (gNm 8) (gsCons (gNm 9) gsNil))) b_some keepAll (gs.map getD2) ⟨eP rows j r i sm ce la lt k row, [dnP ps]⟩ = .nx ⟨eP rows j r i sm ce' la' lt' k row, [dnP (lawSome rows j gs ps)]⟩ ∧ (lawSome rows j gs ps).length ≤ ps.length + gs.length * 2
  | [], ps, ce, la, lt, _, _ => ⟨ce, la, lt, ev_forNil rfl, by simp [lawSome]⟩
  | g :: gs, ps, ce, la, lt, hg, hz => by
    rw [List.length_cons] at hz
    obtain ⟨lt1, h1⟩ := some_turn (r := r) (i := i) (sm := sm) (lt := lt) (k := k) (row := row) (ps := ps) (g := g) hr hj (hg g List.mem_cons_self) (by omega)
    have h2 := lawStep_len (rows := rows) (j := j) (g := g) (ps := ps)
    obtain ⟨ce2, la2, lt2, h3, h4⟩ := some_loop (r := r) (i := i) (sm := sm) (k := k) (row := row) hr hj gs (ps := lawStep rows j g ps) (ce := some (.str g.1)) (la := some (.int g.2)) (lt := lt1) (fun x hx => hg x (List.mem_cons_of_mem _ hx)) (by omega)
    refine ⟨ce2, la2, lt2, ?_, by rw [lawSome, List.length_cons]; omega⟩
    rw [List.map_cons]
    exact ev_forNx (st1 := ⟨eP rows j r i sm (some (.str g.1)) (some (.int g.2)) lt k row, [dnP ps]⟩) rfl rfl h1 h3
end K21
namespace K21
open PySem L2 PyProof.Rows VL
def lawRow (rows : List Rw) (j : Nat) (r : Rw) (ps : List Pr) : List Pr := lawSome rows j (someL j r) (addP ps (((List.range j).filter (sameTask rows r.task)).map fun i => (i, j)))
def lawRows (rows : List Rw) : Nat → List Rw → List Pr → List Pr
  | _, [], ps => ps
  | s, r :: rs, ps => lawRows rows (s + 1) rs (lawRow rows s r ps)
/-- rows as they are drawn: what they get comes from an earlier row or from none -/
structure RowOk (s : Nat) (r : Rw) : Prop where
  gl : r.gets.length ≤ 10
  pl : r.puts.length ≤ 10
  ge : ∀ g ∈ r.gets, -1 ≤ g.2 ∧ g.2 < s
def RowsOk : Nat → List Rw → Prop
  | _, [] => True
  | s, r :: rs => RowOk s r ∧ RowsOk (s + 1) rs
abbrev eQ (rows : List Rw) (a b c d i sm ce la lt k row : Option D) : List (Option D) := [some (.lst (rows.map rowD)), some (.loc 0), a, b, c, d, i, sm, ce, la, lt, k, row]
abbrev b_prow : Sx := (sSeq (sExpr (eUpdN (eVar 1) (eB hDictN (aCons (eLc (iR1 (aCons (eVar 2) aNil)) (gNm 6) (tCmp' (gEqB false) (eOp gIx (eOp gIx (eVar 0) (eVar 6)) (eC (.int 0))) (eVar 3)) (eTup (aCons (eTup (aCons (eVar 6) (aCons (eVar 2) aNil))) (aCons (eC (.bl true)) aNil))) [6]) aNil))))
    (sSeq (sAsg (eOp gAdd (eLc (iT (eVar 4)) (gTp 2 (gsCons (gNm 8) (gsCons (gNm 9) gsNil))) tTrue (eTup (aCons (eVar 8) (aCons (eVar 9) aNil))) [8, 9]) (eLc (iT (eVar 5)) (gNm 8) tTrue (eTup (aCons (eVar 8) (aCons (eVar 2) aNil))) [8])) (gNm 7))
    (sFor (iL (eVar 7)) (gTp 2 (gsCons (gNm 8) (gsCons (gNm 9) gsNil))) b_some)))
theorem prow_read {rows : List Rw} {j : Nat} {r : Rw} {i sm ce la lt k row : Option D} {ps : List Pr} (hr : rows.length ≤ 20) (hj : j < rows.length) (ok : RowOk j r) (hz : ps.length ≤ 50000) :
    ∃ sm' ce' la' lt', b_prow ⟨eP rows j r i sm ce la lt k row, [dnP ps]⟩ = .nx ⟨eP rows j r i sm' ce' la' lt' k row, [dnP (lawRow rows j r ps)]⟩ ∧ (lawRow rows j r ps).length ≤ ps.length + 100 := by
  have hq : (((List.range j).filter (sameTask rows r.task)).map fun i => (i, j)).length ≤ j := by
    rw [List.length_map]
    refine Nat.le_trans (List.length_filter_le _ _) ?_
    rw [List.length_range]
    omega
  have ha := len_addP (qs := ((List.range j).filter (sameTask rows r.task)).map fun i => (i, j)) (ps := [])
  have ha2 := len_addP (qs := ((List.range j).filter (sameTask rows r.task)).map fun i => (i, j)) (ps := ps)
  rw [List.length_nil] at ha
  have u := updN_pr (env := eP rows j r i sm ce la lt k row) (fo := eVar 1) (fe := eB hDictN (aCons (eLc (iR1 (aCons (eVar 2) aNil)) (gNm 6) (tCmp' (gEqB false) (eOp gIx (eOp gIx (eVar 0) (eVar 6)) (eC (.int 0))) (eVar 3)) (eTup (aCons (eTup (aCons (eVar 6) (aCons (eVar 2) aNil))) (aCons (eC (.bl true)) aNil))) [6]) aNil)) (cs := [dnP ps]) (n := 0) (ps := ps) (qs := ((List.range j).filter (sameTask rows r.task)).map fun i => (i, j)) rfl rfl
    (ev_eB (ev_aCons (tasks_read (by omega) (by omega)) rfl) (dictN_pr (by omega))) (fun p hp => by
      obtain ⟨x, hx, rfl⟩ := List.mem_map.mp hp
      have := List.mem_range.mp (List.mem_filter.mp hx).1
      exact ⟨by show x < 20; omega, by show j < 20; omega⟩) (by omega)
  have hsl : (someL j r).length ≤ 20 := by
    unfold someL
    rw [List.length_append, List.length_map]
    have := ok.gl
    have := ok.pl
    omega
  obtain ⟨ce', la', lt', h1, h2⟩ := some_loop (r := r) (i := i) (sm := some (.lst ((someL j r).map getD2))) (k := k) (row := row) hr (by omega : j < 20) (someL j r) (ps := addP ps (((List.range j).filter (sameTask rows r.task)).map fun i => (i, j))) (ce := ce) (la := la) (lt := lt) (fun g hg => by
    unfold someL at hg
    rcases List.mem_append.mp hg with h | h
    · exact (ok.ge g h).1
    · obtain ⟨c, _, rfl⟩ := List.mem_map.mp h
      show (-1 : Int) ≤ ((j : Nat) : Int)
      omega) (by omega)
  refine ⟨some (.lst ((someL j r).map getD2)), ce', la', lt', ?_, by unfold lawRow; omega⟩
  refine ev_sSeq (ev_sExpr u) (ev_sSeq (ev_sAsg (some_read (by have := ok.gl; have := ok.pl; omega)) rfl) ?_)
  exact ev_sFor (w := ((someL j r).map getD2, keepAll)) (c1 := [dnP (addP ps (((List.range j).filter (sameTask rows r.task)).map fun i => (i, j)))]) rfl h1
theorem rows_loop {rows : List Rw} (hr : rows.length ≤ 20) : ∀ (rs : List Rw) (s : Nat) {ps : List Pr} {a b c d i sm ce la lt k row : Option D}, s + rs.length = rows.length → RowsOk s rs → ps.length + rs.length * 100 ≤ 20000 →
    ∃ a' b' c' d' sm' ce' la' lt', forL (gTp 2 (gsCons (gNm 2) (gsCons (gTp 3 (gsCons (gNm 3) (gsCons (gNm 4) (gsCons (gNm 5) gsNil)))) gsNil))) b_prow keepAll (enR s rs) ⟨eQ rows a b c d i sm ce la lt k row, [dnP ps]⟩ = .nx ⟨eQ rows a' b' c' d' i sm' ce' la' lt' k row, [dnP (lawRows rows s rs ps)]⟩
  | [], s, ps, a, b, c, d, i, sm, ce, la, lt, k, row, _, _, _ => ⟨a, b, c, d, sm, ce, la, lt, ev_forNil rfl⟩
  | r :: rs, s, ps, a, b, c, d, i, sm, ce, la, lt, k, row, hs, ok, hz => by
    rw [List.length_cons] at hs hz
    obtain ⟨sm1, ce1, la1, lt1, h1, h2⟩ := prow_read (i := i) (sm := sm) (ce := ce) (la := la) (lt := lt) (k := k) (row := row) (ps := ps) hr (by omega : s < rows.length) ok.1 (by omega)
    obtain ⟨a2, b2, c2, d2, sm2, ce2, la2, lt2, h3⟩ := rows_loop hr rs (s + 1) (ps := lawRow rows s r ps) (a := some (nI s)) (b := some (nI r.task)) (c := some (.tup (r.gets.map getD2))) (d := some (.tup (r.puts.map D.str))) (i := i) (sm := sm1) (ce := ce1) (la := la1) (lt := lt1) (k := k) (row := row) (by omega) ok.2 (by omega)
    refine ⟨a2, b2, c2, d2, sm2, ce2, la2, lt2, ?_⟩
    exact ev_forNx (st1 := ⟨eP rows s r i sm ce la lt k row, [dnP ps]⟩) rfl rfl h1 h3
end K21
namespace K21
open PySem L2 PyProof.Rows VL
open PySem.W
def leP (p q : Pr) : Bool := leD (prD p) (prD q)
def srt (ps : List Pr) : List Pr := isort leP ps
theorem insO_map {p : Pr} : ∀ (ps : List Pr), insO leD (prD p) (ps.map prD) = (insO leP p ps).map prD
  | [] => rfl
  | q :: ps => by
    rw [List.map_cons]
    unfold insO
    by_cases c : leP p q = true
    · rw [if_pos c, if_pos (show leD (prD p) (prD q) = true from c)]
      rfl
    · rw [if_neg c, if_neg (show ¬ leD (prD p) (prD q) = true from c), insO_map ps]
      rfl
theorem sortG_pr : ∀ (ps : List Pr), sortG (ps.map prD) = (srt ps).map prD
  | [] => rfl
  | p :: ps => by
    show insO leD (prD p) (sortG (ps.map prD)) = _
    rw [sortG_pr ps, insO_map]
    rfl
theorem insO_perm {p : Pr} : ∀ (ps : List Pr), (insO leP p ps).Perm (p :: ps)
  | [] => List.Perm.refl _
  | q :: ps => by
    unfold insO
    by_cases c : leP p q = true
    · rw [if_pos c]
    · rw [if_neg c]
      exact (List.Perm.cons q (insO_perm ps)).trans (List.Perm.swap p q ps)
theorem srt_perm : ∀ (ps : List Pr), (srt ps).Perm ps
  | [] => List.Perm.refl _
  | p :: ps => (insO_perm (srt ps)).trans (List.Perm.cons p (srt_perm ps))
theorem plains_pr : ∀ (ps : List Pr), plains (ps.map prD) = true
  | [] => rfl
  | p :: ps => by
    rw [List.map_cons]
    simp [plains, VL.plain, prD, nI, plains_pr ps]
theorem py_pr (p : Pr) : py (prD p) = .tuple [.int (p.1 : Nat), .int (p.2 : Nat)] := rfl
theorem cond_pr (ps : List Pr) : (plains (ps.map prD) && alikeRow (pys (ps.map prD)) && sortableB (pys (ps.map prD)) && (pys (ps.map prD)).all (fun p => decide (p.depth ≤ 60))) = true := by
  have h : ∀ d ∈ pys (ps.map prD), ∃ p : Pr, d = .tuple [.int (p.1 : Nat), .int (p.2 : Nat)] := by
    intro d hd
    rw [pys_map, List.map_map] at hd
    obtain ⟨p, _, rfl⟩ := List.mem_map.mp hd
    exact ⟨p, rfl⟩
  rw [plains_pr]
  have h2 : alikeRow (pys (ps.map prD)) = true := by
    unfold alikeRow
    rw [List.all_eq_true]
    intro a ha
    rw [List.all_eq_true]
    intro b hb
    obtain ⟨p, rfl⟩ := h a ha
    obtain ⟨q, rfl⟩ := h b hb
    simp [alike, alikeAll]
  have h3 : sortableB (pys (ps.map prD)) = true := by
    unfold sortableB
    rw [Bool.or_eq_true]
    refine .inl ?_
    rw [List.all_eq_true]
    intro a ha
    obtain ⟨p, rfl⟩ := h a ha
    rfl
  have h4 : ((pys (ps.map prD)).all fun p => decide (p.depth ≤ 60)) = true := by
    rw [List.all_eq_true]
    intro a ha
    obtain ⟨p, rfl⟩ := h a ha
    refine decide_eq_true ?_
    simp [PyData.depth, PyData.depthAll]
  rw [h2, h3, h4]
  rfl
theorem toks_pr (p : Pr) : keyToks (py (prD p)) = [.inl 1, .inl (p.1 : Nat), .inl 1, .inl (p.2 : Nat), .inl 0] := by
  rw [py_pr]
  simp [keyToks, keyToksAll]
theorem srt_uniq {ps qs : List Pr} (h : ps.Perm qs) : srt ps = srt qs := by
  have T : TotalLe leP := ⟨fun a b c => leD_total.trans (prD a) (prD b) (prD c), fun a b => leD_total.total (prD a) (prD b)⟩
  refine List.Perm.eq_of_pairwise (le := fun a b => leP a b = true) (fun a b _ _ h1 h2 => ?_) (isort_pw T ps) (isort_pw T qs) ((srt_perm ps).trans (h.trans (srt_perm qs).symm))
  have e1 : (!(listOrd itemOrd).blt (keyToks (py (prD b))) (keyToks (py (prD a)))) = true := h1
  have e2 : (!(listOrd itemOrd).blt (keyToks (py (prD a))) (keyToks (py (prD b)))) = true := h2
  have e := (listOrd itemOrd).total _ _ (by simpa using e2) (by simpa using e1)
  rw [toks_pr, toks_pr] at e
  obtain ⟨a1, a2⟩ := a
  obtain ⟨b1, b2⟩ := b
  injection e with _ e
  injection e with x1 e
  injection e with _ e
  injection e with x2 e
  have x1 : ((a1 : Nat) : Int) = ((b1 : Nat) : Int) := Sum.inl.inj x1
  have x2 : ((a2 : Nat) : Int) = ((b2 : Nat) : Int) := Sum.inl.inj x2
  rw [show a1 = b1 by omega, show a2 = b2 by omega]
end K21
namespace K21
open PySem L2 PyProof.Rows VL
def lawT (rows : List Rw) : List Pr := lawRows rows 0 rows []
theorem listN_pr {cs : List Cell} {n : Nat} {ps : List Pr} (h : cs[n]? = some (dnP ps)) : hListN false cs [.loc n] = .ok (.lst (ps.map prD)) cs := by
  have d1 : dcnOf cs (.loc n) = some (ps.map prD, ps.map fun _ => .bl true) := by
    unfold dcnOf
    simp only [h]
    rfl
  show (match dcnOf cs (.loc n) with
    | some (ks, _) => if false then newCell ks cs else Out.ok (D.lst ks) cs
    | none => .no) = _
  rw [d1]
  rfl
theorem sortG_ok {cs : List Cell} (ps : List Pr) : hSortG cs [.lst (ps.map prD)] = .ok (.lst ((srt ps).map prD)) cs := by
  show (if plains (ps.map prD) && alikeRow (pys (ps.map prD)) && sortableB (pys (ps.map prD)) && (pys (ps.map prD)).all (fun p => decide (p.depth ≤ 60)) then Out.ok (D.lst (sortG (ps.map prD))) cs else .no) = _
  rw [cond_pr, sortG_pr]
  rfl
theorem belows_prs {n : Nat} (ps : List Pr) : belows n (ps.map prD) = true := belows_of fun x hx => by
  obtain ⟨p, _, rfl⟩ := List.mem_map.mp hx
  rfl
theorem lpairs_ok {rows : List Rw} (hr : rows.length ≤ 20) (ok : RowsOk 0 rows) : lpairsF [.lst (rows.map rowD)] [] = .ok (.lst ((srt (lawT rows)).map prD)) [] := by
  obtain ⟨a, b, c, d, sm, ce, la, lt, h⟩ := rows_loop hr rows 0 (ps := []) (a := none) (b := none) (c := none) (d := none) (i := none) (sm := none) (ce := none) (la := none) (lt := none) (k := none) (row := none) (by omega) ok (by simp; omega)
  have run : runF 13 b_lpairs [.lst (rows.map rowD)] [] = .ok (.lst ((srt (lawT rows)).map prD)) [dnP (lawT rows)] := by
    refine ev_runRt (n := 13) (sf := b_lpairs) (ds := [.lst (rows.map rowD)]) (cs := []) (d := .lst ((srt (lawT rows)).map prD)) (env := [some (.lst (rows.map rowD)), none, none, none, none, none, none, none, none, none, none, none, none]) (st1 := ⟨eQ rows a b c d none sm ce la lt none none, [dnP (lawT rows)]⟩) rfl ?_
    refine ev_sSeq (st1 := ⟨eQ rows none none none none none none none none none none none, [dnP []]⟩) (ev_sAsg (d := .loc 0) (c1 := [dnP []]) rfl rfl) ?_
    have hs : iEn (aCons (eVar 0) aNil) ⟨eQ rows none none none none none none none none none none none, [dnP []]⟩ = .ok (enR 0 rows, keepAll) [dnP []] := by
      rw [← enum_rows]
      rfl
    refine ev_sSeq (ev_sFor (w := (enR 0 rows, keepAll)) (c1 := [dnP []]) hs h) (ev_sRet ?_)
    exact ev_eB (c1 := [dnP (lawT rows)]) (xs := [.lst ((lawT rows).map prD)]) (ev_aCons (c1 := [dnP (lawT rows)]) (ev_eB (c1 := [dnP (lawT rows)]) (xs := [.loc 0]) rfl (listN_pr rfl)) rfl) (sortG_ok _)
  exact trimF_of (cs := []) (d := .lst ((srt (lawT rows)).map prD)) run rfl (outD_low (belows_prs _) fun m e => by cases e)
end K21
namespace K21
open PySem L2 PyProof.Rows VL
def upP (p : List Pr) (x v : Nat) : List Pr := if p.any (fun e => e.1 == x) = true then p.map (fun e => if e.1 = x then (x, v) else e) else p ++ [(x, v)]
theorem any_P2 {x : Nat} : ∀ (p : List Pr), ((p.map fun e => kI e.1).any fun j => sameKey j (kI x)) = p.any fun e => e.1 == x
  | [] => rfl
  | e :: p => by rw [List.map_cons, List.any_cons, any_P2 p, sameKI, List.any_cons]
theorem setK_P {x v : Nat} : ∀ (p : List Pr), setK (kI x) (nI v) (p.map fun e => kI e.1) (p.map fun e => nI e.2) = (p.map fun e => if e.1 = x then (x, v) else e).map (fun e => nI e.2) ∧ (p.map fun e => if e.1 = x then (x, v) else e).map (fun e => kI e.1) = p.map fun e => kI e.1
  | [] => ⟨rfl, rfl⟩
  | (k, w) :: p => by
    obtain ⟨h1, h2⟩ := setK_P (x := x) (v := v) p
    simp only [List.map_cons]
    unfold setK
    rw [h1, h2, sameKI]
    by_cases c : k = x
    · subst c; simp
    · simp [c]
theorem put_P {p : List Pr} {x v : Nat} : putKD (kI x) (nI v) (p.map fun e => kI e.1) (p.map fun e => nI e.2) = ((upP p x v).map (fun e => kI e.1), (upP p x v).map fun e => nI e.2) := by
  unfold putKD upP
  rw [any_P2]
  by_cases c : (p.any fun e => e.1 == x) = true
  · rw [if_pos c, if_pos c, (setK_P p).1, (setK_P (x := x) (v := v) p).2]
  · rw [if_neg c, if_neg c, List.map_append, List.map_append]
    rfl
theorem upP_len {p : List Pr} {x v : Nat} : (upP p x v).length ≤ p.length + 1 := by
  unfold upP
  by_cases c : (p.any fun e => e.1 == x) = true
  · rw [if_pos c, List.length_map]; omega
  · rw [if_neg c, List.length_append]; simp
theorem look_upP {x v y : Nat} {p : List Pr} : look (upP p x v) y = if y = x then some v else look p y := by
  have m : ∀ (p : List Pr), look (p.map fun e => if e.1 = x then (x, v) else e) y = if y = x then (if (p.any fun e => e.1 == x) = true then some v else none) else look p y := by
    intro p
    induction p with
    | nil => simp [look]
    | cons e p ih =>
      obtain ⟨k, w⟩ := e
      rw [List.map_cons]
      by_cases c : k = x
      · subst c
        rw [if_pos rfl]
        unfold look
        rw [ih]
        by_cases d : y = k
        · subst d; simp
        · rw [if_neg d, if_neg d, if_neg fun e => d e.symm, if_neg fun e => d e.symm]
      · rw [if_neg c]
        unfold look
        rw [ih]
        by_cases d : k = y
        · subst d
          rw [if_pos rfl, if_pos rfl, if_neg c]
        · rw [if_neg d, if_neg d]
          by_cases z : y = x
          · rw [if_pos z, if_pos z, List.any_cons, show (k == x) = false from beq_eq_false_iff_ne.mpr c, Bool.false_or]
          · rw [if_neg z, if_neg z]
  unfold upP
  by_cases c : (p.any fun e => e.1 == x) = true
  · rw [if_pos c, m, if_pos c]
  · rw [if_neg c]
    have hn : look p x = none := look_none.mpr fun h => by
      obtain ⟨e, he, h2⟩ := List.mem_map.mp h
      exact c (List.any_eq_true.mpr ⟨e, he, by simpa using h2⟩)
    exact look_snoc hn
end K21
namespace K21
open PySem L2 PyProof.Rows VL
abbrev cT (cs0 : List Cell) (ps p : List Pr) : List Cell := cs0 ++ [dnP ps, dkP p]
theorem cT_0 {cs0 : List Cell} {ps p : List Pr} : (cT cs0 ps p)[cs0.length]? = some (dnP ps) := by
  rw [List.getElem?_append_right (Nat.le_refl _), Nat.sub_self]; rfl
theorem cT_1 {cs0 : List Cell} {ps p : List Pr} : (cT cs0 ps p)[cs0.length + 1]? = some (dkP p) := by
  rw [List.getElem?_append_right (by omega), Nat.add_sub_cancel_left]; rfl
theorem cT_set0 {cs0 : List Cell} {ps ps' p : List Pr} : (cT cs0 ps p).set cs0.length (dnP ps') = cT cs0 ps' p := by
  rw [List.set_append_right _ _ (Nat.le_refl _), Nat.sub_self]; rfl
theorem cT_set1 {cs0 : List Cell} {ps p p' : List Pr} : (cT cs0 ps p).set (cs0.length + 1) (dkP p') = cT cs0 ps p' := by
  rw [List.set_append_right _ _ (by omega), Nat.add_sub_cancel_left]; rfl
theorem cT_low {cs0 : List Cell} {ps p : List Pr} (low : Low cs0) : Low (cT cs0 ps p) := by
  have : cT cs0 ps p = (cs0 ++ [dnP ps]) ++ [dkP p] := by simp
  rw [this]
  refine (low.snoc fun k _ => ?_).snoc fun _ _ => low_dkP
  have := dnP_low (ps := ps) (k := k)
  simpa using this
abbrev eT (dr : D) (m j : Nat) (a b c ce la lt : Option D) : List (Option D) := [some dr, some (.loc 0), some (.loc m), some (.loc (m + 1)), some (nI j), a, b, c, ce, la, lt]
def tEnd (j : Nat) (o : Option Nat) (ps : List Pr) : List Pr := match o with
  | some k => if k = j then ps else addP1 ps (j, k)
  | none => ps
def tGet (lay : Key → List Nat) (j : Nat) (g : Str × Int) (ps : List Pr) : List Pr :=
  tEnd j (nextOf (lay (.inr g.1)) g.2) (if 0 ≤ g.2 ∧ g.2 ≠ ((j : Nat) : Int) then addP1 ps (g.2.toNat, j) else ps)
theorem setT {cs0 : List Cell} {ps p : List Pr} {q : Pr} {env : List (Option D)} {fo fi : Ex} {x : D} (hx : x = prD q) (h1 : fo ⟨env, cT cs0 ps p⟩ = .ok (.loc cs0.length) (cT cs0 ps p)) (h2 : fi ⟨env, cT cs0 ps p⟩ = .ok x (cT cs0 ps p)) (hz : ps.length < 16777216) : sSetKN (eC (.bl true)) fo fi ⟨env, cT cs0 ps p⟩ = .nx ⟨env, cT cs0 (addP1 ps q) p⟩ := by
  subst hx
  unfold sSetKN
  simp only [eC, thenS, h1, h2]
  rw [setKN_pr cT_0 hz, cT_set0]
theorem next_trim {cs0 : List Cell} {ps p : List Pr} {f : Key → List Nat} {ks : List Key} {ms : List Nat} {env : List (Option D)} {ga : Ax} {d : D} {k : Key} {layer : Int} (q : DLw cs0 0 f ks ms) (low : Low cs0) (hz : cs0.length < 900000) (hk : keyD d = some k) (hg : ga ⟨env, cT cs0 ps p⟩ = .ok [.loc 0, d, .int layer] (cT cs0 ps p)) : trimX (eCallAll nextF ga) ⟨env, cT cs0 ps p⟩ = .ok (optN (nextOf (f k) layer)) (cT cs0 ps p) := by
  have n := next_ok (layer := layer) (dl_app (t := [dnP ps, dkP p]) q) (cT_low low) (by simp; omega) hk
  have e : eCallAll nextF ga ⟨env, cT cs0 ps p⟩ = .ok (optN (nextOf (f k) layer)) (cT cs0 ps p) := ev_eCallAll hg n
  have tk : (cT cs0 ps p).take (cT cs0 ps p).length = cT cs0 ps p := List.take_length
  have t := ev_trimX (st := ⟨env, cT cs0 ps p⟩) e (by
    show ((cT cs0 ps p).take (cT cs0 ps p).length).all (belowC (cT cs0 ps p).length) = true
    rw [tk]
    exact (cT_low low).all) (outD_low (by cases nextOf (f k) layer <;> rfl) fun m e => by cases h : nextOf (f k) layer <;> rw [h] at e <;> cases e)
  rw [t]
  show Out.ok _ ((cT cs0 ps p).take (cT cs0 ps p).length) = _
  rw [tk]
abbrev b_end : Sx := (sIf (tAnd' (tCmp' (gIs true) (eVar 10) (eC .non)) (tCmp' (gEqB true) (eVar 10) (eVar 4))) (sSetKN (eC (.bl true)) (eVar 2) (eTup (aCons (eVar 4) (aCons (eVar 10) aNil)))) sNil)
theorem end_read {cs0 : List Cell} {ps p : List Pr} {dr : D} {j : Nat} {a b c ce la : Option D} {o : Option Nat} (hz : ps.length < 16777216) : b_end ⟨eT dr cs0.length j a b c ce la (some (optN o)), cT cs0 ps p⟩ = .nx ⟨eT dr cs0.length j a b c ce la (some (optN o)), cT cs0 (tEnd j o ps) p⟩ := by
  cases o with
  | none => exact ev_sIfF (ev_tAndF rfl) rfl
  | some k =>
    have t : tCmp' (gEqB true) (eVar 10) (eVar 4) ⟨eT dr cs0.length j a b c ce la (some (nI k)), cT cs0 ps p⟩ = .ok (!(k == j)) (cT cs0 ps p) := by
      refine ev_tCmp (ev_eOp rfl rfl ?_)
      have := eqII (neg := true) (cs := cT cs0 ps p) (i := ((k : Nat) : Int)) (j := ((j : Nat) : Int))
      rw [eqN_ne] at this
      exact this
    unfold tEnd
    by_cases z : k = j
    · rw [show (k == j) = true from by simpa using z] at t
      simp only [z, if_true]
      subst z
      exact ev_sIfF (ev_tAndT rfl t) rfl
    · rw [show (k == j) = false from by simpa using z] at t
      simp only [z, if_false]
      exact ev_sIfT (ev_tAndT rfl t) (setT (q := (j, k)) rfl rfl rfl hz)
end K21
namespace K21
open PySem L2 PyProof.Rows VL
abbrev b_tget : Sx := (sSeq (sIf (tAnd' (tCmp' gGe (eVar 9) (eC (.int 0))) (tCmp' (gEqB true) (eVar 9) (eVar 4))) (sSetKN (eC (.bl true)) (eVar 2) (eTup (aCons (eVar 9) (aCons (eVar 4) aNil)))) sNil)
    (sSeq (sAsg (trimX (eCallAll nextF (aCons (eVar 1) (aCons (eVar 8) (aCons (eVar 9) aNil))))) (gNm 10)) b_end))
theorem tEnd_len {j : Nat} {o : Option Nat} {ps : List Pr} : (tEnd j o ps).length ≤ ps.length + 1 := by
  cases o with
  | none => exact Nat.le_succ _
  | some k =>
    unfold tEnd
    by_cases z : k = j
    · simp only [z, if_true]; omega
    · simp only [z, if_false]; exact addP1_len
theorem tGet_len {lay : Key → List Nat} {j : Nat} {g : Str × Int} {ps : List Pr} : (tGet lay j g ps).length ≤ ps.length + 2 := by
  unfold tGet
  have h := tEnd_len (j := j) (o := nextOf (lay (.inr g.1)) g.2) (ps := if 0 ≤ g.2 ∧ g.2 ≠ ((j : Nat) : Int) then addP1 ps (g.2.toNat, j) else ps)
  have h2 : (if 0 ≤ g.2 ∧ g.2 ≠ ((j : Nat) : Int) then addP1 ps (g.2.toNat, j) else ps).length ≤ ps.length + 1 := by
    by_cases c : 0 ≤ g.2 ∧ g.2 ≠ ((j : Nat) : Int)
    · rw [if_pos c]; exact addP1_len
    · rw [if_neg c]; omega
  omega
theorem tget_turn {cs0 : List Cell} {ps p : List Pr} {lay : Key → List Nat} {ks : List Key} {ms : List Nat} {dr : D} {j : Nat} {a b c lt : Option D} {g : Str × Int} (q : DLw cs0 0 lay ks ms) (low : Low cs0) (hc : cs0.length < 900000) (hz : ps.length < 1000000) :
    ∃ lt', b_tget ⟨eT dr cs0.length j a b c (some (.str g.1)) (some (.int g.2)) lt, cT cs0 ps p⟩ = .nx ⟨eT dr cs0.length j a b c (some (.str g.1)) (some (.int g.2)) lt', cT cs0 (tGet lay j g ps) p⟩ := by
  obtain ⟨cc, l⟩ := g
  dsimp only
  refine ⟨some (optN (nextOf (lay (.inr cc)) l)), ?_⟩
  have t1 : tCmp' gGe (eVar 9) (eC (.int 0)) ⟨eT dr cs0.length j a b c (some (.str cc)) (some (.int l)) lt, cT cs0 ps p⟩ = .ok (decide (l ≥ 0)) (cT cs0 ps p) := rfl
  have t2 : tCmp' (gEqB true) (eVar 9) (eVar 4) ⟨eT dr cs0.length j a b c (some (.str cc)) (some (.int l)) lt, cT cs0 ps p⟩ = .ok (!(l == ((j : Nat) : Int))) (cT cs0 ps p) := by
    refine ev_tCmp (ev_eOp rfl rfl ?_)
    exact eqII (neg := true) (cs := cT cs0 ps p) (i := l) (j := ((j : Nat) : Int))
  have nx : ∀ ps', ps'.length < 2000000 → sSeq (sAsg (trimX (eCallAll nextF (aCons (eVar 1) (aCons (eVar 8) (aCons (eVar 9) aNil))))) (gNm 10)) b_end ⟨eT dr cs0.length j a b c (some (.str cc)) (some (.int l)) lt, cT cs0 ps' p⟩ = .nx ⟨eT dr cs0.length j a b c (some (.str cc)) (some (.int l)) (some (optN (nextOf (lay (.inr cc)) l))), cT cs0 (tEnd j (nextOf (lay (.inr cc)) l) ps') p⟩ := fun ps' h =>
    ev_sSeq (ev_sAsg (next_trim (d := .str cc) (k := .inr cc) q low hc rfl rfl) rfl) (end_read (by omega))
  unfold tGet
  dsimp only
  by_cases z : 0 ≤ l ∧ l ≠ ((j : Nat) : Int)
  · rw [if_pos z]
    rw [show decide (l ≥ 0) = true from decide_eq_true z.1] at t1
    rw [show (l == ((j : Nat) : Int)) = false from beq_eq_false_iff_ne.mpr z.2] at t2
    have el : (l.toNat : Int) = l := Int.toNat_of_nonneg z.1
    have ed : D.tup [.int l, nI j] = prD (l.toNat, j) := by
      show _ = D.tup [.int (l.toNat : Int), nI j]
      rw [el]
    exact ev_sSeq (ev_sIfT (ev_tAndT t1 t2) (setT (q := (l.toNat, j)) ed rfl rfl (by omega))) (nx _ (by have := addP1_len (ps := ps) (q := (l.toNat, j)); omega))
  · rw [if_neg z]
    by_cases z1 : 0 ≤ l
    · have e : l = ((j : Nat) : Int) := by
        by_cases h : l = ((j : Nat) : Int)
        · exact h
        · exact absurd ⟨z1, h⟩ z
      rw [show decide (l ≥ 0) = true from decide_eq_true z1] at t1
      rw [show (l == ((j : Nat) : Int)) = true from by simpa using e] at t2
      exact ev_sSeq (ev_sIfF (ev_tAndT t1 t2) rfl) (nx ps (by omega))
    · rw [show decide (l ≥ 0) = false from decide_eq_false z1] at t1
      exact ev_sSeq (ev_sIfF (ev_tAndF t1) rfl) (nx ps (by omega))
end K21
namespace K21
open PySem L2 PyProof.Rows VL
def tGets (lay : Key → List Nat) (j : Nat) : List (Str × Int) → List Pr → List Pr
  | [], ps => ps
  | g :: gs, ps => tGets lay j gs (tGet lay j g ps)
def tPuts (lay : Key → List Nat) (j : Nat) : List Str → List Pr → List Pr
  | [], ps => ps
  | c :: cs, ps => tPuts lay j cs (match nextOf (lay (.inr c)) ((j : Nat) : Int) with
    | some k => addP1 ps (j, k)
    | none => ps)
theorem tgets_read {cs0 : List Cell} {p : List Pr} {lay : Key → List Nat} {ks : List Key} {ms : List Nat} {dr : D} {j : Nat} {a b c : Option D} (q : DLw cs0 0 lay ks ms) (low : Low cs0) (hc : cs0.length < 900000) : ∀ (gs : List (Str × Int)) {ps : List Pr} {ce la lt : Option D}, ps.length + gs.length * 2 < 900000 →
    ∃ ce' la' lt', forL (gTp 2 (gsCons (gNm 8) (gsCons (gNm 9) gsNil))) b_tget keepAll (gs.map getD2) ⟨eT dr cs0.length j a b c ce la lt, cT cs0 ps p⟩ = .nx ⟨eT dr cs0.length j a b c ce' la' lt', cT cs0 (tGets lay j gs ps) p⟩ ∧ (tGets lay j gs ps).length ≤ ps.length + gs.length * 2
  | [], ps, ce, la, lt, _ => ⟨ce, la, lt, ev_forNil rfl, by simp [tGets]⟩
  | g :: gs, ps, ce, la, lt, hz => by
    rw [List.length_cons] at hz
    obtain ⟨lt1, h1⟩ := tget_turn (ps := ps) (p := p) (dr := dr) (j := j) (a := a) (b := b) (c := c) (lt := lt) (g := g) q low hc (by omega)
    have h2 := tGet_len (lay := lay) (j := j) (g := g) (ps := ps)
    obtain ⟨ce2, la2, lt2, h3, h4⟩ := tgets_read (p := p) (dr := dr) (j := j) (a := a) (b := b) (c := c) q low hc gs (ps := tGet lay j g ps) (ce := some (.str g.1)) (la := some (.int g.2)) (lt := lt1) (by omega)
    refine ⟨ce2, la2, lt2, ?_, by rw [tGets, List.length_cons]; omega⟩
    rw [List.map_cons]
    exact ev_forNx (st1 := ⟨eT dr cs0.length j a b c (some (.str g.1)) (some (.int g.2)) lt, cT cs0 ps p⟩) rfl rfl h1 h3
abbrev b_tput : Sx := (sSeq (sAsg (trimX (eCallAll nextF (aCons (eVar 1) (aCons (eVar 8) (aCons (eVar 4) aNil))))) (gNm 10))
    (sIf (tCmp' (gIs true) (eVar 10) (eC .non)) (sSetKN (eC (.bl true)) (eVar 2) (eTup (aCons (eVar 4) (aCons (eVar 10) aNil)))) sNil))
theorem tputs_read {cs0 : List Cell} {p : List Pr} {lay : Key → List Nat} {ks : List Key} {ms : List Nat} {dr : D} {j : Nat} {a b c la : Option D} (q : DLw cs0 0 lay ks ms) (low : Low cs0) (hc : cs0.length < 900000) : ∀ (gs : List Str) {ps : List Pr} {ce lt : Option D}, ps.length + gs.length < 900000 →
    ∃ ce' lt', forL (gNm 8) b_tput keepAll (gs.map D.str) ⟨eT dr cs0.length j a b c ce la lt, cT cs0 ps p⟩ = .nx ⟨eT dr cs0.length j a b c ce' la lt', cT cs0 (tPuts lay j gs ps) p⟩ ∧ (tPuts lay j gs ps).length ≤ ps.length + gs.length
  | [], ps, ce, lt, _ => ⟨ce, lt, ev_forNil rfl, by simp [tPuts]⟩
  | g :: gs, ps, ce, lt, hz => by
    rw [List.length_cons] at hz
    have s1 : sAsg (trimX (eCallAll nextF (aCons (eVar 1) (aCons (eVar 8) (aCons (eVar 4) aNil))))) (gNm 10) ⟨eT dr cs0.length j a b c (some (.str g)) la lt, cT cs0 ps p⟩ = .nx ⟨eT dr cs0.length j a b c (some (.str g)) la (some (optN (nextOf (lay (.inr g)) ((j : Nat) : Int)))), cT cs0 ps p⟩ := ev_sAsg (next_trim (d := .str g) (k := .inr g) q low hc rfl rfl) rfl
    have fin : ∀ ps1, ps1.length ≤ ps.length + 1 → b_tput ⟨eT dr cs0.length j a b c (some (.str g)) la lt, cT cs0 ps p⟩ = .nx ⟨eT dr cs0.length j a b c (some (.str g)) la (some (optN (nextOf (lay (.inr g)) ((j : Nat) : Int)))), cT cs0 ps1 p⟩ →
        ∃ ce' lt', forL (gNm 8) b_tput keepAll ((g :: gs).map D.str) ⟨eT dr cs0.length j a b c ce la lt, cT cs0 ps p⟩ = .nx ⟨eT dr cs0.length j a b c ce' la lt', cT cs0 (tPuts lay j gs ps1) p⟩ ∧ (tPuts lay j gs ps1).length ≤ ps.length + (g :: gs).length := fun ps1 hl h => by
      obtain ⟨ce2, lt2, h3, h4⟩ := tputs_read (p := p) (dr := dr) (j := j) (a := a) (b := b) (c := c) (la := la) q low hc gs (ps := ps1) (ce := some (.str g)) (lt := some (optN (nextOf (lay (.inr g)) ((j : Nat) : Int)))) (by omega)
      refine ⟨ce2, lt2, ?_, by rw [List.length_cons]; omega⟩
      rw [List.map_cons]
      exact ev_forNx (st1 := ⟨eT dr cs0.length j a b c (some (.str g)) la lt, cT cs0 ps p⟩) rfl rfl h h3
    rw [tPuts]
    cases e : nextOf (lay (.inr g)) ((j : Nat) : Int) with
    | none =>
      rw [e] at s1 fin
      exact fin ps (by omega) (ev_sSeq s1 (ev_sIfF rfl rfl))
    | some k =>
      rw [e] at s1 fin
      exact fin (addP1 ps (j, k)) addP1_len (ev_sSeq s1 (ev_sIfT rfl (setT (q := (j, k)) rfl rfl rfl (by omega))))
end K21
namespace K21
open PySem L2 PyProof.Rows VL
def tRow (lay : Key → List Nat) (j : Nat) (r : Rw) (p : List Pr) (ps : List Pr) : List Pr := tPuts lay j r.puts (tGets lay j r.gets (match look p r.task with
  | some k => addP1 ps (k, j)
  | none => ps))
def tRows (lay : Key → List Nat) : Nat → List Rw → List Pr → List Pr → List Pr
  | _, [], _, ps => ps
  | s, r :: rs, p, ps => tRows lay (s + 1) rs (upP p r.task s) (tRow lay s r p ps)
abbrev b_trow : Sx := (sSeq (sIf (tCmp' (gInD false) (eVar 5) (eVar 3)) (sSetKN (eC (.bl true)) (eVar 2) (eTup (aCons (eOp gIxD (eVar 3) (eVar 5)) (aCons (eVar 4) aNil)))) sNil)
    (sSeq (sSetKD (eVar 4) (eVar 3) (eVar 5))
    (sSeq (sFor (iT (eVar 6)) (gTp 2 (gsCons (gNm 8) (gsCons (gNm 9) gsNil))) b_tget) (sFor (iT (eVar 7)) (gNm 8) b_tput))))
theorem setKD_T {cs0 : List Cell} {ps p : List Pr} {x v : Nat} {env : List (Option D)} (hz : p.length < 16777216) : setKD (.loc (cs0.length + 1)) (nI x) (nI v) ⟨env, cT cs0 ps p⟩ = .nx ⟨env, cT cs0 ps (upP p x v)⟩ := by
  have d1 : dkAt (cT cs0 ps p) (.loc (cs0.length + 1)) = some (cs0.length + 1, p.map (fun e => kI e.1), p.map fun e => nI e.2) := by
    unfold dkAt
    simp only [cT_1]
    rfl
  unfold setKD
  show (match dkAt (cT cs0 ps p) (.loc (cs0.length + 1)), some (kI x) with
    | some (n, ks, ds), some j => if ks.length < 16777216 then SOut.nx ⟨env, (cT cs0 ps p).set n (.dk (putKD j (nI v) ks ds).1 (putKD j (nI v) ks ds).2)⟩ else .no
    | _, _ => .no) = _
  rw [d1]
  dsimp only
  rw [if_pos (by rw [List.length_map]; exact hz), put_P]
  show SOut.nx ⟨env, (cT cs0 ps p).set (cs0.length + 1) (dkP (upP p x v))⟩ = _
  rw [cT_set1]
theorem trow_read {cs0 : List Cell} {ps p : List Pr} {lay : Key → List Nat} {ks : List Key} {ms : List Nat} {dr : D} {j : Nat} {r : Rw} {ce la lt : Option D} (q : DLw cs0 0 lay ks ms) (low : Low cs0) (hc : cs0.length < 900000) (gl : r.gets.length ≤ 10) (pl : r.puts.length ≤ 10) (hp : p.length < 100000) (hz : ps.length < 100000) :
    ∃ ce' la' lt', b_trow ⟨eT dr cs0.length j (some (nI r.task)) (some (.tup (r.gets.map getD2))) (some (.tup (r.puts.map D.str))) ce la lt, cT cs0 ps p⟩ = .nx ⟨eT dr cs0.length j (some (nI r.task)) (some (.tup (r.gets.map getD2))) (some (.tup (r.puts.map D.str))) ce' la' lt', cT cs0 (tRow lay j r p ps) (upP p r.task j)⟩ ∧ (tRow lay j r p ps).length ≤ ps.length + 40 := by
  have t : tCmp' (gInD false) (eVar 5) (eVar 3) ⟨eT dr cs0.length j (some (nI r.task)) (some (.tup (r.gets.map getD2))) (some (.tup (r.puts.map D.str))) ce la lt, cT cs0 ps p⟩ = .ok ((look p r.task).isSome) (cT cs0 ps p) := ev_tCmp (ev_eOp rfl rfl (inP cT_1))
  have rest : ∀ ps1, ps1.length ≤ ps.length + 1 → ∃ ce' la' lt', sSeq (sSetKD (eVar 4) (eVar 3) (eVar 5)) (sSeq (sFor (iT (eVar 6)) (gTp 2 (gsCons (gNm 8) (gsCons (gNm 9) gsNil))) b_tget) (sFor (iT (eVar 7)) (gNm 8) b_tput)) ⟨eT dr cs0.length j (some (nI r.task)) (some (.tup (r.gets.map getD2))) (some (.tup (r.puts.map D.str))) ce la lt, cT cs0 ps1 p⟩ = .nx ⟨eT dr cs0.length j (some (nI r.task)) (some (.tup (r.gets.map getD2))) (some (.tup (r.puts.map D.str))) ce' la' lt', cT cs0 (tPuts lay j r.puts (tGets lay j r.gets ps1)) (upP p r.task j)⟩ ∧ (tPuts lay j r.puts (tGets lay j r.gets ps1)).length ≤ ps.length + 40 := fun ps1 hl => by
    obtain ⟨ce1, la1, lt1, h1, l1⟩ := tgets_read (p := upP p r.task j) (dr := dr) (j := j) (a := some (nI r.task)) (b := some (.tup (r.gets.map getD2))) (c := some (.tup (r.puts.map D.str))) q low hc r.gets (ps := ps1) (ce := ce) (la := la) (lt := lt) (by omega)
    obtain ⟨ce2, lt2, h2, l2⟩ := tputs_read (p := upP p r.task j) (dr := dr) (j := j) (a := some (nI r.task)) (b := some (.tup (r.gets.map getD2))) (c := some (.tup (r.puts.map D.str))) (la := la1) q low hc r.puts (ps := tGets lay j r.gets ps1) (ce := ce1) (lt := lt1) (by omega)
    refine ⟨ce2, la1, lt2, ?_, by omega⟩
    refine ev_sSeq (ev_setKD (v := nI j) (o := .loc (cs0.length + 1)) (k := nI r.task) (c1 := cT cs0 ps1 p) (c2 := cT cs0 ps1 p) (c3 := cT cs0 ps1 p) rfl rfl rfl (setKD_T (by omega))) (ev_sSeq (ev_sFor (w := (r.gets.map getD2, keepAll)) (c1 := cT cs0 ps1 (upP p r.task j)) rfl h1) (ev_sFor (w := (r.puts.map D.str, keepAll)) (c1 := cT cs0 (tGets lay j r.gets ps1) (upP p r.task j)) rfl h2))
  unfold tRow
  cases e : look p r.task with
  | none =>
    rw [e] at t
    obtain ⟨ce1, la1, lt1, h, l⟩ := rest ps (by omega)
    exact ⟨ce1, la1, lt1, ev_sSeq (ev_sIfF t rfl) h, l⟩
  | some k =>
    rw [e] at t
    obtain ⟨ce1, la1, lt1, h, l⟩ := rest (addP1 ps (k, j)) addP1_len
    have g : eTup (aCons (eOp gIxD (eVar 3) (eVar 5)) (aCons (eVar 4) aNil)) ⟨eT dr cs0.length j (some (nI r.task)) (some (.tup (r.gets.map getD2))) (some (.tup (r.puts.map D.str))) ce la lt, cT cs0 ps p⟩ = .ok (prD (k, j)) (cT cs0 ps p) := ev_eTup (ev_aCons (ev_eOp (c1 := cT cs0 ps p) (c2 := cT cs0 ps p) (x := .loc (cs0.length + 1)) (y := nI r.task) rfl rfl (ixD_P cT_1 e)) rfl) rfl
    exact ⟨ce1, la1, lt1, ev_sSeq (ev_sIfT t (setT (q := (k, j)) rfl rfl g (by omega))) h, l⟩
end K21
namespace K21
open PySem L2 PyProof.Rows VL
abbrev eU (dr : D) (m : Nat) (x a b c ce la lt : Option D) : List (Option D) := [some dr, some (.loc 0), some (.loc m), some (.loc (m + 1)), x, a, b, c, ce, la, lt]
theorem trows_read {cs0 : List Cell} {lay : Key → List Nat} {ks : List Key} {ms : List Nat} {dr : D} (q : DLw cs0 0 lay ks ms) (low : Low cs0) (hc : cs0.length < 900000) : ∀ (rs : List Rw) (s : Nat) {ps p : List Pr} {x a b c ce la lt : Option D}, (∀ r ∈ rs, r.gets.length ≤ 10 ∧ r.puts.length ≤ 10) → p.length + rs.length < 90000 → ps.length + rs.length * 40 < 90000 →
    ∃ p' x' a' b' c' ce' la' lt', forL (gTp 2 (gsCons (gNm 4) (gsCons (gTp 3 (gsCons (gNm 5) (gsCons (gNm 6) (gsCons (gNm 7) gsNil)))) gsNil))) b_trow keepAll (enR s rs) ⟨eU dr cs0.length x a b c ce la lt, cT cs0 ps p⟩ = .nx ⟨eU dr cs0.length x' a' b' c' ce' la' lt', cT cs0 (tRows lay s rs p ps) p'⟩ ∧ (tRows lay s rs p ps).length ≤ ps.length + rs.length * 40
  | [], s, ps, p, x, a, b, c, ce, la, lt, _, _, _ => ⟨p, x, a, b, c, ce, la, lt, ev_forNil rfl, by simp [tRows]⟩
  | r :: rs, s, ps, p, x, a, b, c, ce, la, lt, hr, hp, hz => by
    rw [List.length_cons] at hp hz
    obtain ⟨g1, g2⟩ := hr r List.mem_cons_self
    obtain ⟨ce1, la1, lt1, h1, l1⟩ := trow_read (ps := ps) (p := p) (dr := dr) (j := s) (r := r) (ce := ce) (la := la) (lt := lt) q low hc g1 g2 (by omega) (by omega)
    have hu := upP_len (p := p) (x := r.task) (v := s)
    obtain ⟨p2, x2, a2, b2, c2, ce2, la2, lt2, h2, l2⟩ := trows_read (dr := dr) q low hc rs (s + 1) (ps := tRow lay s r p ps) (p := upP p r.task s) (x := some (nI s)) (a := some (nI r.task)) (b := some (.tup (r.gets.map getD2))) (c := some (.tup (r.puts.map D.str))) (ce := ce1) (la := la1) (lt := lt1) (fun y hy => hr y (List.mem_cons_of_mem _ hy)) (by omega) (by omega)
    refine ⟨p2, x2, a2, b2, c2, ce2, la2, lt2, ?_, by rw [tRows, List.length_cons]; omega⟩
    exact ev_forNx (st1 := ⟨eT dr cs0.length s (some (nI r.task)) (some (.tup (r.gets.map getD2))) (some (.tup (r.puts.map D.str))) ce la lt, cT cs0 ps p⟩) rfl rfl h1 h2
/-- the ties of the rows, in the order of finding -/
def tiesP (rows : List Rw) : List Pr := tRows (layF 0 rows fun _ => []) 0 rows [] []
theorem tiesof_ok {dr : D} {rows : List Rw} (h : IsRows dr rows) (hr : ∀ r ∈ rows, r.gets.length ≤ 10 ∧ r.puts.length ≤ 10) (hn : rows.length ≤ 40) (hz : putsN rows < 10000) : ∃ cs0 p, tiesofF [dr] [] = .ok (.loc cs0.length) (cT cs0 (tiesP rows) p) ∧ Low cs0 ∧ cs0.length < 20000 ∧ (tiesP rows).length ≤ rows.length * 40 := by
  obtain ⟨cs0, ks, ms, e, q, low, l, _⟩ := layers_ok (cs := []) h (fun k hk => rfl) (by simp; omega)
  simp only [List.length_nil] at e q l
  obtain ⟨p, x, a, b, c, ce, la, lt, h1, l1⟩ := trows_read (dr := dr) q low (by omega) rows 0 (ps := []) (p := []) (x := none) (a := none) (b := none) (c := none) (ce := none) (la := none) (lt := none) hr (by simp; omega) (by simp; omega)
  refine ⟨cs0, p, ?_, low, by omega, by unfold tiesP; simpa using l1⟩
  refine ev_runRt (n := 11) (sf := b_tiesof) (ds := [dr]) (cs := []) (d := .loc cs0.length) (env := [some dr, none, none, none, none, none, none, none, none, none, none]) (st1 := ⟨eU dr cs0.length x a b c ce la lt, cT cs0 (tiesP rows) p⟩) rfl ?_
  have s0 : sPar [1, 2, 3] (aCons (eCallAll layersF (aCons (eVar 0) aNil)) (aCons eNewN (aCons eNewD aNil))) ⟨[some dr, none, none, none, none, none, none, none, none, none, none], []⟩ = .nx ⟨eU dr cs0.length none none none none none none none, cT cs0 [] []⟩ := by
    refine ev_sPar (xs := [.loc 0, .loc cs0.length, .loc (cs0.length + 1)]) (c1 := cT cs0 [] []) ?_ rfl
    have e1 : eNewD ⟨[some dr, none, none, none, none, none, none, none, none, none, none], cs0 ++ [Cell.dn [] []]⟩ = .ok (.loc (cs0.length + 1)) (cT cs0 [] []) := by
      show Out.ok (D.loc (cs0 ++ [Cell.dn [] []]).length) ((cs0 ++ [Cell.dn [] []]) ++ [Cell.dk [] []]) = _
      rw [List.length_append, List.append_assoc]
      rfl
    refine ev_aCons (c1 := cs0) (x := .loc 0) (ev_eCallAll (ev_aCons rfl rfl) e) (ev_aCons (c1 := cs0 ++ [Cell.dn [] []]) (x := .loc cs0.length) rfl (ev_aCons e1 rfl))
  refine ev_sSeq s0 (ev_sSeq (ev_sFor (w := (enR 0 rows, keepAll)) (c1 := cT cs0 [] []) (h.en rfl) h1) (ev_sRet rfl))
end K21
namespace K21
open PySem L2 PyProof.Rows VL
def numF : Nat → List Rw → (Key → List Nat) → Key → List Nat
  | _, [], f => f
  | s, r :: rs, f => numF (s + 1) rs (addF f (kI r.task) s)
abbrev eN (d : D) (n : Nat) (a b : Option D) : List (Option D) := [some d, some (.loc n), a, b]
theorem num_read {dr : D} {n : Nat} : ∀ (rs : List Rw) (s : Nat) {cs : List Cell} {f : Key → List Nat} {ks : List Key} {ms : List Nat} {a b : Option D}, DLw cs n f ks ms → Low cs → cs.length + rs.length < 1000000 →
    ∃ cs' ks' ms' a' b', forL (gTp 2 (gsCons (gNm 2) (gsCons (gNm 3) gsNil))) (sExpr (eAppend (eSetd (eVar 1) (eOp gIx (eVar 3) (eC (.int 0))) (eLoc aNil)) (eVar 2))) keepAll (enR s rs) ⟨eN dr n a b, cs⟩ = .nx ⟨eN dr n a' b', cs'⟩ ∧ DLw cs' n (numF s rs f) ks' ms' ∧ Low cs' ∧ cs'.length = cs.length + rs.length ∧ ∀ m, m < n → cs'[m]? = cs[m]?
  | [], s, cs, f, ks, ms, a, b, q, low, _ => ⟨cs, ks, ms, a, b, ev_forNil rfl, q, low, rfl, fun _ _ => rfl⟩
  | r :: rs, s, cs, f, ks, ms, a, b, q, low, hz => by
    rw [List.length_cons] at hz
    obtain ⟨c1, ks1, ms1, e1, q1, low1, l1, p1⟩ := dl_step (env := eN dr n (some (nI s)) (some (rowD r))) (fo := eVar 1) (fe := eOp gIx (eVar 3) (eC (.int 0))) (fv := eVar 2) (v := s) (d := nI r.task) (k := kI r.task) q low (by omega) rfl (fun _ => rfl) rfl (fun _ => rfl)
    obtain ⟨c2, ks2, ms2, a2, b2, h2, q2, low2, l2, p2⟩ := num_read (dr := dr) (n := n) rs (s + 1) (a := some (nI s)) (b := some (rowD r)) q1 low1 (by omega)
    refine ⟨c2, ks2, ms2, a2, b2, ?_, q2, low2, by rw [l2, l1, List.length_cons]; omega, fun m hm => (p2 m hm).trans (p1 m hm)⟩
    exact ev_forNx (st1 := ⟨eN dr n (some (nI s)) (some (rowD r)), cs⟩) rfl rfl (ev_sExpr e1) h2
theorem numbers_ok {dr : D} {rows : List Rw} {cs : List Cell} (h : IsRows dr rows) (low : Low cs) (hz : cs.length + rows.length < 900000) : ∃ cs' ks' ms', numbersF [dr] cs = .ok (.loc cs.length) cs' ∧ DLw cs' cs.length (numF 0 rows fun _ => []) ks' ms' ∧ Low cs' ∧ cs'.length = cs.length + 1 + rows.length ∧ ∀ m, m < cs.length → cs'[m]? = cs[m]? := by
  obtain ⟨c1, ks1, ms1, a, b, h1, q1, low1, l1, p1⟩ := num_read (dr := dr) (n := cs.length) rows 0 (cs := cs ++ [.dk [] []]) (a := none) (b := none) dl_new (low.snoc fun _ _ => rfl) (by simp; omega)
  refine ⟨c1, ks1, ms1, ?_, q1, low1, by rw [l1]; simp, fun m hm => (p1 m hm).trans (List.getElem?_append_left hm)⟩
  refine ev_runRt (n := 4) (sf := b_numbers) (ds := [dr]) (cs := cs) (d := .loc cs.length) (env := [some dr, none, none, none]) (st1 := ⟨eN dr cs.length a b, c1⟩) rfl ?_
  refine ev_sSeq (st1 := ⟨eN dr cs.length none none, cs ++ [.dk [] []]⟩) (ev_sAsg (d := .loc cs.length) (c1 := cs ++ [.dk [] []]) rfl rfl) (ev_sSeq (ev_sFor (w := (enR 0 rows, keepAll)) (c1 := cs ++ [.dk [] []]) (h.en rfl) h1) (ev_sRet rfl))
end K21
namespace K21
open PySem L2 PyProof.Rows VL
theorem outDs_loc {cs c : List Cell} {n : Nat} {f : Key → List Nat} : ∀ {ks : List Key} {ms : List Nat}, ks.length = ms.length → (∀ m ∈ ms, n ≤ m) → (∀ (i : Nat) (k : Key) (m : Nat), ks[i]? = some k → ms[i]? = some m → c[m]? = some (.lst ((f k).map nI))) → outDs n c (ms.map D.loc) = some (ks.map fun k => D.lst ((f k).map nI))
  | [], [], _, _, _ => rfl
  | [], _ :: _, h, _, _ => by cases h
  | _ :: _, [], h, _, _ => by cases h
  | k :: ks, m :: ms, h, hn, hc => by
    have e0 := hc 0 k m rfl rfl
    have ih := outDs_loc (cs := cs) (c := c) (n := n) (f := f) (ks := ks) (ms := ms) (by simpa using h) (fun x hx => hn x (List.mem_cons_of_mem _ hx)) (fun i k' m' h1 h2 => hc (i + 1) k' m' h1 h2)
    have hm := hn m List.mem_cons_self
    have o : outD n c (.loc m) = some (.lst ((f k).map nI)) := by
      unfold outD
      simp only
      rw [if_neg (by omega), e0]
      simp only
      rw [if_pos (belows_nI _)]
    rw [List.map_cons, List.map_cons]
    unfold outDs
    rw [o, ih]
theorem itemsD_map {f : Key → List Nat} : ∀ (ks : List Key), itemsD ks (ks.map fun k => D.lst ((f k).map nI)) = ks.map fun k => D.tup [kD k, .lst ((f k).map nI)]
  | [] => rfl
  | k :: ks => by
    rw [List.map_cons, List.map_cons, ← itemsD_map ks]
    rfl
theorem items_read {env : List (Option D)} {cs c : List Cell} {fo : Ex} {f : Key → List Nat} {ks : List Key} {ms : List Nat} (e : fo ⟨env, cs⟩ = .ok (.loc cs.length) c) (q : DLw c cs.length f ks ms) (tk : c.take cs.length = cs) (low : Low cs) : iItm fo ⟨env, cs⟩ = .ok (ks.map (fun k => D.tup [kD k, .lst ((f k).map nI)]), keepAll) cs := by
  unfold iItm
  rw [e]
  simp only [tk]
  rw [if_pos ⟨Nat.le_refl _, low.all⟩, q.at_]
  simp only
  have o := outDs_loc (cs := cs) (c := c) (n := cs.length) (f := f) q.len (fun m hm => Nat.le_of_lt (q.gt m hm).1) q.el
  rw [o]
  simp only
  rw [itemsD_map]
theorem take_of {cs c : List Cell} (h : ∀ m, m < cs.length → c[m]? = cs[m]?) (hl : cs.length ≤ c.length) : c.take cs.length = cs := by
  refine List.ext_getElem? fun i => ?_
  by_cases hi : i < cs.length
  · rw [List.getElem?_take_of_lt hi, h i hi]
  · rw [List.getElem?_eq_none (by rw [List.length_take]; omega), List.getElem?_eq_none (by omega)]
end K21
namespace K21
open PySem L2 PyProof.Rows VL
/-- each number with those ahead of it -/
def farL : Nat → List Nat → List Nat → List Pr
  | _, _, [] => []
  | k, all, x :: xs => ((all.take k).map fun y => (y, x)) ++ farL (k + 1) all xs
theorem addP_app : ∀ (xs ys ps : List Pr), addP ps (xs ++ ys) = addP (addP ps xs) ys
  | [], _, _ => rfl
  | x :: xs, ys, ps => addP_app xs ys (addP1 ps x)
abbrev eF (d0 d1 d2 d3 : D) (l : List Nat) (a b c : Option D) : List (Option D) := [some d0, some d1, some d2, some d3, some (.lst (l.map nI)), a, b, c]
/-- the second clause -/
theorem far_inner {d0 d1 d2 d3 : D} {l : List Nat} {x k : Nat} {c1 : List Cell} : ∀ (ys : List Nat) {ps : List Pr}, ps.length + ys.length < 16777216 → dcNL (gNm 7) tTrue (eTup (aCons (eVar 7) (aCons (eVar 6) aNil))) (eC (.bl true)) keepAll (eF d0 d1 d2 d3 l (some (nI k)) (some (nI x)) none) c1.length (ys.map nI) (c1 ++ [dnP ps]) = some (c1 ++ [dnP (addP ps (ys.map fun y => (y, x)))])
  | [], ps, _ => rfl
  | y :: ys, ps, hz => by
    rw [List.length_cons] at hz
    rw [List.map_cons]
    unfold dcNL
    rw [if_pos (show keepAll (c1 ++ [dnP ps]) = true from rfl)]
    show (match setKN (.loc c1.length) (prD (y, x)) (.bl true) ⟨eF d0 d1 d2 d3 l (some (nI k)) (some (nI x)) (some (nI y)), c1 ++ [dnP ps]⟩ with
      | .nx st2 => dcNL (gNm 7) tTrue (eTup (aCons (eVar 7) (aCons (eVar 6) aNil))) (eC (.bl true)) keepAll (eF d0 d1 d2 d3 l (some (nI k)) (some (nI x)) none) c1.length (ys.map nI) st2.cs
      | _ => none) = _
    rw [setKN_pr at_snoc (by omega), set_snoc]
    have := addP1_len (ps := ps) (q := (y, x))
    exact far_inner ys (ps := addP1 ps (y, x)) (by omega)
end K21
namespace K21
open PySem L2 PyProof.Rows VL
theorem cutk (l : List Nat) (k : Nat) : VL.cutD (l.map nI) none (some ((k : Nat) : Int)) = (l.take k).map nI := by
  unfold VL.cutD
  have h0 : HT.sIx (l.map nI).length 0 none = 0 := rfl
  have h1 : HT.sIx (l.map nI).length (l.map nI).length (some ((k : Nat) : Int)) = min k l.length := by
    rw [List.length_map]
    exact HT.sIx_nat _ _ k
  rw [h0, h1, List.drop_zero, Nat.sub_zero, List.map_take]
  by_cases c : k ≤ l.length
  · rw [Nat.min_eq_left c]
  · rw [Nat.min_eq_right (by omega), List.take_of_length_le (by simp), List.take_of_length_le (by simp; omega)]
def enK : Nat → List Nat → List D
  | _, [] => []
  | k, x :: xs => .tup [nI k, nI x] :: enK (k + 1) xs
theorem enumD_K : ∀ (l : List Nat) (s : Nat), (l.map nI).mapIdx (fun i d => D.tup [.int ((s + i : Nat) : Int), d]) = enK s l
  | [], s => rfl
  | r :: rs, s => by
    rw [List.map_cons, List.mapIdx_cons]
    show D.tup [.int ((s + 0 : Nat) : Int), nI r] :: _ = D.tup [nI s, nI r] :: enK (s + 1) rs
    rw [← enumD_K rs (s + 1)]
    refine List.cons_eq_cons.mpr ⟨rfl, ?_⟩
    congr 1
    funext i d
    rw [show s + (i + 1) = s + 1 + i by omega]
theorem enum_K (l : List Nat) : enumD (l.map nI) = enK 0 l := by
  rw [← enumD_K l 0]
  unfold enumD
  congr 1
  funext i d
  rw [Nat.zero_add]
theorem far_outer {d0 d1 d2 d3 : D} {l : List Nat} {c1 : List Cell} (hl : l.length ≤ 100) : ∀ (xs : List Nat) (k : Nat) {ps : List Pr}, ps.length + xs.length * 100 < 16777216 →
    dcNL2 (gTp 2 (gsCons (gNm 5) (gsCons (gNm 6) gsNil))) tTrue (iL (eSl false (eVar 4) oNone (oSome (eVar 5)))) (gNm 7) tTrue (eTup (aCons (eVar 7) (aCons (eVar 6) aNil))) (eC (.bl true)) [7] keepAll (eF d0 d1 d2 d3 l none none none) c1.length (enK k xs) (c1 ++ [dnP ps]) = some (c1 ++ [dnP (addP ps (farL k l xs))])
  | [], k, ps, _ => rfl
  | x :: xs, k, ps, hz => by
    rw [List.length_cons] at hz
    have ht : (l.take k).length ≤ 100 := by rw [List.length_take]; omega
    have inner := far_inner (d0 := d0) (d1 := d1) (d2 := d2) (d3 := d3) (l := l) (x := x) (k := k) (c1 := c1) (l.take k) (ps := ps) (by omega)
    have src : iL (eSl false (eVar 4) oNone (oSome (eVar 5))) ⟨eF d0 d1 d2 d3 l (some (nI k)) (some (nI x)) none, c1 ++ [dnP ps]⟩ = .ok ((l.take k).map nI, keepAll) (c1 ++ [dnP ps]) := by
      have e : eSl false (eVar 4) oNone (oSome (eVar 5)) ⟨eF d0 d1 d2 d3 l (some (nI k)) (some (nI x)) none, c1 ++ [dnP ps]⟩ = .ok (.lst ((l.take k).map nI)) (c1 ++ [dnP ps]) := by
        refine ev_eSl (lo := none) (hi := some ((k : Nat) : Int)) (c1 := c1 ++ [dnP ps]) (c2 := c1 ++ [dnP ps]) (c3 := c1 ++ [dnP ps]) (x := .lst (l.map nI)) rfl rfl rfl ?_
        show Out.ok (D.lst (VL.cutD (l.map nI) none (some ((k : Nat) : Int)))) _ = _
        rw [cutk]
      exact ev_iL e rfl
    have la := len_addP (qs := (l.take k).map fun y => (y, x)) (ps := ps)
    rw [List.length_map] at la
    have ih := far_outer (d0 := d0) (d1 := d1) (d2 := d2) (d3 := d3) (l := l) (c1 := c1) hl xs (k + 1) (ps := addP ps ((l.take k).map fun y => (y, x))) (by omega)
    rw [farL, addP_app, ← ih]
    rw [enK]
    rw [dcNL2]
    rw [if_pos (show keepAll (c1 ++ [dnP ps]) = true from rfl)]
    show (match iL (eSl false (eVar 4) oNone (oSome (eVar 5))) ⟨eF d0 d1 d2 d3 l (some (nI k)) (some (nI x)) none, c1 ++ [dnP ps]⟩ with
        | .ok w c3 => (match dcNL (gNm 7) tTrue (eTup (aCons (eVar 7) (aCons (eVar 6) aNil))) (eC (.bl true)) w.2 (eF d0 d1 d2 d3 l (some (nI k)) (some (nI x)) none) c1.length w.1 c3 with
          | some c4 => dcNL2 (gTp 2 (gsCons (gNm 5) (gsCons (gNm 6) gsNil))) tTrue (iL (eSl false (eVar 4) oNone (oSome (eVar 5)))) (gNm 7) tTrue (eTup (aCons (eVar 7) (aCons (eVar 6) aNil))) (eC (.bl true)) [7] keepAll (eF d0 d1 d2 d3 l none none none) c1.length (enK (k + 1) xs) c4
          | none => none)
        | _ => none) = _
    rw [src]
    dsimp only
    rw [inner]
end K21
namespace K21
open PySem L2 PyProof.Rows VL
theorem farL_mem {all : List Nat} : ∀ {xs : List Nat} {k : Nat} {p : Pr}, p ∈ farL k all xs → p.1 ∈ all ∧ p.2 ∈ xs
  | [], k, p, h => by cases h
  | x :: xs, k, p, h => by
    rw [farL] at h
    rcases List.mem_append.mp h with h | h
    · obtain ⟨y, hy, rfl⟩ := List.mem_map.mp h
      exact ⟨List.mem_of_mem_take hy, List.mem_cons_self⟩
    · obtain ⟨h1, h2⟩ := farL_mem h
      exact ⟨h1, List.mem_cons_of_mem _ h2⟩
theorem updN_loc {env : List (Option D)} {fo fe : Ex} {c : List Cell} {n : Nat} {ps qs : List Pr} (hn : n < c.length) (h0 : c[n]? = some (dnP ps)) (h1 : fo ⟨env, c⟩ = .ok (.loc n) c) (h2 : fe ⟨env, c⟩ = .ok (.loc c.length) (c ++ [dnP qs])) (hq : ∀ p ∈ qs, p.1 < 20 ∧ p.2 < 20) (hz : ps.length + qs.length ≤ 16777216) :
    eUpdN fo fe ⟨env, c⟩ = .ok .non ((c ++ [dnP qs]).set n (dnP (addP ps qs))) := by
  have h0 : c[n]? = some (.dn (ps.map prD) (ps.map fun _ => .bl true)) := h0
  have d1 : dcnOf c (.loc n) = some (ps.map prD, ps.map fun _ => .bl true) := by
    unfold dcnOf
    simp only [h0]
  have h3 : (c ++ [dnP qs])[n]? = some (.dn (ps.map prD) (ps.map fun _ => .bl true)) := by
    rw [List.getElem?_append_left hn]
    exact h0
  have d2 : dcnOf (c ++ [dnP qs]) (.loc c.length) = some (qs.map prD, qs.map fun _ => .bl true) := by
    unfold dcnOf
    simp only [at_snoc]
    rfl
  have sp : samePl (.loc n) (.loc c.length) = false := beq_eq_false_iff_ne.mpr (Nat.ne_of_lt hn)
  unfold eUpdN
  rw [h1]
  simp only [Out.bind, d1, h2, h3, d2]
  rw [if_pos ⟨sp, .inr (apart_pr hq), by simpa using hz⟩, mergeN_pr]
  rfl
abbrev b_far : Sx := (sExpr (eUpdN (eVar 2) (eDcN2 (iEn (aCons (eVar 4) aNil)) (gTp 2 (gsCons (gNm 5) (gsCons (gNm 6) gsNil))) tTrue (iL (eSl false (eVar 4) oNone (oSome (eVar 5)))) (gNm 7) tTrue (eTup (aCons (eVar 7) (aCons (eVar 6) aNil))) (eC (.bl true)) [5, 6, 7] [7])))
theorem far_turn {d0 d1 d3 : D} {l : List Nat} {c : List Cell} {n : Nat} {ps : List Pr} (hn : n < c.length) (h0 : c[n]? = some (dnP ps)) (hl : l.length ≤ 100) (hb : ∀ x ∈ l, x < 20) (hz : ps.length ≤ 1000000) :
    b_far ⟨eF d0 d1 (.loc n) d3 l none none none, c⟩ = .nx ⟨eF d0 d1 (.loc n) d3 l none none none, (c ++ [dnP (addP [] (farL 0 l l))]).set n (dnP (addP ps (addP [] (farL 0 l l))))⟩ := by
  have o := far_outer (d0 := d0) (d1 := d1) (d2 := .loc n) (d3 := d3) (l := l) (c1 := c) hl l 0 (ps := []) (by simp; omega)
  have e : eDcN2 (iEn (aCons (eVar 4) aNil)) (gTp 2 (gsCons (gNm 5) (gsCons (gNm 6) gsNil))) tTrue (iL (eSl false (eVar 4) oNone (oSome (eVar 5)))) (gNm 7) tTrue (eTup (aCons (eVar 7) (aCons (eVar 6) aNil))) (eC (.bl true)) [5, 6, 7] [7] ⟨eF d0 d1 (.loc n) d3 l none none none, c⟩ = .ok (.loc c.length) (c ++ [dnP (addP [] (farL 0 l l))]) := by
    unfold eDcN2
    have hs : iEn (aCons (eVar 4) aNil) ⟨eF d0 d1 (.loc n) d3 l none none none, c⟩ = .ok (enK 0 l, keepAll) c := by
      rw [← enum_K]
      rfl
    rw [hs]
    show (match dcNL2 (gTp 2 (gsCons (gNm 5) (gsCons (gNm 6) gsNil))) tTrue (iL (eSl false (eVar 4) oNone (oSome (eVar 5)))) (gNm 7) tTrue (eTup (aCons (eVar 7) (aCons (eVar 6) aNil))) (eC (.bl true)) [7] keepAll (eF d0 d1 (.loc n) d3 l none none none) c.length (enK 0 l) (c ++ [dnP []]) with
      | some c2 => Out.ok (D.loc c.length) c2
      | none => .no) = _
    rw [o]
  have lq : (addP [] (farL 0 l l)).length ≤ 1000000 := by
    have h := len_addP (qs := farL 0 l l) (ps := [])
    have hf : ∀ (xs : List Nat) (k : Nat), (farL k l xs).length ≤ xs.length * 100 := by
      intro xs
      induction xs with
      | nil => intro k; simp [farL]
      | cons x xs ih =>
        intro k
        rw [farL, List.length_append, List.length_map, List.length_take, List.length_cons]
        have := ih (k + 1)
        omega
    have := hf l 0
    rw [List.length_nil] at h
    omega
  exact ev_sExpr (updN_loc hn h0 rfl e (fun p hp => by
    obtain ⟨g1, g2⟩ := farL_mem (by simpa using mem_addP.mp hp)
    exact ⟨hb _ g1, hb _ g2⟩) (by omega))
end K21
namespace K21
open PySem L2 PyProof.Rows VL
def farAll (f : Key → List Nat) : List Key → List Pr → List Pr
  | [], ps => ps
  | k :: ks, ps => farAll f ks (addP ps (addP [] (farL 0 (f k) (f k))))
abbrev eX (d0 d1 : D) (n : Nat) (a b : Option D) : List (Option D) := [some d0, some d1, some (.loc n), a, b, none, none, none]
theorem pairs_le {ps : List Pr} (nd : ps.Nodup) (h : ∀ p ∈ ps, p.1 < 20 ∧ p.2 < 20) : ps.length ≤ 400 := by
  have e : (ps.map fun p => p.1 * 20 + p.2).length = ps.length := List.length_map ..
  rw [← e]
  refine nodup_le ?_ fun x hx => ?_
  · refine List.pairwise_map.mpr (nd.imp_of_mem fun {a b} ha hb hne he => hne ?_)
    obtain ⟨a1, a2⟩ := a
    obtain ⟨b1, b2⟩ := b
    obtain ⟨g1, g2⟩ := h _ ha
    obtain ⟨g3, g4⟩ := h _ hb
    dsimp only at g1 g2 g3 g4 he
    have h1 : a1 = b1 := by omega
    have h2 : a2 = b2 := by omega
    rw [h1, h2]
  · obtain ⟨p, hp, rfl⟩ := List.mem_map.mp hx
    obtain ⟨g1, g2⟩ := h p hp
    omega
theorem far_loop {d0 d1 : D} {n : Nat} {f : Key → List Nat} (hf : ∀ k, (f k).length ≤ 40 ∧ ∀ x ∈ f k, x < 20) : ∀ (ks : List Key) {c : List Cell} {ps : List Pr} {a b : Option D}, n < c.length → c[n]? = some (dnP ps) → ps.Nodup → (∀ p ∈ ps, p.1 < 20 ∧ p.2 < 20) →
    ∃ c' a' b', forL (gTp 2 (gsCons (gNm 3) (gsCons (gNm 4) gsNil))) b_far keepAll (ks.map fun k => D.tup [kD k, .lst ((f k).map nI)]) ⟨eX d0 d1 n a b, c⟩ = .nx ⟨eX d0 d1 n a' b', c'⟩ ∧ c'[n]? = some (dnP (farAll f ks ps)) ∧ (∀ m, m < n → c'[m]? = c[m]?) ∧ n < c'.length ∧ (farAll f ks ps).Nodup ∧ ∀ p ∈ farAll f ks ps, p.1 < 20 ∧ p.2 < 20
  | [], c, ps, a, b, hn, h0, nd, hb => ⟨c, a, b, ev_forNil rfl, h0, fun _ _ => rfl, hn, nd, hb⟩
  | k :: ks, c, ps, a, b, hn, h0, nd, hb => by
    obtain ⟨f1, f2⟩ := hf k
    have hl := pairs_le nd hb
    have t := far_turn (d0 := d0) (d1 := d1) (d3 := kD k) (l := f k) hn h0 (by omega) f2 (by omega)
    obtain ⟨c2, a2, b2, h1, h2, h3, h4, h5, h6⟩ := far_loop (d0 := d0) (d1 := d1) hf ks (n := n) (c := (c ++ [dnP (addP [] (farL 0 (f k) (f k)))]).set n (dnP (addP ps (addP [] (farL 0 (f k) (f k)))))) (ps := addP ps (addP [] (farL 0 (f k) (f k)))) (a := some (kD k)) (b := some (.lst ((f k).map nI))) (by rw [List.length_set, List.length_append, List.length_singleton]; omega) (by rw [List.getElem?_set_self (by rw [List.length_append, List.length_singleton]; omega)]) (nd_addP nd) (fun p hp => by
      rcases mem_addP.mp hp with h | h
      · exact hb p h
      · obtain ⟨g1, g2⟩ := farL_mem (by simpa using mem_addP.mp h)
        exact ⟨f2 _ g1, f2 _ g2⟩)
    refine ⟨c2, a2, b2, ?_, h2, fun m hm => ?_, h4, h5, h6⟩
    · rw [List.map_cons]
      exact ev_forNx (st1 := ⟨eF d0 d1 (.loc n) (kD k) (f k) none none none, c⟩) rfl rfl t h1
    · rw [h3 m hm, List.getElem?_set_ne (by omega), List.getElem?_append_left (by omega)]
end K21
namespace K21
open PySem L2 PyProof.Rows VL
theorem mergeC_pr {cs : List Cell} {n k : Nat} {ps qs : List Pr} (h0 : cs[n]? = some (dnP ps)) (h1 : cs[k]? = some (dnP qs)) (hne : n ≠ k) (hq : ∀ p ∈ qs, p.1 < 20 ∧ p.2 < 20) (hz : ps.length + qs.length ≤ 16777216) : mergeC n (.loc k) cs = some (cs.set n (dnP (addP ps qs))) := by
  have h0 : cs[n]? = some (.dn (ps.map prD) (ps.map fun _ => .bl true)) := h0
  have d2 : dcnOf cs (.loc k) = some (qs.map prD, qs.map fun _ => .bl true) := by
    unfold dcnOf
    simp only [h1]
    rfl
  have sp : samePl (.loc n) (.loc k) = false := beq_eq_false_iff_ne.mpr hne
  unfold mergeC
  simp only [h0, d2]
  rw [if_pos ⟨sp, .inr (apart_pr hq), by simpa using hz⟩, mergeN_pr]
  rfl
theorem sortN_ok {cs : List Cell} {n : Nat} {ps : List Pr} (h : cs[n]? = some (dnP ps)) : hSortN cs [.loc n] = .ok (.lst ((srt ps).map prD)) cs := by
  have d1 : dcnOf cs (.loc n) = some (ps.map prD, ps.map fun _ => .bl true) := by
    unfold dcnOf
    simp only [h]
    rfl
  show (match dcnOf cs (.loc n) with
    | some (xs, _) => if plains xs && alikeRow (pys xs) && sortableB (pys xs) && (pys xs).all (fun p => decide (p.depth ≤ 60)) then Out.ok (D.lst (sortG xs)) cs else .no
    | none => .no) = _
  rw [d1]
  dsimp only
  rw [cond_pr, sortG_pr]
  rfl
theorem star_read {env : List (Option D)} {fa fb : Ex} {cs : List Cell} {i k : Nat} {ps qs : List Pr} (hi : i < cs.length) (hk : k < cs.length) (h1 : cs[i]? = some (dnP ps)) (h2 : cs[k]? = some (dnP qs)) (ha : ∀ c, fa ⟨env, c⟩ = .ok (.loc i) c) (hb : ∀ c, fb ⟨env, c⟩ = .ok (.loc k) c) (hp : ∀ p ∈ ps, p.1 < 20 ∧ p.2 < 20) (hq : ∀ p ∈ qs, p.1 < 20 ∧ p.2 < 20) (hz : ps.length + qs.length ≤ 1000000) :
    eStar2 fa fb ⟨env, cs⟩ = .ok (.loc cs.length) (cs ++ [dnP (addP (addP [] ps) qs)]) := by
  have l1 := len_addP (qs := ps) (ps := [])
  rw [List.length_nil] at l1
  have m1 : mergeC cs.length (.loc i) (cs ++ [.dn [] []]) = some (cs ++ [dnP (addP [] ps)]) := by
    have := mergeC_pr (cs := cs ++ [dnP []]) (n := cs.length) (k := i) (ps := []) (qs := ps) at_snoc (by rw [List.getElem?_append_left hi]; exact h1) (by omega) hp (by simp; omega)
    rw [set_snoc] at this
    exact this
  have m2 : mergeC cs.length (.loc k) (cs ++ [dnP (addP [] ps)]) = some (cs ++ [dnP (addP (addP [] ps) qs)]) := by
    have := mergeC_pr (cs := cs ++ [dnP (addP [] ps)]) (n := cs.length) (k := k) (ps := addP [] ps) (qs := qs) at_snoc (by rw [List.getElem?_append_left hk]; exact h2) (by omega) hq (by omega)
    rw [set_snoc] at this
    exact this
  unfold eStar2
  simp only [ha, Out.bind, m1, hb, m2]
end K21
namespace K21
open PySem L2 PyProof.Rows VL
def numK (rows : List Rw) : Key → List Nat := numF 0 rows fun _ => []
theorem ties_ok {dr : D} {rows : List Rw} (h : IsRows dr rows) (hr : ∀ r ∈ rows, r.gets.length ≤ 10 ∧ r.puts.length ≤ 10) (hn : rows.length ≤ 20) (hz : putsN rows < 1000) (hb : ∀ p ∈ tiesP rows, p.1 < 20 ∧ p.2 < 20) (hf : ∀ k, (numK rows k).length ≤ 40 ∧ ∀ x ∈ numK rows k, x < 20) :
    ∃ ks : List Key, (∀ k, k ∉ ks → numK rows k = []) ∧ (farAll (numK rows) ks []).Nodup ∧ (∀ p ∈ farAll (numK rows) ks [], p.1 < 20 ∧ p.2 < 20) ∧ tiesF [dr] [] = .ok (.tup ((srt (addP (addP [] (tiesP rows)) (farAll (numK rows) ks []))).map prD)) [] := by
  obtain ⟨cs0, p, e1, low, l0, lt⟩ := tiesof_ok h hr (by omega) (by omega)
  obtain ⟨C1, eC1⟩ : ∃ C1, C1 = cT cs0 (tiesP rows) p := ⟨_, rfl⟩
  have low1 : Low C1 := eC1 ▸ cT_low low
  have len1 : C1.length = cs0.length + 2 := by rw [eC1]; simp
  have at1 : C1[cs0.length]? = some (dnP (tiesP rows)) := by rw [eC1]; exact cT_0
  rw [← eC1] at e1
  have low2 : Low (C1 ++ [dnP []]) := low1.snoc fun _ _ => rfl
  have len2 : (C1 ++ [dnP []]).length = C1.length + 1 := by simp
  obtain ⟨c, ks, ms, e2, q, low3, l2, p2⟩ := numbers_ok (cs := C1 ++ [dnP []]) h low2 (by rw [len2]; omega)
  obtain ⟨c', a', b', h1, h2, h3, h4, h5, h6⟩ := far_loop (d0 := dr) (d1 := .loc cs0.length) (n := C1.length) (f := numK rows) hf ks (c := C1 ++ [dnP []]) (ps := []) (a := none) (b := none) (by rw [len2]; omega) at_snoc List.nodup_nil (fun p hp => by cases hp)
  refine ⟨ks, q.no, h5, h6, ?_⟩
  have hfl := pairs_le h5 h6
  have it := items_read (env := [some dr, some (.loc cs0.length), some (.loc C1.length), none, none, none, none, none]) (cs := C1 ++ [dnP []]) (c := c) (fo := eCallAll numbersF (aCons (eVar 0) aNil)) (ev_eCallAll (ev_aCons rfl rfl) e2) q (take_of p2 (by omega)) low2
  have st := star_read (env := eX dr (.loc cs0.length) C1.length a' b') (fa := eVar 1) (fb := eVar 2) (cs := c') (i := cs0.length) (k := C1.length) (ps := tiesP rows) (qs := farAll (numK rows) ks []) (by omega) h4 (by rw [h3 _ (by omega), List.getElem?_append_left (by omega)]; exact at1) h2 (fun _ => rfl) (fun _ => rfl) hb h6 (by omega)
  have so : eB hSortN (aCons (eStar2 (eVar 1) (eVar 2)) aNil) ⟨eX dr (.loc cs0.length) C1.length a' b', c'⟩ = .ok (.lst ((srt (addP (addP [] (tiesP rows)) (farAll (numK rows) ks []))).map prD)) (c' ++ [dnP (addP (addP [] (tiesP rows)) (farAll (numK rows) ks []))]) := ev_eB (ev_aCons st rfl) (sortN_ok at_snoc)
  have run : runF 8 b_ties [dr] [] = .ok (.tup ((srt (addP (addP [] (tiesP rows)) (farAll (numK rows) ks []))).map prD)) (c' ++ [dnP (addP (addP [] (tiesP rows)) (farAll (numK rows) ks []))]) := by
    refine ev_runRt (n := 8) (sf := b_ties) (ds := [dr]) (cs := []) (d := .tup ((srt (addP (addP [] (tiesP rows)) (farAll (numK rows) ks []))).map prD)) (env := [some dr, none, none, none, none, none, none, none]) (st1 := ⟨eX dr (.loc cs0.length) C1.length a' b', c' ++ [dnP (addP (addP [] (tiesP rows)) (farAll (numK rows) ks []))]⟩) rfl ?_
    refine ev_sSeq (st1 := ⟨[some dr, some (.loc cs0.length), none, none, none, none, none, none], C1⟩) (ev_sAsg (d := .loc cs0.length) (c1 := C1) (ev_eCallAll (ev_aCons rfl rfl) e1) rfl) ?_
    refine ev_sSeq (st1 := ⟨[some dr, some (.loc cs0.length), some (.loc C1.length), none, none, none, none, none], C1 ++ [dnP []]⟩) (ev_sAsg (d := .loc C1.length) (c1 := C1 ++ [dnP []]) rfl rfl) ?_
    refine ev_sSeq (ev_sFor (c1 := C1 ++ [dnP []]) it h1) (ev_sRet (ev_eB (ev_aCons so rfl) rfl))
  exact trimF_of (cs := []) (d := .tup ((srt (addP (addP [] (tiesP rows)) (farAll (numK rows) ks []))).map prD)) run rfl (outD_low (belows_prs _) fun m e => by cases e)
end K21
namespace K21
open PySem L2 PyProof.Rows VL
theorem eqF_str {x y : Str} : eqF (.str x) (.str y) = true ↔ x = y := by
  show (x == y) = true ↔ x = y
  exact beq_iff_eq
theorem inD_str {c : Str} {l : List Str} : inD (.str c) (l.map D.str) = true ↔ c ∈ l := by
  unfold inD
  rw [List.any_eq_true]
  constructor
  · rintro ⟨d, hd, h⟩
    obtain ⟨y, hy, rfl⟩ := List.mem_map.mp hd
    rw [← eqF_str.mp h]
    exact hy
  · exact fun h => ⟨.str c, List.mem_map_of_mem h, eqF_str.mpr rfl⟩
def putL (c : Str) : Nat → List Rw → List Nat
  | _, [] => []
  | s, r :: rs => List.replicate (r.puts.count c) s ++ putL c (s + 1) rs
theorem key_str {x y : Str} : (Sum.inr x : Key) = Sum.inr y ↔ x = y := ⟨fun h => Sum.inr.inj h, fun h => by rw [h]⟩
theorem putsF_at {c : Str} {s : Nat} : ∀ (ps : List Str) (f : Key → List Nat), putsF s ps f (.inr c) = f (.inr c) ++ List.replicate (ps.count c) s
  | [], f => by simp [putsF]
  | p :: ps, f => by
    rw [putsF, putsF_at ps]
    unfold addF
    by_cases z : c = p
    · subst z
      rw [if_pos rfl, List.count_cons_self, List.append_assoc]
      congr 1
    · rw [if_neg fun e => z (key_str.mp e), List.count_cons_of_ne (fun e => z e.symm)]
theorem layF_at {c : Str} : ∀ (rs : List Rw) (s : Nat) (f : Key → List Nat), layF s rs f (.inr c) = f (.inr c) ++ putL c s rs
  | [], s, f => by simp [layF, putL]
  | r :: rs, s, f => by
    rw [layF, layF_at rs, putsF_at, putL, List.append_assoc]
theorem next_same {c : Str} {layer : Int} : ∀ (rs : List Rw) (s : Nat), ((putL c s rs).filter fun v => decide (((v : Nat) : Int) > layer)).head? = (((ixR s rs).filter fun x => inD (.str c) (x.2.puts.map D.str) && decide (((x.1 : Nat) : Int) > layer)).map (·.1)).head?
  | [], s => rfl
  | r :: rs, s => by
    rw [putL, ixR, List.filter_append]
    have ih := next_same (c := c) (layer := layer) rs (s + 1)
    by_cases hc : c ∈ r.puts
    · have hi : inD (.str c) (r.puts.map D.str) = true := inD_str.mpr hc
      have cp : 0 < r.puts.count c := List.count_pos_iff.mpr hc
      by_cases hl : decide (((s : Nat) : Int) > layer) = true
      · rw [List.filter_cons_of_pos (by simp only [hi, hl, Bool.and_self]), List.map_cons]
        obtain ⟨n, hn⟩ : ∃ n, r.puts.count c = n + 1 := ⟨r.puts.count c - 1, by omega⟩
        rw [hn, List.replicate_succ, List.filter_cons_of_pos (p := fun v : Nat => decide (((v : Nat) : Int) > layer)) hl]
        rfl
      · rw [List.filter_cons_of_neg (by simp only [hi, Bool.true_and]; exact hl)]
        have : (List.replicate (r.puts.count c) s).filter (fun v => decide (((v : Nat) : Int) > layer)) = [] := by
          rw [List.filter_eq_nil_iff]
          intro x hx
          rw [(List.mem_replicate.mp hx).2]
          exact hl
        rw [this, List.nil_append, ih]
    · have hi : inD (.str c) (r.puts.map D.str) = false := by
        cases e : inD (.str c) (r.puts.map D.str) with
        | false => rfl
        | true => exact absurd (inD_str.mp e) hc
      rw [List.filter_cons_of_neg (by simp only [hi, Bool.false_and]; decide), List.count_eq_zero.mpr hc]
      exact ih
/-- the program's next layer is the law's -/
theorem next_law {rows : List Rw} {c : Str} {layer : Int} : nextOf (layF 0 rows (fun _ => []) (.inr c)) layer = (laterL rows c layer).head? := by
  rw [layF_at]
  exact next_same rows 0
end K21
namespace K21
open PySem L2 PyProof.Rows VL
/-- what a (cell, layer) of row j ties -/
def GTie (rows : List Rw) (j : Nat) (g : Str × Int) (p : Pr) : Prop := (¬ (g.2 = -1 ∨ g.2 = ((j : Nat) : Int)) ∧ p = (g.2.toNat, j)) ∨ ∃ k, (laterL rows g.1 g.2).head? = some k ∧ k ≠ j ∧ p = (j, k)
theorem mem_lawStep {rows : List Rw} {j : Nat} {g : Str × Int} {ps : List Pr} {p : Pr} : p ∈ lawStep rows j g ps ↔ p ∈ ps ∨ GTie rows j g p := by
  unfold lawStep GTie
  rw [mem_addP]
  have h2 : p ∈ ((((laterL rows g.1 g.2).take 1).filter fun k => !(k == j)).map fun k => (j, k)) ↔ ∃ k, (laterL rows g.1 g.2).head? = some k ∧ k ≠ j ∧ p = (j, k) := by
    rw [List.mem_map]
    have ht : ∀ k, k ∈ (laterL rows g.1 g.2).take 1 ↔ (laterL rows g.1 g.2).head? = some k := by
      intro k
      cases laterL rows g.1 g.2 with
      | nil => simp
      | cons x l => simp [eq_comm]
    constructor
    · rintro ⟨k, hk, rfl⟩
      obtain ⟨h1, h2⟩ := List.mem_filter.mp hk
      exact ⟨k, (ht k).mp h1, by simpa using h2, rfl⟩
    · rintro ⟨k, h1, h2, rfl⟩
      exact ⟨k, List.mem_filter.mpr ⟨(ht k).mpr h1, by simpa using h2⟩, rfl⟩
  rw [h2]
  by_cases c : g.2 = -1 ∨ g.2 = ((j : Nat) : Int)
  · rw [if_pos c]
    constructor
    · rintro (h | h)
      · exact .inl h
      · exact .inr (.inr h)
    · rintro (h | ⟨h, _⟩ | h)
      · exact .inl h
      · exact absurd c h
      · exact .inr h
  · rw [if_neg c, mem_addP1]
    constructor
    · rintro ((h | h) | h)
      · exact .inl h
      · exact .inr (.inl ⟨c, h⟩)
      · exact .inr (.inr h)
    · rintro (h | ⟨_, h⟩ | h)
      · exact .inl (.inl h)
      · exact .inl (.inr h)
      · exact .inr h
theorem mem_lawSome {rows : List Rw} {j : Nat} {p : Pr} : ∀ {gs : List (Str × Int)} {ps : List Pr}, p ∈ lawSome rows j gs ps ↔ p ∈ ps ∨ ∃ g ∈ gs, GTie rows j g p
  | [], ps => by simp [lawSome]
  | g :: gs, ps => by
    rw [lawSome, mem_lawSome (gs := gs), mem_lawStep]
    simp only [List.mem_cons, exists_eq_or_imp, or_assoc]
/-- what row j ties, by the law -/
def RTie (rows : List Rw) (j : Nat) (r : Rw) (p : Pr) : Prop := (∃ i, i < j ∧ sameTask rows r.task i = true ∧ p = (i, j)) ∨ ∃ g ∈ someL j r, GTie rows j g p
theorem mem_lawRow {rows : List Rw} {j : Nat} {r : Rw} {ps : List Pr} {p : Pr} : p ∈ lawRow rows j r ps ↔ p ∈ ps ∨ RTie rows j r p := by
  unfold lawRow RTie
  rw [mem_lawSome, mem_addP, or_assoc]
  have h : p ∈ (((List.range j).filter (sameTask rows r.task)).map fun i => (i, j)) ↔ ∃ i, i < j ∧ sameTask rows r.task i = true ∧ p = (i, j) := by
    rw [List.mem_map]
    constructor
    · rintro ⟨i, hi, rfl⟩
      obtain ⟨h1, h2⟩ := List.mem_filter.mp hi
      exact ⟨i, List.mem_range.mp h1, h2, rfl⟩
    · rintro ⟨i, h1, h2, rfl⟩
      exact ⟨i, List.mem_filter.mpr ⟨List.mem_range.mpr h1, h2⟩, rfl⟩
  rw [h]
theorem mem_lawRows {rows : List Rw} {p : Pr} : ∀ {rs : List Rw} {s : Nat} {ps : List Pr}, p ∈ lawRows rows s rs ps ↔ p ∈ ps ∨ ∃ x ∈ ixR s rs, RTie rows x.1 x.2 p
  | [], s, ps => by simp [lawRows, ixR]
  | r :: rs, s, ps => by
    rw [lawRows, mem_lawRows (rs := rs), mem_lawRow, ixR]
    simp only [List.mem_cons, exists_eq_or_imp, or_assoc]
theorem mem_lawT {rows : List Rw} {p : Pr} : p ∈ lawT rows ↔ ∃ x ∈ ixR 0 rows, RTie rows x.1 x.2 p := by
  unfold lawT
  rw [mem_lawRows]
  simp
theorem nd_lawSome {rows : List Rw} {j : Nat} : ∀ {gs : List (Str × Int)} {ps : List Pr}, ps.Nodup → (lawSome rows j gs ps).Nodup
  | [], _, h => h
  | g :: gs, ps, h => by
    rw [lawSome]
    refine nd_lawSome (nd_addP ?_)
    by_cases c : g.2 = -1 ∨ g.2 = ((j : Nat) : Int)
    · rw [if_pos c]; exact h
    · rw [if_neg c]; exact nd_addP1 h
theorem nd_lawT {rows : List Rw} : (lawT rows).Nodup := by
  have : ∀ (rs : List Rw) (s : Nat) (ps : List Pr), ps.Nodup → (lawRows rows s rs ps).Nodup := by
    intro rs
    induction rs with
    | nil => exact fun _ _ h => h
    | cons r rs ih => exact fun s ps h => ih (s + 1) _ (nd_lawSome (nd_addP h))
  exact this rows 0 [] List.nodup_nil
end K21
namespace K21
open PySem L2 PyProof.Rows VL
theorem mem_farL {all : List Nat} {y x : Nat} : ∀ {xs : List Nat} {k : Nat}, (y, x) ∈ farL k all xs ↔ ∃ i, xs[i]? = some x ∧ y ∈ all.take (k + i)
  | [], k => by simp [farL]
  | z :: xs, k => by
    rw [farL, List.mem_append, mem_farL (xs := xs), List.mem_map]
    constructor
    · rintro (⟨w, hw, e⟩ | ⟨i, h1, h2⟩)
      · cases e
        exact ⟨0, rfl, hw⟩
      · exact ⟨i + 1, h1, by rw [show k + (i + 1) = k + 1 + i by omega]; exact h2⟩
    · rintro ⟨i, h1, h2⟩
      cases i with
      | zero =>
        cases (show some z = some x from h1)
        exact .inl ⟨y, h2, rfl⟩
      | succ i => exact .inr ⟨i, h1, by rw [show k + 1 + i = k + (i + 1) by omega]; exact h2⟩
theorem far_asc {l : List Nat} (h : l.Pairwise (· < ·)) {y x : Nat} : (y, x) ∈ farL 0 l l ↔ y ∈ l ∧ x ∈ l ∧ y < x := by
  rw [mem_farL]
  have pw := List.pairwise_iff_getElem.mp h
  constructor
  · rintro ⟨i, h1, h2⟩
    rw [Nat.zero_add] at h2
    obtain ⟨i1, i2⟩ := List.getElem?_eq_some_iff.mp h1
    obtain ⟨j, hj⟩ := List.mem_iff_getElem?.mp h2
    have jl := (List.getElem?_eq_some_iff.mp hj).1
    rw [List.length_take] at jl
    rw [List.getElem?_take_of_lt (by omega)] at hj
    obtain ⟨j1, j2⟩ := List.getElem?_eq_some_iff.mp hj
    refine ⟨List.mem_of_getElem? hj, List.mem_of_getElem? h1, ?_⟩
    have := pw j i j1 i1 (by omega)
    rw [j2, i2] at this
    exact this
  · rintro ⟨h1, h2, h3⟩
    obtain ⟨i, hi⟩ := List.mem_iff_getElem?.mp h2
    obtain ⟨j, hj⟩ := List.mem_iff_getElem?.mp h1
    obtain ⟨i1, i2⟩ := List.getElem?_eq_some_iff.mp hi
    obtain ⟨j1, j2⟩ := List.getElem?_eq_some_iff.mp hj
    refine ⟨i, hi, ?_⟩
    rw [Nat.zero_add]
    have hij : j < i := by
      rcases Nat.lt_trichotomy j i with z | z | z
      · exact z
      · subst z
        rw [hi] at hj
        cases hj
        omega
      · have := pw i j i1 j1 z
        rw [i2, j2] at this
        omega
    exact List.mem_iff_getElem?.mpr ⟨j, by rw [List.getElem?_take_of_lt hij]; exact hj⟩
theorem numF_at {t : Nat} : ∀ (rs : List Rw) (s : Nat) (f : Key → List Nat), numF s rs f (kI t) = f (kI t) ++ ((ixR s rs).filter fun x => x.2.task == t).map (·.1)
  | [], s, f => by simp [numF, ixR]
  | r :: rs, s, f => by
    rw [numF, numF_at rs, ixR]
    unfold addF
    by_cases c : t = r.task
    · subst c
      rw [if_pos rfl, List.filter_cons_of_pos (by simp), List.map_cons, List.append_assoc]
      rfl
    · rw [if_neg fun e => c (kI_inj.mp e), List.filter_cons_of_neg (by simpa using fun e => c e.symm)]
theorem numF_other {k : Key} (hk : ∀ t, k ≠ kI t) : ∀ (rs : List Rw) (s : Nat) (f : Key → List Nat), numF s rs f k = f k
  | [], s, f => rfl
  | r :: rs, s, f => by
    rw [numF, numF_other hk rs]
    unfold addF
    rw [if_neg (hk _)]
theorem ixR_asc : ∀ (rs : List Rw) (s : Nat), ((ixR s rs).map (·.1)).Pairwise (· < ·)
  | [], s => List.Pairwise.nil
  | r :: rs, s => by
    rw [ixR, List.map_cons]
    refine List.pairwise_cons.mpr ⟨fun x hx => ?_, ixR_asc rs (s + 1)⟩
    obtain ⟨⟨k, r'⟩, hy, rfl⟩ := List.mem_map.mp hx
    have := (mem_ixR.mp hy).1
    show s < k
    omega
theorem numK_asc {rows : List Rw} (k : Key) : (numK rows k).Pairwise (· < ·) := by
  by_cases h : ∃ t, k = kI t
  · obtain ⟨t, rfl⟩ := h
    unfold numK
    rw [numF_at]
    rw [List.nil_append]
    exact (ixR_asc rows 0).sublist (List.Sublist.map _ List.filter_sublist)
  · unfold numK
    rw [numF_other fun t e => h ⟨t, e⟩]
    exact List.Pairwise.nil
theorem mem_numK {rows : List Rw} {t x : Nat} : x ∈ numK rows (kI t) ↔ ∃ r, rows[x]? = some r ∧ r.task = t := by
  unfold numK
  rw [numF_at, List.nil_append, List.mem_map]
  constructor
  · rintro ⟨⟨k, r⟩, h, rfl⟩
    obtain ⟨h1, h2⟩ := List.mem_filter.mp h
    obtain ⟨_, h3⟩ := mem_ixR.mp h1
    exact ⟨r, by rw [Nat.sub_zero] at h3; exact h3, by simpa using h2⟩
  · rintro ⟨r, h1, h2⟩
    exact ⟨(x, r), List.mem_filter.mpr ⟨mem_ixR.mpr ⟨Nat.zero_le _, by rw [Nat.sub_zero]; exact h1⟩, by simpa using h2⟩, rfl⟩
theorem mem_farAll {f : Key → List Nat} {p : Pr} : ∀ {ks : List Key} {ps : List Pr}, p ∈ farAll f ks ps ↔ p ∈ ps ∨ ∃ k ∈ ks, p ∈ farL 0 (f k) (f k)
  | [], ps => by simp [farAll]
  | k :: ks, ps => by
    rw [farAll, mem_farAll (ks := ks), mem_addP, mem_addP]
    simp only [List.mem_cons, exists_eq_or_imp, or_assoc, List.not_mem_nil, false_or]
/-- the far pairs are those of one task -/
theorem mem_far {rows : List Rw} {ks : List Key} (hk : ∀ k, k ∉ ks → numK rows k = []) {y x : Nat} : (y, x) ∈ farAll (numK rows) ks [] ↔ y < x ∧ ∃ r r', rows[y]? = some r ∧ rows[x]? = some r' ∧ r.task = r'.task := by
  rw [mem_farAll]
  constructor
  · rintro (h | ⟨k, hk1, h⟩)
    · cases h
    · obtain ⟨h1, h2, h3⟩ := (far_asc (numK_asc k)).mp h
      by_cases z : ∃ t, k = kI t
      · obtain ⟨t, rfl⟩ := z
        obtain ⟨r, g1, g2⟩ := mem_numK.mp h1
        obtain ⟨r', g3, g4⟩ := mem_numK.mp h2
        exact ⟨h3, r, r', g1, g3, g2.trans g4.symm⟩
      · unfold numK at h1
        rw [numF_other fun t e => z ⟨t, e⟩] at h1
        cases h1
  · rintro ⟨h, r, r', h1, h2, h3⟩
    have hy : y ∈ numK rows (kI r.task) := mem_numK.mpr ⟨r, h1, rfl⟩
    have hx : x ∈ numK rows (kI r.task) := mem_numK.mpr ⟨r', h2, h3.symm⟩
    refine .inr ⟨kI r.task, ?_, (far_asc (numK_asc _)).mpr ⟨hy, hx, h⟩⟩
    by_cases z : kI r.task ∈ ks
    · exact z
    · rw [hk _ z] at hy
      cases hy
end K21
namespace K21
open PySem L2 PyProof.Rows VL
theorem mem_tEnd {j : Nat} {o : Option Nat} {ps : List Pr} {p : Pr} : p ∈ tEnd j o ps ↔ p ∈ ps ∨ ∃ k, o = some k ∧ k ≠ j ∧ p = (j, k) := by
  unfold tEnd
  cases o with
  | none => simp
  | some k =>
    by_cases c : k = j
    · simp only [c, if_true]
      constructor
      · exact .inl
      · rintro (h | ⟨k', e, n, _⟩)
        · exact h
        · exact absurd (Option.some.inj e).symm n
    · simp only [c, if_false]
      rw [mem_addP1]
      constructor
      · rintro (h | h)
        · exact .inl h
        · exact .inr ⟨k, rfl, c, h⟩
      · rintro (h | ⟨k', e, _, h⟩)
        · exact .inl h
        · cases e
          exact .inr h
abbrev layR (rows : List Rw) : Key → List Nat := layF 0 rows fun _ => []
theorem mem_tGet {rows : List Rw} {j : Nat} {g : Str × Int} {ps : List Pr} {p : Pr} (h0 : -1 ≤ g.2) : p ∈ tGet (layR rows) j g ps ↔ p ∈ ps ∨ GTie rows j g p := by
  unfold tGet GTie
  rw [mem_tEnd, next_law]
  by_cases c : g.2 = -1 ∨ g.2 = ((j : Nat) : Int)
  · rw [if_neg fun h => by omega]
    constructor
    · rintro (h | h)
      · exact .inl h
      · exact .inr (.inr h)
    · rintro (h | ⟨h, _⟩ | h)
      · exact .inl h
      · exact absurd c h
      · exact .inr h
  · rw [if_pos (by omega), mem_addP1]
    constructor
    · rintro ((h | h) | h)
      · exact .inl h
      · exact .inr (.inl ⟨c, h⟩)
      · exact .inr (.inr h)
    · rintro (h | ⟨_, h⟩ | h)
      · exact .inl (.inl h)
      · exact .inl (.inr h)
      · exact .inr h
theorem mem_tGets {rows : List Rw} {j : Nat} {p : Pr} : ∀ {gs : List (Str × Int)} {ps : List Pr}, (∀ g ∈ gs, -1 ≤ g.2) → (p ∈ tGets (layR rows) j gs ps ↔ p ∈ ps ∨ ∃ g ∈ gs, GTie rows j g p)
  | [], ps, _ => by simp [tGets]
  | g :: gs, ps, h => by
    rw [tGets, mem_tGets (gs := gs) fun x hx => h x (List.mem_cons_of_mem _ hx), mem_tGet (h g List.mem_cons_self)]
    simp only [List.mem_cons, exists_eq_or_imp, or_assoc]
theorem laterL_gt {rows : List Rw} {c : Str} {layer : Int} : ∀ x ∈ laterL rows c layer, ((x : Nat) : Int) > layer := by
  intro x hx
  unfold laterL at hx
  obtain ⟨⟨k, r⟩, hy, rfl⟩ := List.mem_map.mp hx
  have := (List.mem_filter.mp hy).2
  rw [Bool.and_eq_true] at this
  exact of_decide_eq_true this.2
theorem put_tie {rows : List Rw} {j : Nat} {c : Str} {p : Pr} : GTie rows j (c, ((j : Nat) : Int)) p ↔ ∃ k, (laterL rows c ((j : Nat) : Int)).head? = some k ∧ p = (j, k) := by
  unfold GTie
  constructor
  · rintro (⟨h, _⟩ | ⟨k, h1, _, h2⟩)
    · exact absurd (.inr rfl) h
    · exact ⟨k, h1, h2⟩
  · rintro ⟨k, h1, h2⟩
    refine .inr ⟨k, h1, ?_, h2⟩
    have := laterL_gt k (List.mem_of_mem_head? h1)
    omega
theorem mem_tPuts {rows : List Rw} {j : Nat} {p : Pr} : ∀ {cs : List Str} {ps : List Pr}, p ∈ tPuts (layR rows) j cs ps ↔ p ∈ ps ∨ ∃ c ∈ cs, GTie rows j (c, ((j : Nat) : Int)) p
  | [], ps => by simp [tPuts]
  | c :: cs, ps => by
    rw [tPuts, mem_tPuts (cs := cs), next_law]
    simp only [List.mem_cons, exists_eq_or_imp, ← or_assoc]
    refine or_congr_left ?_
    rw [put_tie]
    cases e : (laterL rows c ((j : Nat) : Int)).head? with
    | none => simp
    | some k => simp [mem_addP1]
theorem mem_tRow {rows : List Rw} {j : Nat} {r : Rw} {pm ps : List Pr} {p : Pr} (hg : ∀ g ∈ r.gets, -1 ≤ g.2) : p ∈ tRow (layR rows) j r pm ps ↔ (p ∈ ps ∨ ∃ k, look pm r.task = some k ∧ p = (k, j)) ∨ ∃ g ∈ someL j r, GTie rows j g p := by
  unfold tRow
  rw [mem_tPuts, mem_tGets hg]
  have h2 : (∃ g ∈ someL j r, GTie rows j g p) ↔ (∃ g ∈ r.gets, GTie rows j g p) ∨ ∃ c ∈ r.puts, GTie rows j (c, ((j : Nat) : Int)) p := by
    unfold someL
    constructor
    · rintro ⟨g, hg, t⟩
      rcases List.mem_append.mp hg with z | z
      · exact .inl ⟨g, z, t⟩
      · obtain ⟨c, hc, rfl⟩ := List.mem_map.mp z
        exact .inr ⟨c, hc, t⟩
    · rintro (⟨g, hg, t⟩ | ⟨c, hc, t⟩)
      · exact ⟨g, List.mem_append_left _ hg, t⟩
      · exact ⟨_, List.mem_append_right _ (List.mem_map_of_mem hc), t⟩
  rw [h2, ← or_assoc]
  refine or_congr_left (or_congr_left ?_)
  cases e : look pm r.task with
  | none => simp
  | some k => simp [mem_addP1]
theorem RowsOk.at {rs : List Rw} : ∀ {s : Nat}, RowsOk s rs → ∀ (k : Nat) (r : Rw), rs[k]? = some r → RowOk (s + k) r := by
  induction rs with
  | nil => intro s _ k r h; simp at h
  | cons x rs ih =>
    intro s ok k r h
    cases k with
    | zero => cases (show some x = some r from h); exact ok.1
    | succ k =>
      have := ih ok.2 k r h
      rw [show s + (k + 1) = s + 1 + k by omega]
      exact this
/-- the numbers of the rows that are taken as last ones -/
def LastOk (rows : List Rw) (s : Nat) (pm : List Pr) : Prop := ∀ t k, look pm t = some k → k < s ∧ ∃ r, rows[k]? = some r ∧ r.task = t
theorem mem_tRows {rows : List Rw} {p : Pr} : ∀ {rs : List Rw} {s : Nat} {pm ps : List Pr}, (∀ k r, rs[k]? = some r → rows[s + k]? = some r) → RowsOk s rs → LastOk rows s pm →
    (p ∈ tRows (layR rows) s rs pm ps → p ∈ ps ∨ ∃ x ∈ ixR s rs, RTie rows x.1 x.2 p) ∧ (p ∈ ps ∨ (∃ x ∈ ixR s rs, ∃ g ∈ someL x.1 x.2, GTie rows x.1 g p) → p ∈ tRows (layR rows) s rs pm ps)
  | [], s, pm, ps, _, _, _ => by simp [tRows, ixR]
  | r :: rs, s, pm, ps, hr, ok, la => by
    have hg : ∀ g ∈ r.gets, -1 ≤ g.2 := fun g h => (ok.1.ge g h).1
    have r0 : rows[s]? = some r := hr 0 r rfl
    have ih := mem_tRows (rows := rows) (p := p) (rs := rs) (s := s + 1) (pm := upP pm r.task s) (ps := tRow (layR rows) s r pm ps) (fun k r' h => by
      have := hr (k + 1) r' h
      rw [show s + 1 + k = s + (k + 1) by omega]
      exact this) ok.2 (fun t k h => by
      rw [look_upP] at h
      by_cases c : t = r.task
      · rw [if_pos c] at h
        cases h
        exact ⟨by omega, r, r0, c.symm⟩
      · rw [if_neg c] at h
        obtain ⟨h1, h2⟩ := la t k h
        exact ⟨by omega, h2⟩)
    rw [mem_tRow hg] at ih
    rw [tRows, ixR]
    constructor
    · intro h
      rcases ih.1 h with ((h | ⟨k, h1, h2⟩) | ⟨g, h1, h2⟩) | ⟨x, h1, h2⟩
      · exact .inl h
      · obtain ⟨g1, r', g2, g3⟩ := la _ _ h1
        refine .inr ⟨(s, r), List.mem_cons_self, .inl ⟨k, g1, ?_, h2⟩⟩
        unfold sameTask
        rw [g2]
        simpa using g3
      · exact .inr ⟨(s, r), List.mem_cons_self, .inr ⟨g, h1, h2⟩⟩
      · exact .inr ⟨x, List.mem_cons_of_mem _ h1, h2⟩
    · rintro (h | ⟨x, h1, h2⟩)
      · exact ih.2 (.inl (.inl (.inl h)))
      · rcases List.mem_cons.mp h1 with e | h1
        · subst e
          exact ih.2 (.inl (.inr h2))
        · exact ih.2 (.inr ⟨x, h1, h2⟩)
theorem RTie.bd {rows : List Rw} {j : Nat} {r : Rw} {p : Pr} (hj : j < rows.length) (ok : RowOk j r) (h : RTie rows j r p) : p.1 < rows.length ∧ p.2 < rows.length := by
  rcases h with ⟨i, h1, _, rfl⟩ | ⟨g, hg, h⟩
  · exact ⟨by show i < _; omega, hj⟩
  · rcases h with ⟨h1, rfl⟩ | ⟨k, h1, _, rfl⟩
    · unfold someL at hg
      rcases List.mem_append.mp hg with z | z
      · obtain ⟨g1, g2⟩ := ok.ge g z
        exact ⟨by show g.2.toNat < _; omega, hj⟩
      · obtain ⟨c, hc, rfl⟩ := List.mem_map.mp z
        exact absurd (.inr rfl) h1
    · exact ⟨hj, laterL_lt k (List.mem_of_mem_head? h1)⟩
theorem lawT_bd {rows : List Rw} (ok : RowsOk 0 rows) {p : Pr} (h : p ∈ lawT rows) : p.1 < rows.length ∧ p.2 < rows.length := by
  obtain ⟨⟨j, r⟩, hx, t⟩ := mem_lawT.mp h
  obtain ⟨_, h2⟩ := mem_ixR.mp hx
  rw [Nat.sub_zero] at h2
  have := ok.at j r h2
  rw [Nat.zero_add] at this
  exact t.bd (List.getElem?_eq_some_iff.mp h2).1 this
theorem tiesP_sub {rows : List Rw} (ok : RowsOk 0 rows) {p : Pr} (h : p ∈ tiesP rows) : p ∈ lawT rows := by
  have := (mem_tRows (rows := rows) (p := p) (rs := rows) (s := 0) (pm := []) (ps := []) (fun k r h => by rw [Nat.zero_add]; exact h) ok (fun t k h => by cases h)).1 h
  rcases this with z | z
  · cases z
  · exact mem_lawT.mpr z
/-- the two sets of pairs are the same -/
theorem same_pairs {rows : List Rw} (ok : RowsOk 0 rows) {ks : List Key} (hk : ∀ k, k ∉ ks → numK rows k = []) : srt (addP (addP [] (tiesP rows)) (farAll (numK rows) ks [])) = srt (lawT rows) := by
  refine srt_uniq (perm_of (nd_addP (nd_addP List.nodup_nil)) nd_lawT fun p => ?_)
  rw [mem_addP, mem_addP]
  constructor
  · rintro ((h | h) | h)
    · cases h
    · exact tiesP_sub ok h
    · obtain ⟨y, x⟩ := p
      obtain ⟨h1, r, r', h2, h3, h4⟩ := (mem_far hk).mp h
      refine mem_lawT.mpr ⟨(x, r'), mem_ixR.mpr ⟨Nat.zero_le _, by rw [Nat.sub_zero]; exact h3⟩, .inl ⟨y, h1, ?_, rfl⟩⟩
      unfold sameTask
      rw [h2]
      simpa using h4
  · intro h
    obtain ⟨⟨j, r⟩, hx, t⟩ := mem_lawT.mp h
    rcases t with ⟨i, h1, h2, rfl⟩ | t
    · refine .inr ((mem_far hk).mpr ⟨h1, ?_⟩)
      obtain ⟨_, h3⟩ := mem_ixR.mp hx
      rw [Nat.sub_zero] at h3
      unfold sameTask at h2
      cases e : rows[i]? with
      | none => rw [e] at h2; cases h2
      | some r' =>
        rw [e] at h2
        exact ⟨r', r, rfl, h3, by simpa using h2⟩
    · exact .inl (.inr ((mem_tRows (rows := rows) (p := p) (rs := rows) (s := 0) (pm := []) (ps := []) (fun k r h => by rw [Nat.zero_add]; exact h) ok (fun t k h => by cases h)).2 (.inr ⟨(j, r), hx, t⟩)))
theorem numK_bd {rows : List Rw} (hr : rows.length ≤ 20) (k : Key) : (numK rows k).length ≤ 40 ∧ ∀ x ∈ numK rows k, x < 20 := by
  have hb : ∀ x ∈ numK rows k, x < 20 := fun x hx => by
    by_cases h : ∃ t, k = kI t
    · obtain ⟨t, rfl⟩ := h
      obtain ⟨r, h1, _⟩ := mem_numK.mp hx
      have := (List.getElem?_eq_some_iff.mp h1).1
      omega
    · unfold numK at hx
      rw [numF_other fun t e => h ⟨t, e⟩] at hx
      cases hx
  have nd : (numK rows k).Nodup := (numK_asc k).imp fun h => by omega
  exact ⟨Nat.le_trans (nodup_le nd hb) (by omega), hb⟩
theorem putsN_le : ∀ {rows : List Rw}, (∀ r ∈ rows, r.puts.length ≤ 10) → putsN rows ≤ rows.length * 10
  | [], _ => Nat.le_refl _
  | r :: rs, h => by
    have h1 := h r List.mem_cons_self
    have h2 := putsN_le fun x hx => h x (List.mem_cons_of_mem _ hx)
    rw [putsN, List.length_cons]
    omega
/-- ties of drawn rows: the law's pairs -/
theorem ties_law {dr : D} {rows : List Rw} (h : IsRows dr rows) (hn : rows.length ≤ 20) (ok : RowsOk 0 rows) : tiesF [dr] [] = .ok (.tup ((srt (lawT rows)).map prD)) [] := by
  have hr : ∀ r ∈ rows, r.gets.length ≤ 10 ∧ r.puts.length ≤ 10 := fun r hr => by
    obtain ⟨k, hk⟩ := List.mem_iff_getElem?.mp hr
    have := ok.at k r hk
    exact ⟨this.gl, this.pl⟩
  have hp := putsN_le fun r h => (hr r h).2
  obtain ⟨ks, hk, _, _, e⟩ := ties_ok h hr hn (by omega) (fun p hp => by
    have := lawT_bd ok (tiesP_sub ok hp)
    omega) (numK_bd hn)
  rw [same_pairs ok hk] at e
  exact e
theorem srt_bd {rows : List Rw} (ok : RowsOk 0 rows) : ∀ e ∈ srt (lawT rows), e.1 < rows.length ∧ e.2 < rows.length := fun e he => lawT_bd ok ((srt_perm _).mem_iff.mp he)
theorem srt_len {rows : List Rw} (hn : rows.length ≤ 20) (ok : RowsOk 0 rows) : (srt (lawT rows)).length ≤ 400 := by
  refine pairs_le ((srt_perm _).nodup_iff.mpr nd_lawT) fun p hp => ?_
  have := srt_bd ok p hp
  omega
end K21
namespace K21
open PySem L2 PyProof.Rows VL
open PySem.W
abbrev G2 := Str × Int
def gk (g : G2) : NestedKey := .tup [.text g.1, .num g.2]
def dnG (gs : List G2) : Cell := .dn (gs.map getD2) (gs.map fun _ => .bl true)
theorem nkD_g (g : G2) : nkD (getD2 g) = some (gk g) := by
  simp [nkD, nkDs, getD2, gk]
theorem nkT_g (g : G2) : nkT (getD2 g) = some (gk g) := by
  unfold nkT
  rw [nkD_g]
  show (if (gk g).depth ≤ 8 then some (gk g) else none) = _
  rw [if_pos]
  simp [gk, NestedKey.depth, NestedKey.depthAll]
theorem gk_inj {p q : G2} : gk p = gk q ↔ p = q := by
  constructor
  · intro h
    simp only [gk, NestedKey.tup.injEq, List.cons.injEq, NestedKey.num.injEq, NestedKey.text.injEq, and_true] at h
    obtain ⟨a, b⟩ := p
    obtain ⟨c, d⟩ := q
    simp only at h
    rw [h.1, h.2]
  · exact fun h => by rw [h]
theorem eqKD_g {p q : G2} : eqKD (getD2 p) (gk q) = decide (p = q) := by
  unfold eqKD
  rw [nkD_g]
  show eqN (gk p) (gk q) = _
  rw [eqN_eq]
  by_cases c : p = q
  · subst c; simp
  · rw [decide_eq_false fun e => c (gk_inj.mp e), decide_eq_false c]
theorem lookN_g {q : G2} : ∀ (ps : List G2), lookN (gk q) (ps.map getD2) (ps.map fun _ => D.bl true) = if q ∈ ps then some (.bl true) else none
  | [] => by simp [lookN]
  | p :: ps => by
    rw [List.map_cons, List.map_cons]
    unfold lookN
    rw [eqKD_g, lookN_g ps]
    by_cases c : p = q
    · subst c; simp
    · have c' : ¬ q = p := fun e => c e.symm
      simp [c, c']
theorem setN_g {q : G2} : ∀ (ps : List G2), setN (gk q) (.bl true) (ps.map getD2) (ps.map fun _ => D.bl true) = ps.map fun _ => D.bl true
  | [] => rfl
  | p :: ps => by
    rw [List.map_cons, List.map_cons]
    unfold setN
    rw [setN_g ps]
    by_cases c : eqKD (getD2 p) (gk q) = true
    · rw [if_pos c]
    · rw [if_neg c]
theorem setKN_g {env : List (Option D)} {cs : List Cell} {n : Nat} {ps : List G2} {q : G2} (h : cs[n]? = some (dnG ps)) (hz : ps.length < 16777216) : ∃ ps', (ps' = ps ∨ ps' = ps ++ [q]) ∧ setKN (.loc n) (getD2 q) (.bl true) ⟨env, cs⟩ = .nx ⟨env, cs.set n (dnG ps')⟩ := by
  unfold setKN
  rw [nkT_g]
  have h : cs[n]? = some (.dn (ps.map getD2) (ps.map fun _ => .bl true)) := h
  simp only [h]
  rw [if_pos (by rw [List.length_map]; exact hz), lookN_g]
  by_cases c : q ∈ ps
  · refine ⟨ps, .inl rfl, ?_⟩
    rw [if_pos c, setN_g]
    rfl
  · refine ⟨ps ++ [q], .inr rfl, ?_⟩
    rw [if_neg c]
    show SOut.nx ⟨env, cs.set n (.dn (ps.map getD2 ++ [getD2 q]) ((ps.map fun _ => D.bl true) ++ [.bl true]))⟩ = _
    unfold dnG
    rw [List.map_append, List.map_append]
    rfl
theorem listN_g {cs : List Cell} {n : Nat} {ps : List G2} (h : cs[n]? = some (dnG ps)) : hListN false cs [.loc n] = .ok (.lst (ps.map getD2)) cs := by
  have d1 : dcnOf cs (.loc n) = some (ps.map getD2, ps.map fun _ => .bl true) := by
    unfold dcnOf
    simp only [h]
    rfl
  show (match dcnOf cs (.loc n) with
    | some (ks, _) => if false then newCell ks cs else Out.ok (D.lst ks) cs
    | none => .no) = _
  rw [d1]
  rfl
def leG (p q : G2) : Bool := leD (getD2 p) (getD2 q)
theorem insO_g {p : G2} : ∀ (ps : List G2), insO leD (getD2 p) (ps.map getD2) = (insO leG p ps).map getD2
  | [] => rfl
  | q :: ps => by
    rw [List.map_cons]
    unfold insO
    by_cases c : leG p q = true
    · rw [if_pos c, if_pos (show leD (getD2 p) (getD2 q) = true from c)]
      rfl
    · rw [if_neg c, if_neg (show ¬ leD (getD2 p) (getD2 q) = true from c), insO_g ps]
      rfl
theorem sortG_g : ∀ (ps : List G2), sortG (ps.map getD2) = (isort leG ps).map getD2
  | [] => rfl
  | p :: ps => by
    show insO leD (getD2 p) (sortG (ps.map getD2)) = _
    rw [sortG_g ps, insO_g]
    rfl
theorem insO_permG {p : G2} : ∀ (ps : List G2), (insO leG p ps).Perm (p :: ps)
  | [] => List.Perm.refl _
  | q :: ps => by
    unfold insO
    by_cases c : leG p q = true
    · rw [if_pos c]
    · rw [if_neg c]
      exact (List.Perm.cons q (insO_permG ps)).trans (List.Perm.swap p q ps)
theorem isortG_perm : ∀ (ps : List G2), (isort leG ps).Perm ps
  | [] => List.Perm.refl _
  | p :: ps => (insO_permG (isort leG ps)).trans (List.Perm.cons p (isortG_perm ps))
theorem plains_g : ∀ (ps : List G2), plains (ps.map getD2) = true
  | [] => rfl
  | p :: ps => by
    rw [List.map_cons]
    simp [plains, VL.plain, getD2, plains_g ps]
theorem cond_g (ps : List G2) : (plains (ps.map getD2) && alikeRow (pys (ps.map getD2)) && sortableB (pys (ps.map getD2)) && (pys (ps.map getD2)).all (fun p => decide (p.depth ≤ 60))) = true := by
  have h : ∀ d ∈ pys (ps.map getD2), ∃ p : G2, d = .tuple [.str p.1, .int p.2] := by
    intro d hd
    rw [pys_map, List.map_map] at hd
    obtain ⟨p, _, rfl⟩ := List.mem_map.mp hd
    exact ⟨p, rfl⟩
  rw [plains_g]
  have h2 : alikeRow (pys (ps.map getD2)) = true := by
    unfold alikeRow
    rw [List.all_eq_true]
    intro a ha
    rw [List.all_eq_true]
    intro b hb
    obtain ⟨p, rfl⟩ := h a ha
    obtain ⟨q, rfl⟩ := h b hb
    simp [alike, alikeAll]
  have h3 : sortableB (pys (ps.map getD2)) = true := by
    unfold sortableB
    rw [Bool.or_eq_true]
    refine .inl ?_
    rw [List.all_eq_true]
    intro a ha
    obtain ⟨p, rfl⟩ := h a ha
    rfl
  have h4 : ((pys (ps.map getD2)).all fun p => decide (p.depth ≤ 60)) = true := by
    rw [List.all_eq_true]
    intro a ha
    obtain ⟨p, rfl⟩ := h a ha
    refine decide_eq_true ?_
    simp [PyData.depth, PyData.depthAll]
  rw [h2, h3, h4]
  rfl
theorem sortG_okg {cs : List Cell} (ps : List G2) : hSortG cs [.lst (ps.map getD2)] = .ok (.lst ((isort leG ps).map getD2)) cs := by
  show (if plains (ps.map getD2) && alikeRow (pys (ps.map getD2)) && sortableB (pys (ps.map getD2)) && (pys (ps.map getD2)).all (fun p => decide (p.depth ≤ 60)) then Out.ok (D.lst (sortG (ps.map getD2))) cs else .no) = _
  rw [cond_g, sortG_g]
  rfl
theorem strsOf_map : ∀ (ys : List Str), strsOf (ys.map D.str) = some ys
  | [] => rfl
  | y :: ys => by
    rw [List.map_cons]
    show (strsOf (ys.map D.str)).map (y :: ·) = _
    rw [strsOf_map ys]
    rfl
theorem sortS_ok {cs : List Cell} {ys : List Str} (h : ys.length < 64) : hSortS cs [.lst (ys.map D.str)] = .ok (.lst ((sortT ys).map D.str)) cs := by
  show (match strsOf (ys.map D.str) with
    | some ys => if decide (ys.length < 64) then Out.ok (D.lst ((sortT ys).map .str)) cs else .no
    | none => .no) = _
  rw [strsOf_map]
  dsimp only
  rw [if_pos (decide_eq_true h)]
theorem eqStr_self (x : Str) : eqStr x x = true := beq_self_eq_true _
theorem eqDs_app {x : D} {l : List D} (h : eqD x x = true) (h2 : eqDs l l = true) : eqDs (x :: l) (x :: l) = true := by
  show (eqD x x && eqDs l l) = true
  rw [h, h2]; rfl
theorem eqDs_str : ∀ (l : List Str), eqDs (l.map D.str) (l.map D.str) = true
  | [] => rfl
  | x :: l => eqDs_app (eqStr_self x) (eqDs_str l)
theorem eqDs_g : ∀ (l : List G2), eqDs (l.map getD2) (l.map getD2) = true
  | [] => rfl
  | x :: l => eqDs_app (by
    show (eqStr x.1 x.1 && ((x.2 == x.2) && true)) = true
    rw [eqStr_self, beq_self_eq_true]; rfl) (eqDs_g l)
theorem eqDs_rows : ∀ (l : List Rw), eqDs (l.map rowD) (l.map rowD) = true
  | [] => rfl
  | r :: l => eqDs_app (by
    show ((((r.task : Nat) : Int) == ((r.task : Nat) : Int)) && (eqDs (r.gets.map getD2) (r.gets.map getD2) && (eqDs (r.puts.map D.str) (r.puts.map D.str) && true))) = true
    rw [beq_self_eq_true, eqDs_g, eqDs_str]; rfl) (eqDs_rows l)
/-- cells that name no other one -/
def FlatC (junk : List Cell) : Prop := ∀ k, junk.all (belowC k) = true
theorem belows_g {n : Nat} (l : List G2) : belows n (l.map getD2) = true := belows_of fun x hx => by
  obtain ⟨_, _, rfl⟩ := List.mem_map.mp hx
  rfl
theorem flat_dnG {gl : List G2} {k : Nat} : belowC k (dnG gl) = true := by
  show (belows k (gl.map getD2) && belows k (gl.map fun _ => D.bl true)) = true
  rw [belows_g, belows_of (xs := gl.map fun _ => D.bl true) fun x hx => by
    obtain ⟨_, _, rfl⟩ := List.mem_map.mp hx
    rfl]
  rfl
theorem FlatC.snoc {junk : List Cell} (h : FlatC junk) {c : Cell} (hc : ∀ k, belowC k c = true) : FlatC (junk ++ [c]) := fun k => by
  rw [List.all_append, h k]
  show (true && (belowC k c && true)) = true
  rw [hc k]; rfl
theorem low_dx2 {gs : List Int} {b t : Int} {k : Nat} (hk : 2 ≤ k) : (dx gs b t).all (belowC k) = true := by
  show (belows k [.loc 1, .int b, .int t] && (belows k (gs.map D.int) && true)) = true
  rw [belows_int, belows_cons, belows_cons, belows_cons, below_loc, decide_eq_true (show 1 < k by omega)]
  rfl
abbrev cRw (gs : List Int) (b t : Int) (rows : List Rw) (junk : List Cell) : List Cell := dx gs b t ++ (.lst (rows.map rowD) :: junk)
theorem low_cRw {gs : List Int} {b t : Int} {rows : List Rw} {junk : List Cell} (h : FlatC junk) {k : Nat} (hk : 2 ≤ k) : (cRw gs b t rows junk).all (belowC k) = true := by
  rw [List.all_append, low_dx2 hk]
  show (true && (belows k (rows.map rowD) && junk.all (belowC k))) = true
  rw [belows_rows, h k]
  rfl
theorem pick_ok (gs : List Int) (hg : gs.length ≤ 63) (b t : Int) (ds : List D) (h0 : ds ≠ []) (h1 : ds.length < 1073741824) (hb : belows 2 ds = true) (hn : ∀ d ∈ ds, ∀ m, d ≠ .loc m) : WO (pickF [.loc 0, .lst ds] (dx gs b t)) (fun d c => d ∈ ds ∧ ∃ gs' b' t', gs'.length ≤ 63 ∧ c = dx gs' b' t') NoE := by
  have hpos : 0 < ds.length := by
    cases ds with
    | nil => exact absurd rfl h0
    | cons x l => simp
  refine wo_trim (wo_run (env := [some (.loc 0), some (.lst ds)]) rfl ?_)
  and_intros
  refine wd_draw (rest := []) ds.length rfl hg hpos h1 fun v gs' b' t' hv hg' => ?_
  have hm : ds[v] ∈ ds := List.getElem_mem hv
  refine wo_of (a := ds[v]) (cs := dx gs' b' t') (ix_lst (VL.atI_nat (by simp [hv]))) ?_
  and_intros
  have hbv : below 2 ds[v] = true := by
    rw [belows_all, List.all_eq_true] at hb
    exact hb _ hm
  exact ⟨low_dx _ _ _, _, outD_low hbv (hn _ hm), hm, gs', b', t', hg', rfl⟩
theorem wd_pick {gs : List Int} {b t : Int} {rest : List Cell} {ds : List D} {Q : D → List Cell → Prop} {E : Exn → List Cell → Prop} (hg : gs.length ≤ 63) (h0 : ds ≠ []) (h1 : ds.length < 1073741824) (hb : ∀ k, belows k ds = true) (hn : ∀ d ∈ ds, ∀ m, d ≠ .loc m) (h : ∀ d gs' b' t', d ∈ ds → gs'.length ≤ 63 → Q d (dx gs' b' t' ++ rest)) : WO (callV 2 pickF [.loc 0, .lst ds] (dx gs b t ++ rest)) Q E := by
  have hb2 : belows 2 [.loc 0, .lst ds] = true := by
    rw [belows_cons, belows_cons]
    show (true && (belows 2 ds && true)) = true
    rw [hb]; rfl
  exact wd_call (ds' := [.loc 0, .lst ds]) (fun d => d ∈ ds) rfl hb2 (pick_ok gs hg b t ds h0 h1 (hb 2) hn) (.inl hb2) h
theorem draw_ev {gs : List Int} {b t : Int} (n : Nat) {rest : List Cell} (hg : gs.length ≤ 63) (h0 : 0 < n) (h1 : n < 1073741824) : ∃ (v : Nat) (gs' : List Int) (b' t' : Int), v < n ∧ gs'.length ≤ 63 ∧ callV 2 drawF [.loc 0, .int n] (dx gs b t ++ rest) = .ok (.int v) (dx gs' b' t' ++ rest) := by
  obtain ⟨d, c, e, v, gs', b', t', h1, h2, rfl, rfl⟩ := (wd_draw (E := NoE) (Q := fun d c => ∃ (v : Nat) (gs' : List Int) (b' t' : Int), v < n ∧ gs'.length ≤ 63 ∧ d = .int v ∧ c = dx gs' b' t' ++ rest) (gs := gs) (b := b) (t := t) (rest := rest) n rfl hg h0 h1 fun v gs' b' t' h1 h2 => ⟨v, gs', b', t', h1, h2, rfl, rfl⟩).ex
  exact ⟨v, gs', b', t', h1, h2, e⟩
theorem pick_ev {gs : List Int} {b t : Int} {rest : List Cell} {ds : List D} (hg : gs.length ≤ 63) (h0 : ds ≠ []) (h1 : ds.length < 1073741824) (hb : ∀ k, belows k ds = true) (hn : ∀ d ∈ ds, ∀ m, d ≠ .loc m) : ∃ (d : D) (gs' : List Int) (b' t' : Int), d ∈ ds ∧ gs'.length ≤ 63 ∧ callV 2 pickF [.loc 0, .lst ds] (dx gs b t ++ rest) = .ok d (dx gs' b' t' ++ rest) := by
  obtain ⟨d, c, e, gs', b', t', h1, h2, rfl⟩ := (wd_pick (E := NoE) (Q := fun d c => ∃ (gs' : List Int) (b' t' : Int), d ∈ ds ∧ gs'.length ≤ 63 ∧ c = dx gs' b' t' ++ rest) (gs := gs) (b := b) (t := t) (rest := rest) hg h0 h1 hb hn fun d gs' b' t' h1 h2 => ⟨gs', b', t', h1, h2, rfl⟩).ex
  exact ⟨d, gs', b', t', h1, h2, e⟩
end K21
namespace K21
open PySem L2 PyProof.Rows VL
abbrev eRw (many : Nat) (cl : List Str) (e4 e5 e6 e7 e8 e9 e10 e11 : Option D) : List (Option D) := [some (.loc 0), some (nI many), some (.loc 2), some (.lst (cl.map D.str)), e4, e5, e6, e7, e8, e9, e10, e11]
def hasL (rows : List Rw) (c : Str) : List Nat := ((ixR 0 rows).filter fun x => inD (.str c) (x.2.puts.map D.str)).map (·.1)
theorem hasL_lt {rows : List Rw} {c : Str} : ∀ x ∈ hasL rows c, x < rows.length := by
  intro x hx
  unfold hasL at hx
  obtain ⟨⟨k, r⟩, hy, rfl⟩ := List.mem_map.mp hx
  obtain ⟨_, h2⟩ := mem_ixR.mp (List.mem_filter.mp hy).1
  rw [Nat.sub_zero] at h2
  exact (List.getElem?_eq_some_iff.mp h2).1
theorem hasL_len {rows : List Rw} {c : Str} : (hasL rows c).length ≤ rows.length := by
  unfold hasL
  rw [List.length_map]
  refine Nat.le_trans (List.length_filter_le _ _) ?_
  rw [ixR_len]
  exact Nat.le_refl _
theorem cRw_snoc {gs : List Int} {b t : Int} {rows : List Rw} {junk : List Cell} {c : Cell} : cRw gs b t rows (junk ++ [c]) = cRw gs b t rows junk ++ [c] := by simp
theorem cRw_len {gs : List Int} {b t : Int} {rows : List Rw} {junk : List Cell} : (cRw gs b t rows junk).length = 3 + junk.length := by
  simp
  omega
theorem cRw_at {gs : List Int} {b t : Int} {rows : List Rw} {junk : List Cell} {c : Cell} : (cRw gs b t rows (junk ++ [c]))[3 + junk.length]? = some c := by
  rw [cRw_snoc, ← cRw_len (gs := gs) (b := b) (t := t) (rows := rows), List.getElem?_append_right (Nat.le_refl _), Nat.sub_self]
  rfl
theorem cRw_set {gs : List Int} {b t : Int} {rows : List Rw} {junk : List Cell} {c d : Cell} : (cRw gs b t rows (junk ++ [c])).set (3 + junk.length) d = cRw gs b t rows (junk ++ [d]) := by
  rw [cRw_snoc, ← cRw_len (gs := gs) (b := b) (t := t) (rows := rows), List.set_append_right _ _ (Nat.le_refl _), Nat.sub_self, cRw_snoc]
  rfl
theorem some8 {many : Nat} {cl : List Str} {e4 e5 e6 e8 e9 e10 e11 : Option D} {c : Str} {gs : List Int} {b t : Int} {rows : List Rw} {junk : List Cell} (hf : FlatC junk) (hr : rows.length ≤ 1000) :
    eLc (iEnO (aCons (eVar 2) aNil)) (gTp 2 (gsCons (gNm 9) (gsCons (gNm 10) gsNil))) (tCmp' (gIn false) (eVar 7) (eOp gIx (eVar 10) (eC (.int 2)))) (eVar 9) [9, 10] ⟨eRw many cl e4 e5 e6 (some (.str c)) e8 e9 e10 e11, cRw gs b t rows junk⟩ = .ok (.lst ((hasL rows c).map nI)) (cRw gs b t rows junk) := by
  have hs : iEnO (aCons (eVar 2) aNil) ⟨eRw many cl e4 e5 e6 (some (.str c)) e8 e9 e10 e11, cRw gs b t rows junk⟩ = .ok ((ixR 0 rows).map ixD, keepD 2 (rows.map rowD)) (cRw gs b t rows junk) := by
    rw [← enR_ix, ← enum_rows]
    rfl
  have := ev_eLc (xs := ixR 0 rows) (fD := ixD) (kp := keepD 2 (rows.map rowD)) (c1 := cRw gs b t rows junk) (src := iEnO (aCons (eVar 2) aNil)) (g := gTp 2 (gsCons (gNm 9) (gsCons (gNm 10) gsNil))) (t := tCmp' (gIn false) (eVar 7) (eOp gIx (eVar 10) (eC (.int 2)))) (f := eVar 9) (vs := [9, 10]) (st := ⟨eRw many cl e4 e5 e6 (some (.str c)) e8 e9 e10 e11, cRw gs b t rows junk⟩)
    (fun x => inD (.str c) (x.2.puts.map D.str)) (fun x => nI x.1) hs (fun acc => eqDs_refl_of (eqDs_rows rows) rfl) (by rw [ixR_len]; omega) (low_cRw hf (by rw [cRw_len]; omega)) (fun _ _ _ => rfl) (fun x _ acc _ => by
      refine ⟨eRw many cl e4 e5 e6 (some (.str c)) e8 (some (nI x.1)) (some (rowD x.2)) e11, rfl, ?_, fun _ => rfl⟩
      have fl : (x.2.puts.map D.str).all flatD = true := by
        rw [List.all_eq_true]
        intro z hz
        obtain ⟨_, _, rfl⟩ := List.mem_map.mp hz
        rfl
      refine ev_tCmp (ev_eOp (c1 := cRw gs b t rows junk ++ [.lst acc]) (c2 := cRw gs b t rows junk ++ [.lst acc]) (x := .str c) (y := .tup (x.2.puts.map D.str)) rfl rfl ?_)
      show (if flatD (.str c) && (x.2.puts.map D.str).all flatD then Out.ok (D.bl (if false then !inD (.str c) (x.2.puts.map D.str) else inD (.str c) (x.2.puts.map D.str))) (cRw gs b t rows junk ++ [.lst acc]) else .no) = _
      rw [fl]
      rfl)
  rw [this]
  unfold hasL
  rw [List.map_map]
  rfl
theorem ev_setKNv {fo fi : Ex} {env : List (Option D)} {c0 c1 c2 : List Cell} {v o k : D} {so : SOut} (e1 : fo ⟨env, c0⟩ = .ok o c1) (e2 : fi ⟨env, c1⟩ = .ok k c2) (e3 : setKN o k v ⟨env, c2⟩ = so) : sSetKN (eC v) fo fi ⟨env, c0⟩ = so := by
  unfold sSetKN
  simp only [eC, thenS, e1, e2, e3]
def okG (n : Nat) (gl : List G2) : Prop := ∀ g ∈ gl, -1 ≤ g.2 ∧ g.2 < n
abbrev b_get : Sx := (sSeq (sAsg (eCall 2 pickF (aCons (eVar 0) (aCons (eVar 3) aNil))) (gNm 7))
    (sSeq (sAsg (eOp gAdd (eLst (aCons (eOp gSub (eC (.int 0)) (eC (.int 1))) aNil)) (eLc (iEnO (aCons (eVar 2) aNil)) (gTp 2 (gsCons (gNm 9) (gsCons (gNm 10) gsNil))) (tCmp' (gIn false) (eVar 7) (eOp gIx (eVar 10) (eC (.int 2)))) (eVar 9) [9, 10])) (gNm 8))
    (sSetKN (eC (.bl true)) (eVar 5) (eTup (aCons (eVar 7) (aCons (eCall 2 pickF (aCons (eVar 0) (aCons (eVar 8) aNil))) aNil))))))
theorem get_turn {many : Nat} {cl : List Str} {e4 e6 e7 e8 e9 e10 e11 : Option D} {gs : List Int} {b t : Int} {rows : List Rw} {junk : List Cell} {gl : List G2} (hg : gs.length ≤ 63) (hc : cl ≠ []) (hc3 : cl.length ≤ 3) (hf : FlatC junk) (hr : rows.length ≤ 1000) (hz : gl.length ≤ 100) (ok : okG rows.length gl) :
    ∃ (gs' : List Int) (b' t' : Int) (gl' : List G2) (e7' e8' : Option D), gs'.length ≤ 63 ∧ gl'.length ≤ gl.length + 1 ∧ okG rows.length gl' ∧ b_get ⟨eRw many cl e4 (some (.loc (3 + junk.length))) e6 e7 e8 e9 e10 e11, cRw gs b t rows (junk ++ [dnG gl])⟩ = .nx ⟨eRw many cl e4 (some (.loc (3 + junk.length))) e6 e7' e8' e9 e10 e11, cRw gs' b' t' rows (junk ++ [dnG gl'])⟩ := by
  obtain ⟨d, gs1, b1, t1, hd, hg1, e1⟩ := pick_ev (gs := gs) (b := b) (t := t) (rest := .lst (rows.map rowD) :: (junk ++ [dnG gl])) (ds := cl.map D.str) hg (by simpa using hc) (by rw [List.length_map]; omega) (fun k => belows_str) (fun d hd m e => by
    obtain ⟨c, _, rfl⟩ := List.mem_map.mp hd
    cases e)
  obtain ⟨c, _, rfl⟩ := List.mem_map.mp hd
  have hf2 : FlatC (junk ++ [dnG gl]) := hf.snoc fun _ => flat_dnG
  obtain ⟨y, gs2, b2, t2, hy, hg2, e2⟩ := pick_ev (gs := gs1) (b := b1) (t := t1) (rest := .lst (rows.map rowD) :: (junk ++ [dnG gl])) (ds := D.int (0 - 1) :: (hasL rows c).map nI) hg1 (by simp) (by
    rw [List.length_cons, List.length_map]
    have := hasL_len (rows := rows) (c := c)
    omega) (fun k => by rw [belows_cons, belows_nI]; rfl) (fun d hd m e => by
    rcases List.mem_cons.mp hd with z | z
    · rw [z] at e; cases e
    · obtain ⟨c, _, rfl⟩ := List.mem_map.mp z
      cases e)
  obtain ⟨l, hl, rfl⟩ : ∃ l : Int, (-1 ≤ l ∧ l < rows.length) ∧ y = .int l := by
    rcases List.mem_cons.mp hy with z | z
    · exact ⟨0 - 1, ⟨by omega, by omega⟩, z⟩
    · obtain ⟨x, hx, rfl⟩ := List.mem_map.mp z
      have := hasL_lt x hx
      exact ⟨(x : Nat), ⟨by omega, by omega⟩, rfl⟩
  obtain ⟨gl', hgl, e3⟩ := setKN_g (env := eRw many cl e4 (some (.loc (3 + junk.length))) e6 (some (.str c)) (some (.lst (D.int (0 - 1) :: (hasL rows c).map nI))) e9 e10 e11) (cs := cRw gs2 b2 t2 rows (junk ++ [dnG gl])) (n := 3 + junk.length) (ps := gl) (q := (c, l)) cRw_at (by omega)
  rw [cRw_set] at e3
  refine ⟨gs2, b2, t2, gl', some (.str c), some (.lst (D.int (0 - 1) :: (hasL rows c).map nI)), hg2, ?_, ?_, ?_⟩
  · rcases hgl with z | z <;> rw [z]
    · omega
    · simp
  · intro g h
    rcases hgl with z | z <;> rw [z] at h
    · exact ok g h
    · rcases List.mem_append.mp h with h | h
      · exact ok g h
      · rw [List.mem_singleton.mp h]; exact hl
  · have s1 : sAsg (eCall 2 pickF (aCons (eVar 0) (aCons (eVar 3) aNil))) (gNm 7) ⟨eRw many cl e4 (some (.loc (3 + junk.length))) e6 e7 e8 e9 e10 e11, cRw gs b t rows (junk ++ [dnG gl])⟩ = .nx ⟨eRw many cl e4 (some (.loc (3 + junk.length))) e6 (some (.str c)) e8 e9 e10 e11, cRw gs1 b1 t1 rows (junk ++ [dnG gl])⟩ :=
      ev_sAsg (ev_eCall (c1 := cRw gs b t rows (junk ++ [dnG gl])) (xs := [.loc 0, .lst (cl.map D.str)]) rfl e1) rfl
    have a1 : eOp gAdd (eLst (aCons (eOp gSub (eC (.int 0)) (eC (.int 1))) aNil)) (eLc (iEnO (aCons (eVar 2) aNil)) (gTp 2 (gsCons (gNm 9) (gsCons (gNm 10) gsNil))) (tCmp' (gIn false) (eVar 7) (eOp gIx (eVar 10) (eC (.int 2)))) (eVar 9) [9, 10]) ⟨eRw many cl e4 (some (.loc (3 + junk.length))) e6 (some (.str c)) e8 e9 e10 e11, cRw gs1 b1 t1 rows (junk ++ [dnG gl])⟩ = .ok (.lst (D.int (0 - 1) :: (hasL rows c).map nI)) (cRw gs1 b1 t1 rows (junk ++ [dnG gl])) := by
      refine ev_eOp (x := .lst [D.int (0 - 1)]) (c1 := cRw gs1 b1 t1 rows (junk ++ [dnG gl])) rfl (some8 hf2 hr) ?_
      show (if [D.int (0 - 1)].length + ((hasL rows c).map nI).length ≤ 16777216 then Out.ok (D.lst ([D.int (0 - 1)] ++ (hasL rows c).map nI)) (cRw gs1 b1 t1 rows (junk ++ [dnG gl])) else .no) = _
      rw [if_pos (by
        rw [List.length_map]
        have := hasL_len (rows := rows) (c := c)
        show 1 + _ ≤ _
        omega)]
      rfl
    refine ev_sSeq s1 (ev_sSeq (ev_sAsg a1 rfl) ?_)
    refine ev_setKNv (o := .loc (3 + junk.length)) (c1 := cRw gs1 b1 t1 rows (junk ++ [dnG gl])) (k := getD2 (c, l)) (c2 := cRw gs2 b2 t2 rows (junk ++ [dnG gl])) rfl ?_ e3
    refine ev_eTup (xs := [.str c, .int l]) (ev_aCons (x := .str c) (c1 := cRw gs1 b1 t1 rows (junk ++ [dnG gl])) rfl (ev_aCons (xs := []) (x := .int l) (c1 := cRw gs2 b2 t2 rows (junk ++ [dnG gl])) ?_ rfl)) rfl
    exact ev_eCall (c1 := cRw gs1 b1 t1 rows (junk ++ [dnG gl])) (xs := [.loc 0, .lst (D.int (0 - 1) :: (hasL rows c).map nI)]) rfl e2
theorem gets_loop {many : Nat} {cl : List Str} {e4 e9 e10 e11 : Option D} {rows : List Rw} {junk : List Cell} (hc : cl ≠ []) (hc3 : cl.length ≤ 3) (hf : FlatC junk) (hr : rows.length ≤ 1000) : ∀ (k s : Nat) {gs : List Int} {b t : Int} {gl : List G2} {e6 e7 e8 : Option D}, gs.length ≤ 63 → gl.length + k ≤ 100 → okG rows.length gl →
    ∃ (gs' : List Int) (b' t' : Int) (gl' : List G2) (e6' e7' e8' : Option D), gs'.length ≤ 63 ∧ gl'.length ≤ gl.length + k ∧ okG rows.length gl' ∧ forL (gNm 6) b_get keepAll (upD s k) ⟨eRw many cl e4 (some (.loc (3 + junk.length))) e6 e7 e8 e9 e10 e11, cRw gs b t rows (junk ++ [dnG gl])⟩ = .nx ⟨eRw many cl e4 (some (.loc (3 + junk.length))) e6' e7' e8' e9 e10 e11, cRw gs' b' t' rows (junk ++ [dnG gl'])⟩
  | 0, s, gs, b, t, gl, e6, e7, e8, hg, hz, ok => ⟨gs, b, t, gl, e6, e7, e8, hg, Nat.le_refl _, ok, ev_forNil rfl⟩
  | k + 1, s, gs, b, t, gl, e6, e7, e8, hg, hz, ok => by
    obtain ⟨gs1, b1, t1, gl1, e71, e81, hg1, hl1, ok1, h1⟩ := get_turn (many := many) (e4 := e4) (e6 := some (nI s)) (e7 := e7) (e8 := e8) (e9 := e9) (e10 := e10) (e11 := e11) (b := b) (t := t) hg hc hc3 hf hr (by omega) ok
    obtain ⟨gs2, b2, t2, gl2, e62, e72, e82, hg2, hl2, ok2, h2⟩ := gets_loop (many := many) (e4 := e4) (e9 := e9) (e10 := e10) (e11 := e11) hc hc3 hf hr k (s + 1) (b := b1) (t := t1) (e6 := some (nI s)) (e7 := e71) (e8 := e81) hg1 (by omega) ok1
    exact ⟨gs2, b2, t2, gl2, e62, e72, e82, hg2, by omega, ok2, ev_forNx (st1 := ⟨eRw many cl e4 (some (.loc (3 + junk.length))) (some (nI s)) e7 e8 e9 e10 e11, cRw gs b t rows (junk ++ [dnG gl])⟩) rfl rfl h1 h2⟩
end K21
namespace K21
open PySem L2 PyProof.Rows VL
theorem ev_append2 {fo f : Ex} {env : List (Option D)} {cs c2 : List Cell} {n : Nat} {ds ds' : List D} {y : D} (h1 : fo ⟨env, cs⟩ = .ok (.loc n) cs) (h2 : cs[n]? = some (.lst ds)) (h3 : f ⟨env, cs⟩ = .ok y c2) (h5 : c2[n]? = some (.lst ds')) (h4 : ds'.length < 16777216) : eAppend fo f ⟨env, cs⟩ = .ok .non (c2.set n (.lst (ds' ++ [y]))) := by
  unfold eAppend
  rw [h1]
  simp only [Out.bind, h2, h3, h5]
  rw [if_pos h4]
theorem RowsOk.snoc : ∀ {rs : List Rw} {s : Nat} {r : Rw}, RowsOk s rs → RowOk (s + rs.length) r → RowsOk s (rs ++ [r])
  | [], s, r, _, h => ⟨h, True.intro⟩
  | x :: rs, s, r, h, h2 => ⟨h.1, RowsOk.snoc h.2 (by rw [show s + 1 + rs.length = s + (x :: rs).length by rw [List.length_cons]; omega]; exact h2)⟩
theorem picks_str {R : D → Option D → Prop} (hR : ∀ d y, R d (some y) → ∃ c : Str, y = .str c) : ∀ {ds ys : List D}, Picks R ds ys → ∃ ss : List Str, ys = ss.map D.str ∧ ss.length ≤ ds.length
  | _, _, .nil => ⟨[], rfl, Nat.le_refl _⟩
  | _, _, .skip (ds := ds) _ p => by
    obtain ⟨ss, e, l⟩ := picks_str hR p
    exact ⟨ss, e, by rw [List.length_cons]; omega⟩
  | _, _, .take (ds := ds) h p => by
    obtain ⟨ss, e, l⟩ := picks_str hR p
    obtain ⟨c, rfl⟩ := hR _ _ h
    exact ⟨c :: ss, by rw [List.map_cons, e], by rw [List.length_cons, List.length_cons]; omega⟩
theorem puts_draw {many : Nat} {cl : List Str} {e4 e5 e6 e7 e8 e9 e10 e11 : Option D} {gs : List Int} {b t : Int} {rows : List Rw} {junk : List Cell} (hg : gs.length ≤ 63) (hc3 : cl.length ≤ 3) (hf : FlatC junk) :
    ∃ (gs' : List Int) (b' t' : Int) (ss : List Str), gs'.length ≤ 63 ∧ ss.length ≤ 3 ∧ eLc (iL (eVar 3)) (gNm 7) (tCmp' (gEqB false) (eCall 2 drawF (aCons (eVar 0) (aCons (eC (.int 3)) aNil))) (eC (.int 0))) (eVar 7) [7] ⟨eRw many cl e4 e5 e6 e7 e8 e9 e10 e11, cRw gs b t rows junk⟩ = .ok (.lst (ss.map D.str)) (cRw gs' b' t' rows junk) := by
  obtain ⟨d, c, e, ss, gs', b', t', rfl, rfl, h1, h2⟩ := (wo_eLc (E := NoE) (Q := fun d c => ∃ (ss : List Str) (gs' : List Int) (b' t' : Int), d = .lst (ss.map D.str) ∧ c = cRw gs' b' t' rows junk ∧ gs'.length ≤ 63 ∧ ss.length ≤ 3)
    (src := iL (eVar 3)) (g := gNm 7) (t := tCmp' (gEqB false) (eCall 2 drawF (aCons (eVar 0) (aCons (eC (.int 3)) aNil))) (eC (.int 0))) (f := eVar 7) (vs := [7]) (env := eRw many cl e4 e5 e6 e7 e8 e9 e10 e11) (cs := cRw gs b t rows junk) (c1 := cRw gs b t rows junk) (ds := cl.map D.str)
    (fun cs => ∃ (gs : List Int) (b t : Int), gs.length ≤ 63 ∧ cs = cRw gs b t rows junk) (fun d o => ∀ y, o = some y → ∃ c : Str, y = .str c) rfl ⟨gs, b, t, hg, rfl⟩ (fun cs ⟨gs', b', t', _, e⟩ => by
      subst e
      refine ⟨by rw [cRw_len, cRw_len], low_cRw hf (by rw [cRw_len]; omega)⟩) (by rw [List.length_map]; omega) (fun d y h => by
      obtain ⟨c, rfl⟩ := h y rfl
      rfl) (fun d hd cs acc ⟨gs1, b1, t1, hg1, e⟩ => by
      subst e
      obtain ⟨c, _, rfl⟩ := List.mem_map.mp hd
      obtain ⟨v, gs2, b2, t2, hv, hg2, e2⟩ := draw_ev (gs := gs1) (b := b1) (t := t1) 3 (rest := (.lst (rows.map rowD) :: junk) ++ [.lst acc]) hg1 (by decide) (by decide)
      refine ⟨eRw many cl e4 e5 e6 (some (.str c)) e8 e9 e10 e11, rfl, ?_⟩
      have et : tCmp' (gEqB false) (eCall 2 drawF (aCons (eVar 0) (aCons (eC (.int 3)) aNil))) (eC (.int 0)) ⟨eRw many cl e4 e5 e6 (some (.str c)) e8 e9 e10 e11, cRw gs1 b1 t1 rows junk ++ [.lst acc]⟩ = .ok (((v : Nat) : Int) == 0) (cRw gs2 b2 t2 rows junk ++ [.lst acc]) := by
        refine ev_tCmp (ev_eOp (x := .int (v : Nat)) (c1 := cRw gs2 b2 t2 rows junk ++ [.lst acc]) (c2 := cRw gs2 b2 t2 rows junk ++ [.lst acc]) (y := .int 0) (ev_eCall (c1 := cRw gs1 b1 t1 rows junk ++ [.lst acc]) (xs := [.loc 0, .int (3 : Nat)]) rfl e2) rfl ?_)
        exact eqII
      exact wo_of et ⟨cRw gs2 b2 t2 rows junk, rfl, ⟨gs2, b2, t2, hg2, rfl⟩, (fun _ y h => nomatch h), fun _ => wo_of (a := .str c) (cs := cRw gs2 b2 t2 rows junk ++ [.lst acc]) rfl ⟨cRw gs2 b2 t2 rows junk, rfl, ⟨gs2, b2, t2, hg2, rfl⟩, fun y h => ⟨c, by cases h; rfl⟩⟩⟩)
    (fun ys cs' p ⟨gs', b', t', h1, e⟩ => by
      obtain ⟨ss, e2, l⟩ := picks_str (fun d y h => h y rfl) p
      rw [List.length_map] at l
      exact ⟨ss, gs', b', t', by rw [e2], e, h1, by omega⟩)).ex
  exact ⟨gs', b', t', ss, h1, h2, e⟩
abbrev b_turn : Sx := (sSeq (sAsg eNewN (gNm 5))
    (sSeq (sFor (iR1 (aCons (eCall 2 drawF (aCons (eVar 0) (aCons (eC (.int 3)) aNil))) aNil)) (gNm 6) b_get)
    (sSeq (sAsg (eLc (iL (eVar 3)) (gNm 7) (tCmp' (gEqB false) (eCall 2 drawF (aCons (eVar 0) (aCons (eC (.int 3)) aNil))) (eC (.int 0))) (eVar 7) [7]) (gNm 11))
    (sExpr (eAppend (eVar 2) (eTup (aCons (eCall 2 drawF (aCons (eVar 0) (aCons (eC (.int 3)) aNil))) (aCons (eB hTuple (aCons (eB hSortG (aCons (eB (hListN false) (aCons (eVar 5) aNil)) aNil)) aNil)) (aCons (eB hTuple (aCons (eB hSortS (aCons (eLc (iL (eVar 11)) (gNm 7) tTrue (eB hStrS (aCons (eVar 7) aNil)) [7]) aNil)) aNil)) aNil)))))))))
theorem turn_read {many : Nat} {cl : List Str} {e4 e5 e6 e7 e8 e9 e10 e11 : Option D} {gs : List Int} {b t : Int} {rows : List Rw} {junk : List Cell} (hg : gs.length ≤ 63) (hc : cl ≠ []) (hc3 : cl.length ≤ 3) (hf : FlatC junk) (hr : rows.length ≤ 1000) :
    ∃ (gs' : List Int) (b' t' : Int) (r : Rw) (gl : List G2) (e5' e6' e7' e8' e11' : Option D), gs'.length ≤ 63 ∧ RowOk rows.length r ∧ b_turn ⟨eRw many cl e4 e5 e6 e7 e8 e9 e10 e11, cRw gs b t rows junk⟩ = .nx ⟨eRw many cl e4 e5' e6' e7' e8' e9 e10 e11', cRw gs' b' t' (rows ++ [r]) (junk ++ [dnG gl])⟩ := by
  have s1 : sAsg eNewN (gNm 5) ⟨eRw many cl e4 e5 e6 e7 e8 e9 e10 e11, cRw gs b t rows junk⟩ = .nx ⟨eRw many cl e4 (some (.loc (3 + junk.length))) e6 e7 e8 e9 e10 e11, cRw gs b t rows (junk ++ [dnG []])⟩ := by
    refine ev_sAsg (d := .loc (3 + junk.length)) (c1 := cRw gs b t rows (junk ++ [dnG []])) ?_ rfl
    rw [← cRw_len (gs := gs) (b := b) (t := t) (rows := rows), cRw_snoc]
    rfl
  obtain ⟨v, gs1, b1, t1, hv, hg1, e1⟩ := draw_ev (gs := gs) (b := b) (t := t) 3 (rest := .lst (rows.map rowD) :: (junk ++ [dnG []])) hg (by decide) (by decide)
  obtain ⟨gs2, b2, t2, gl, e61, e71, e81, hg2, hl2, ok2, h2⟩ := gets_loop (many := many) (e4 := e4) (e9 := e9) (e10 := e10) (e11 := e11) hc hc3 hf hr v 0 (gs := gs1) (b := b1) (t := t1) (gl := []) (e6 := e6) (e7 := e7) (e8 := e8) hg1 (by simp; omega) (fun g h => by cases h)
  have s2 : sFor (iR1 (aCons (eCall 2 drawF (aCons (eVar 0) (aCons (eC (.int 3)) aNil))) aNil)) (gNm 6) b_get ⟨eRw many cl e4 (some (.loc (3 + junk.length))) e6 e7 e8 e9 e10 e11, cRw gs b t rows (junk ++ [dnG []])⟩ = .nx ⟨eRw many cl e4 (some (.loc (3 + junk.length))) e61 e71 e81 e9 e10 e11, cRw gs2 b2 t2 rows (junk ++ [dnG gl])⟩ := by
    refine ev_sFor (w := (upD 0 v, keepAll)) (c1 := cRw gs1 b1 t1 rows (junk ++ [dnG []])) (iR1_of (ev_aCons (c1 := cRw gs1 b1 t1 rows (junk ++ [dnG []])) (ev_eCall (c1 := cRw gs b t rows (junk ++ [dnG []])) (xs := [.loc 0, .int (3 : Nat)]) rfl e1) rfl) (by omega)) h2
  have hf2 : FlatC (junk ++ [dnG gl]) := hf.snoc fun _ => flat_dnG
  obtain ⟨gs3, b3, t3, ss, hg3, hss, e3⟩ := puts_draw (many := many) (e4 := e4) (e5 := some (.loc (3 + junk.length))) (e6 := e61) (e7 := e71) (e8 := e81) (e9 := e9) (e10 := e10) (e11 := e11) (b := b2) (t := t2) (rows := rows) hg2 hc3 hf2
  obtain ⟨k, gs4, b4, t4, hk, hg4, e4'⟩ := draw_ev (gs := gs3) (b := b3) (t := t3) 3 (rest := .lst (rows.map rowD) :: (junk ++ [dnG gl])) hg3 (by decide) (by decide)
  let ev2 := eRw many cl e4 (some (.loc (3 + junk.length))) e61 e71 e81 e9 e10 (some (.lst (ss.map D.str)))
  have lc : eLc (iL (eVar 11)) (gNm 7) tTrue (eB hStrS (aCons (eVar 7) aNil)) [7] ⟨ev2, cRw gs4 b4 t4 rows (junk ++ [dnG gl])⟩ = .ok (.lst (ss.map D.str)) (cRw gs4 b4 t4 rows (junk ++ [dnG gl])) := by
    have := ev_eLc (xs := ss) (fD := D.str) (kp := keepAll) (c1 := cRw gs4 b4 t4 rows (junk ++ [dnG gl])) (src := iL (eVar 11)) (g := gNm 7) (t := tTrue) (f := eB hStrS (aCons (eVar 7) aNil)) (vs := [7]) (st := ⟨ev2, cRw gs4 b4 t4 rows (junk ++ [dnG gl])⟩) (fun _ => true) D.str rfl (fun _ => rfl) (by omega) (low_cRw hf2 (by rw [cRw_len]; omega)) (fun _ _ _ => rfl) (fun x _ acc _ => ⟨_, rfl, rfl, fun _ => rfl⟩)
    rw [this, List.filter_eq_self.mpr fun _ _ => rfl]
  have tp : eTup (aCons (eCall 2 drawF (aCons (eVar 0) (aCons (eC (.int 3)) aNil))) (aCons (eB hTuple (aCons (eB hSortG (aCons (eB (hListN false) (aCons (eVar 5) aNil)) aNil)) aNil)) (aCons (eB hTuple (aCons (eB hSortS (aCons (eLc (iL (eVar 11)) (gNm 7) tTrue (eB hStrS (aCons (eVar 7) aNil)) [7]) aNil)) aNil)) aNil))) ⟨ev2, cRw gs3 b3 t3 rows (junk ++ [dnG gl])⟩ = .ok (rowD ⟨k, isort leG gl, sortT ss⟩) (cRw gs4 b4 t4 rows (junk ++ [dnG gl])) := by
    refine ev_eTup (xs := [nI k, .tup ((isort leG gl).map getD2), .tup ((sortT ss).map D.str)]) (ev_aCons (x := nI k) (c1 := cRw gs4 b4 t4 rows (junk ++ [dnG gl])) (ev_eCall (c1 := cRw gs3 b3 t3 rows (junk ++ [dnG gl])) (xs := [.loc 0, .int (3 : Nat)]) rfl e4') ?_) rfl
    refine ev_aCons (x := .tup ((isort leG gl).map getD2)) (c1 := cRw gs4 b4 t4 rows (junk ++ [dnG gl])) ?_ (ev_aCons (xs := []) (x := .tup ((sortT ss).map D.str)) (c1 := cRw gs4 b4 t4 rows (junk ++ [dnG gl])) ?_ rfl)
    · refine ev_eB (c1 := cRw gs4 b4 t4 rows (junk ++ [dnG gl])) (xs := [.lst ((isort leG gl).map getD2)]) (ev_aCons (xs := []) (c1 := cRw gs4 b4 t4 rows (junk ++ [dnG gl])) ?_ rfl) rfl
      refine ev_eB (c1 := cRw gs4 b4 t4 rows (junk ++ [dnG gl])) (xs := [.lst (gl.map getD2)]) (ev_aCons (xs := []) (c1 := cRw gs4 b4 t4 rows (junk ++ [dnG gl])) ?_ rfl) (sortG_okg gl)
      exact ev_eB (c1 := cRw gs4 b4 t4 rows (junk ++ [dnG gl])) (xs := [.loc (3 + junk.length)]) rfl (listN_g cRw_at)
    · refine ev_eB (c1 := cRw gs4 b4 t4 rows (junk ++ [dnG gl])) (xs := [.lst ((sortT ss).map D.str)]) (ev_aCons (xs := []) (c1 := cRw gs4 b4 t4 rows (junk ++ [dnG gl])) ?_ rfl) rfl
      exact ev_eB (c1 := cRw gs4 b4 t4 rows (junk ++ [dnG gl])) (xs := [.lst (ss.map D.str)]) (ev_aCons (xs := []) (c1 := cRw gs4 b4 t4 rows (junk ++ [dnG gl])) lc rfl) (sortS_ok (by omega))
  have ap := ev_append2 (fo := eVar 2) (env := ev2) (cs := cRw gs3 b3 t3 rows (junk ++ [dnG gl])) (n := 2) (ds := rows.map rowD) (ds' := rows.map rowD) rfl rfl tp rfl (by rw [List.length_map]; omega)
  refine ⟨gs4, b4, t4, ⟨k, isort leG gl, sortT ss⟩, gl, some (.loc (3 + junk.length)), e61, e71, e81, some (.lst (ss.map D.str)), hg4, ⟨?_, ?_, ?_⟩, ?_⟩
  · have := (isortG_perm gl).length_eq
    simp only [List.length_nil] at hl2
    show (isort leG gl).length ≤ 10
    omega
  · have := (sortT_perm ss).length_eq
    show (sortT ss).length ≤ 10
    omega
  · intro g h
    exact ok2 g ((isortG_perm gl).mem_iff.mp h)
  · refine ev_sSeq s1 (ev_sSeq s2 (ev_sSeq (ev_sAsg e3 rfl) ?_))
    have := ev_sExpr ap
    refine this.trans ?_
    show SOut.nx ⟨_, dx gs4 b4 t4 ++ (.lst (rows.map rowD ++ [rowD ⟨k, isort leG gl, sortT ss⟩]) :: (junk ++ [dnG gl]))⟩ = _
    rw [show rows.map rowD ++ [rowD ⟨k, isort leG gl, sortT ss⟩] = (rows ++ [Rw.mk k (isort leG gl) (sortT ss)]).map rowD by rw [List.map_append]; rfl]
theorem rows_turns {many : Nat} {cl : List Str} {e9 e10 : Option D} (hc : cl ≠ []) (hc3 : cl.length ≤ 3) : ∀ (k s : Nat) {gs : List Int} {b t : Int} {rows : List Rw} {junk : List Cell} {e4 e5 e6 e7 e8 e11 : Option D}, gs.length ≤ 63 → rows.length + k ≤ 1000 → FlatC junk → RowsOk 0 rows →
    ∃ (gs' : List Int) (b' t' : Int) (rows' : List Rw) (junk' : List Cell) (e4' e5' e6' e7' e8' e11' : Option D), gs'.length ≤ 63 ∧ rows'.length = rows.length + k ∧ RowsOk 0 rows' ∧ forL (gNm 4) b_turn keepAll (upD s k) ⟨eRw many cl e4 e5 e6 e7 e8 e9 e10 e11, cRw gs b t rows junk⟩ = .nx ⟨eRw many cl e4' e5' e6' e7' e8' e9 e10 e11', cRw gs' b' t' rows' junk'⟩
  | 0, s, gs, b, t, rows, junk, e4, e5, e6, e7, e8, e11, hg, hz, hf, ok => ⟨gs, b, t, rows, junk, e4, e5, e6, e7, e8, e11, hg, rfl, ok, ev_forNil rfl⟩
  | k + 1, s, gs, b, t, rows, junk, e4, e5, e6, e7, e8, e11, hg, hz, hf, ok => by
    obtain ⟨gs1, b1, t1, r, gl, e51, e61, e71, e81, e111, hg1, ok1, h1⟩ := turn_read (many := many) (e4 := some (nI s)) (e5 := e5) (e6 := e6) (e7 := e7) (e8 := e8) (e9 := e9) (e10 := e10) (e11 := e11) (b := b) (t := t) (rows := rows) hg hc hc3 hf (by omega)
    obtain ⟨gs2, b2, t2, rows2, junk2, e42, e52, e62, e72, e82, e112, hg2, hl2, ok2, h2⟩ := rows_turns (many := many) (e9 := e9) (e10 := e10) hc hc3 k (s + 1) (b := b1) (t := t1) (rows := rows ++ [r]) (junk := junk ++ [dnG gl]) (e4 := some (nI s)) (e5 := e51) (e6 := e61) (e7 := e71) (e8 := e81) (e11 := e111) hg1 (by simp; omega) (hf.snoc fun _ => flat_dnG) (ok.snoc (by rw [Nat.zero_add]; exact ok1))
    refine ⟨gs2, b2, t2, rows2, junk2, e42, e52, e62, e72, e82, e112, hg2, by rw [hl2, List.length_append]; simp; omega, ok2, ?_⟩
    exact ev_forNx (st1 := ⟨eRw many cl (some (nI s)) e5 e6 e7 e8 e9 e10 e11, cRw gs b t rows junk⟩) rfl rfl h1 h2
theorem cl_cut {v : Nat} (hv : v < 2) : ∃ cl : List Str, cl ≠ [] ∧ cl.length ≤ 3 ∧ VL.cutD [D.str "a", D.str "b", D.str "m"] none (some (2 + ((v : Nat) : Int))) = cl.map D.str := by
  rcases v with _ | _ | v
  · exact ⟨["a", "b"], by simp, by simp, rfl⟩
  · exact ⟨["a", "b", "m"], by simp, by simp, rfl⟩
  · omega
/-- the rows that the law draws -/
theorem rows_ok {gs : List Int} {b t : Int} {n : Nat} (hg : gs.length ≤ 63) (hn : n ≤ 40) : ∃ (rows : List Rw) (gs' : List Int) (b' t' : Int), rows.length = n ∧ RowsOk 0 rows ∧ gs'.length ≤ 63 ∧ rowsF [.loc 0, nI n] (dx gs b t) = .ok (.lst (rows.map rowD)) (dx gs' b' t') := by
  obtain ⟨v, gs1, b1, t1, hv, hg1, e1⟩ := draw_ev (gs := gs) (b := b) (t := t) 2 (rest := [.lst []]) hg (by decide) (by decide)
  obtain ⟨cl, hc, hc3, ecl⟩ := cl_cut hv
  obtain ⟨gs2, b2, t2, rows, junk, f4, f5, f6, f7, f8, f11, hg2, hl2, ok2, h2⟩ := rows_turns (many := n) (cl := cl) (e9 := none) (e10 := none) hc hc3 n 0 (gs := gs1) (b := b1) (t := t1) (rows := []) (junk := []) (e4 := none) (e5 := none) (e6 := none) (e7 := none) (e8 := none) (e11 := none) hg1 (by simp; omega) (fun _ => rfl) True.intro
  refine ⟨rows, gs2, b2, t2, by simpa using hl2, ok2, hg2, ?_⟩
  have s1 : sPar [2, 3] (aCons (eLoc aNil) (aCons (eSl false (eLst (aCons (eC (.str "a")) (aCons (eC (.str "b")) (aCons (eC (.str "m")) aNil)))) oNone (oSome (eOp gAdd (eC (.int 2)) (eCall 2 drawF (aCons (eVar 0) (aCons (eC (.int 2)) aNil)))))) aNil)) ⟨[some (.loc 0), some (nI n), none, none, none, none, none, none, none, none, none, none], dx gs b t⟩ = .nx ⟨eRw n cl none none none none none none none none, cRw gs1 b1 t1 [] []⟩ := by
    refine ev_sPar (xs := [.loc 2, .lst (cl.map D.str)]) (c1 := cRw gs1 b1 t1 [] []) (ev_aCons (x := .loc 2) (c1 := dx gs b t ++ [.lst []]) rfl (ev_aCons (xs := []) (x := .lst (cl.map D.str)) (c1 := cRw gs1 b1 t1 [] []) ?_ rfl)) rfl
    refine ev_eSl (x := .lst [.str "a", .str "b", .str "m"]) (c1 := dx gs b t ++ [.lst []]) (lo := none) (c2 := dx gs b t ++ [.lst []]) (hi := some (2 + ((v : Nat) : Int))) (c3 := cRw gs1 b1 t1 [] []) rfl rfl ?_ ?_
    · refine ev_oSome (d := .int (2 + ((v : Nat) : Int))) (c1 := cRw gs1 b1 t1 [] []) (ev_eOp (x := .int 2) (c1 := dx gs b t ++ [.lst []]) (y := .int (v : Nat)) (c2 := cRw gs1 b1 t1 [] []) rfl (ev_eCall (c1 := dx gs b t ++ [.lst []]) (xs := [.loc 0, .int (2 : Nat)]) rfl e1) rfl) rfl
    · rw [← ecl]
      rfl
  have run : runF 12 b_rows [.loc 0, nI n] (dx gs b t) = .ok (.loc 2) (cRw gs2 b2 t2 rows junk) := by
    refine ev_runRt (n := 12) (sf := b_rows) (ds := [.loc 0, nI n]) (cs := dx gs b t) (d := .loc 2) (env := [some (.loc 0), some (nI n), none, none, none, none, none, none, none, none, none, none]) (st1 := ⟨eRw n cl f4 f5 f6 f7 f8 none none f11, cRw gs2 b2 t2 rows junk⟩) rfl ?_
    refine ev_sSeq s1 (ev_sSeq (ev_sFor (w := (upD 0 n, keepAll)) (c1 := cRw gs1 b1 t1 [] []) (iR1_of rfl (by omega)) h2) (ev_sRet rfl))
  refine trimF_of (fn := runF 12 b_rows) (cs := dx gs b t) (d := .loc 2) (cs' := cRw gs2 b2 t2 rows junk) (d' := .lst (rows.map rowD)) run (low_dx _ _ _) ?_
  show (if belows 2 (rows.map rowD) then some (D.lst (rows.map rowD)) else none) = _
  rw [belows_rows]
  rfl
end K21
namespace K21
open PySem L2 PyProof.Rows VL
open PySem.W
theorem okApp {x y : Str} (hx : PyData.strOk x = true) (hy : PyData.strOk y = true) : PyData.strOk (x ++ y) = true := by
  unfold PyData.strOk at *
  show (x.cps ++ y.cps).all (· < 0x110000) = true
  rw [Array.all_append, hx, hy]
  rfl
theorem okComma : PyData.strOk ", " = true := by decide +kernel
theorem okOpen : PyData.strOk "(" = true := by decide +kernel
theorem okShut : PyData.strOk ")" = true := by decide +kernel
theorem okShut1 : PyData.strOk ",)" = true := by decide +kernel
theorem okJoin : ∀ {ts : List Str}, (∀ t ∈ ts, PyData.strOk t = true) → PyData.strOk (Str.join ", " ts) = true
  | [], _ => by
    show PyData.strOk Str.empty = true
    decide +kernel
  | [x], h => h x List.mem_cons_self
  | x :: y :: r, h => okApp (okApp (h x List.mem_cons_self) okComma) (okJoin (ts := y :: r) fun t ht => h t (List.mem_cons_of_mem _ ht))
theorem okTup {ts : List Str} (h : ∀ t ∈ ts, PyData.strOk t = true) : PyData.strOk (tupleText ts) = true := by
  unfold tupleText
  refine okApp (okApp okOpen (okJoin h)) ?_
  split
  · exact okShut1
  · exact okShut
theorem piledLe {m : Nat} : ∀ {ts : List Str}, (∀ t ∈ ts, t.length ≤ m) → piled ts ≤ (m + 2) * ts.length
  | [], _ => by simp [piled]
  | x :: r, h => by
    have ih := piledLe (ts := r) fun t ht => h t (List.mem_cons_of_mem _ ht)
    have h1 := h x List.mem_cons_self
    have e : (m + 2) * (x :: r).length = (m + 2) * r.length + (m + 2) := by rw [List.length_cons, Nat.mul_add, Nat.mul_one]
    rw [e]
    simp [piled] at ih ⊢
    omega
theorem tupLen {m : Nat} {ts : List Str} (h : ∀ t ∈ ts, t.length ≤ m) : (tupleText ts).length ≤ (m + 2) * ts.length + 10 := by
  have hj : (Str.join ", " ts).length ≤ (m + 2) * ts.length := by
    cases ts with
    | nil => exact Nat.zero_le _
    | cons x r =>
      have e := join_length_add (x :: r) (by simp)
      have p := piledLe h
      omega
  unfold tupleText
  rw [strLen_append, strLen_append]
  have e1 : ((("(" : String) : Str)).length = 1 := rfl
  have e2 : ((if ts.length == 1 then ",)" else ")" : String) : Str).length ≤ 2 := by
    split
    · exact Nat.le_refl _
    · exact Nat.le_succ _
  rw [e1]
  omega
def numT (n : Nat) : Str := (PyData.int ((n : Nat) : Int)).shown
theorem nums_ok : ∀ n < 20, (PyData.strOk (numT n) && (decide ((numT n).length ≤ 4) && decide ((((n : Nat) : Int)).natAbs.log2 < 1920))) = true := by decide +kernel
def prT (p : Pr) : Str := tupleText [numT p.1, numT p.2]
theorem prT_ok {p : Pr} (h : p.1 < 20 ∧ p.2 < 20) : PyData.strOk (prT p) = true ∧ (prT p).length ≤ 22 := by
  have h1 := nums_ok p.1 h.1
  have h2 := nums_ok p.2 h.2
  simp only [Bool.and_eq_true, decide_eq_true_eq] at h1 h2
  refine ⟨okTup fun t ht => ?_, ?_⟩
  · rcases List.mem_cons.mp ht with z | z
    · rw [z]; exact h1.1
    · rw [List.mem_singleton.mp z]; exact h2.1
  · have := tupLen (m := 4) (ts := [numT p.1, numT p.2]) fun t ht => by
      rcases List.mem_cons.mp ht with z | z
      · rw [z]; exact h1.2.1
      · rw [List.mem_singleton.mp z]; exact h2.2.1
    exact this
theorem shownAll_prs : ∀ (T : List Pr), PyData.shownAll (pys (T.map prD)) = T.map prT
  | [] => by simp [pys, PyData.shownAll]
  | p :: T => by
    have ih := shownAll_prs T
    rw [pys_map] at ih ⊢
    rw [List.map_cons, List.map_cons, List.map_cons]
    show PyData.shown (py (prD p)) :: PyData.shownAll ((T.map prD).map py) = _
    rw [ih, py_pr]
    rfl
theorem lay_prs : ∀ {T : List Pr}, (∀ p ∈ T, p.1 < 20 ∧ p.2 < 20) → PyData.canLayAll0 (pys (T.map prD)) = true ∧ PyData.depthAll (pys (T.map prD)) ≤ 2 ∧ PyData.showableAll (pys (T.map prD)) = true
  | [], _ => by simp [pys, PyData.canLayAll0, PyData.depthAll, PyData.showableAll]
  | p :: T, h => by
    obtain ⟨i1, i2, i3⟩ := lay_prs (T := T) fun y hy => h y (List.mem_cons_of_mem _ hy)
    rw [pys_map] at i1 i2 i3 ⊢
    obtain ⟨g1, g2⟩ := h p List.mem_cons_self
    have h1 := nums_ok p.1 g1
    have h2 := nums_ok p.2 g2
    simp only [Bool.and_eq_true, decide_eq_true_eq] at h1 h2
    rw [List.map_cons, List.map_cons, py_pr]
    refine ⟨?_, ?_, ?_⟩
    · simp [-List.map_map, PyData.canLayAll0, PyData.canLay0, i1]
    · simp only [PyData.depthAll, PyData.depth]
      simp [-List.map_map]
      omega
    · have a1 : (PyData.int ((p.1 : Nat) : Int)).showable = true := decide_eq_true h1.2.2
      have a2 : (PyData.int ((p.2 : Nat) : Int)).showable = true := decide_eq_true h2.2.2
      simp only [PyData.showableAll, i3, PyData.showable] at a1 a2 ⊢
      rw [a1, a2]
      rfl
theorem show_prs {T : List Pr} (h : ∀ p ∈ T, p.1 < 20 ∧ p.2 < 20) (hl : T.length ≤ 400) : showOk (.tup (T.map prD)) = true ∧ PyData.strOk (py (.tup (T.map prD))).shown = true := by
  obtain ⟨i1, i2, i3⟩ := lay_prs h
  have hs : (py (.tup (T.map prD))).shown = tupleText (T.map prT) := by
    show tupleText (PyData.shownAll (pys (T.map prD))) = _
    rw [shownAll_prs]
  have tl := tupLen (m := 22) (ts := T.map prT) fun t ht => by
    obtain ⟨x, hx, rfl⟩ := List.mem_map.mp ht
    exact (prT_ok (h x hx)).2
  rw [List.length_map] at tl
  constructor
  · unfold showOk
    have e1 : VL.plain (.tup (T.map prD)) = true := by simp [VL.plain, plains_pr]
    have e2 : SeqAt.shaped (py (.tup (T.map prD))) = true := by
      simp only [SeqAt.shaped, py, PyData.canLay0, PyData.depth, i1, Bool.true_and, decide_eq_true_eq]
      omega
    have e3 : (py (.tup (T.map prD))).showable = true := by simp [py, PyData.showable, i3]
    have e4 : (py (.tup (T.map prD))).shown.length ≤ 16777216 := by rw [hs]; omega
    rw [e1, e2, e3, decide_eq_true e4]
    rfl
  · rw [hs]
    exact okTup fun t ht => by
      obtain ⟨x, hx, rfl⟩ := List.mem_map.mp ht
      exact (prT_ok (h x hx)).1
theorem repr_prs {T : List Pr} (h : ∀ p ∈ T, p.1 < 20 ∧ p.2 < 20) (hl : T.length ≤ 400) (cs : List Cell) : hRepr cs [.tup (T.map prD)] = .ok (.str (py (.tup (T.map prD))).shown) cs := by
  show (if showOk (.tup (T.map prD)) then Out.ok (D.str (py (.tup (T.map prD))).shown) cs else .no) = _
  rw [(show_prs h hl).1]
  rfl
theorem eqB_same {neg : Bool} {cs : List Cell} {x : D} (h0 : norm cs x = x) (h1 : VL.plain x = true) (h2 : SeqAt.shaped (py x) = true) : gEqB neg cs x x = .ok (.bl (!neg)) cs := by
  have e : PyData.eqv (py x) (py x) = true := PySem.SeqAt.eqv_refl _ (by
    unfold SeqAt.shaped at h2
    rw [Bool.and_eq_true] at h2
    exact h2.1)
  show (if VL.plain (norm cs x) && VL.plain (norm cs x) && SeqAt.shaped (py (norm cs x)) && SeqAt.shaped (py (norm cs x)) then Out.ok (D.bl (if neg then !PyData.eqv (py (norm cs x)) (py (norm cs x)) else PyData.eqv (py (norm cs x)) (py (norm cs x)))) cs else .no) = _
  rw [h0, h1, h2, e]
  cases neg <;> rfl
theorem eqB_str {neg : Bool} {cs : List Cell} {x : Str} (h : PyData.strOk x = true) : gEqB neg cs (.str x) (.str x) = .ok (.bl (!neg)) cs :=
  eqB_same rfl (by simp [VL.plain]) (by simp [SeqAt.shaped, py, PyData.canLay0, PyData.depth, h])
theorem shaped_prs {T : List Pr} (h : ∀ p ∈ T, p.1 < 20 ∧ p.2 < 20) : SeqAt.shaped (py (.tup (T.map prD))) = true := by
  obtain ⟨i1, i2, i3⟩ := lay_prs h
  simp only [SeqAt.shaped, py, PyData.canLay0, PyData.depth, i1, Bool.true_and, decide_eq_true_eq]
  omega
theorem eqB_prs {neg : Bool} {cs : List Cell} {T : List Pr} (h : ∀ p ∈ T, p.1 < 20 ∧ p.2 < 20) : gEqB neg cs (.tup (T.map prD)) (.tup (T.map prD)) = .ok (.bl (!neg)) cs :=
  eqB_same rfl (by simp [VL.plain, plains_pr]) (shaped_prs h)
theorem plains_nI : ∀ (L : List Nat), plains (L.map nI) = true
  | [] => by simp [plains]
  | x :: L => by
    rw [List.map_cons]
    simp [plains, VL.plain, nI, plains_nI L]
theorem lay_nI : ∀ (L : List Nat), PyData.canLayAll0 (pys (L.map nI)) = true ∧ PyData.depthAll (pys (L.map nI)) = 0
  | [] => by simp [pys, PyData.canLayAll0, PyData.depthAll]
  | x :: L => by
    obtain ⟨i1, i2⟩ := lay_nI L
    rw [pys_map] at i1 i2 ⊢
    rw [List.map_cons, List.map_cons, show py (nI x) = .int ((x : Nat) : Int) from rfl]
    simp [-List.map_map, PyData.canLayAll0, PyData.canLay0, PyData.depthAll, PyData.depth, i1, i2]
theorem eqB_lstN {neg : Bool} {cs : List Cell} {L : List Nat} : gEqB neg cs (.lst (L.map nI)) (.lst (L.map nI)) = .ok (.bl (!neg)) cs :=
  eqB_same rfl (by simp [VL.plain, plains_nI]) (by
    obtain ⟨i1, i2⟩ := lay_nI L
    simp only [SeqAt.shaped, py, PyData.canLay0, PyData.depth, i1, i2, Bool.true_and, decide_eq_true_eq]
    omega)
/-- a pair among the pairs -/
theorem inL_prs {cs : List Cell} {T : List Pr} {p : Pr} (h : ∀ p ∈ T, p.1 < 20 ∧ p.2 < 20) (hp : p ∈ T) : gInL true cs (prD p) (.lst (T.map prD)) = .ok (.bl false) cs := by
  obtain ⟨i1, i2, i3⟩ := lay_prs h
  have s1 : SeqAt.shaped (py (prD p)) = true := by
    rw [py_pr]
    simp [SeqAt.shaped, PyData.canLay0, PyData.canLayAll0, PyData.depth, PyData.depthAll]
  have s2 : SeqAt.shaped (.list (pys (T.map prD))) = true := by
    unfold SeqAt.shaped
    rw [Bool.and_eq_true, decide_eq_true_eq]
    refine ⟨by simpa only [PyData.canLay0] using i1, ?_⟩
    simp only [PyData.depth]
    omega
  have a : ((pys (T.map prD)).any fun z => PyData.eqv z (py (prD p))) = true := by
    rw [List.any_eq_true]
    refine ⟨py (prD p), ?_, PySem.SeqAt.eqv_refl _ (by
      unfold SeqAt.shaped at s1
      rw [Bool.and_eq_true] at s1
      exact s1.1)⟩
    rw [pys_map]
    exact List.mem_map_of_mem (List.mem_map_of_mem hp)
  show (if VL.plain (prD p) && SeqAt.shaped (py (prD p)) && plains (T.map prD) && SeqAt.shaped (.list (pys (T.map prD))) then Out.ok (D.bl (if true then !((pys (T.map prD)).any fun z => PyData.eqv z (py (prD p))) else (pys (T.map prD)).any fun z => PyData.eqv z (py (prD p)))) cs else .no) = _
  rw [s1, s2, plains_pr, a, show VL.plain (prD p) = true by simp [VL.plain, plains, prD, nI]]
  rfl
end K21
namespace K21
open PySem L2 PyProof.Rows VL
open PySem.W
def leN (a b : Nat) : Bool := leD (nI a) (nI b)
theorem leN_le : ∀ a < 20, ∀ b < 20, leN a b = decide (a ≤ b) := by decide +kernel
theorem insO_n {p : Nat} : ∀ (ps : List Nat), insO leD (nI p) (ps.map nI) = (insO leN p ps).map nI
  | [] => rfl
  | q :: ps => by
    rw [List.map_cons]
    unfold insO
    by_cases c : leN p q = true
    · rw [if_pos c, if_pos (show leD (nI p) (nI q) = true from c)]
      rfl
    · rw [if_neg c, if_neg (show ¬ leD (nI p) (nI q) = true from c), insO_n ps]
      rfl
theorem sortG_n : ∀ (ps : List Nat), sortG (ps.map nI) = (isort leN ps).map nI
  | [] => rfl
  | p :: ps => by
    show insO leD (nI p) (sortG (ps.map nI)) = _
    rw [sortG_n ps, insO_n]
    rfl
theorem insO_permN {p : Nat} : ∀ (ps : List Nat), (insO leN p ps).Perm (p :: ps)
  | [] => List.Perm.refl _
  | q :: ps => by
    unfold insO
    by_cases c : leN p q = true
    · rw [if_pos c]
    · rw [if_neg c]
      exact (List.Perm.cons q (insO_permN ps)).trans (List.Perm.swap p q ps)
theorem isortN_perm : ∀ (ps : List Nat), (isort leN ps).Perm ps
  | [] => List.Perm.refl _
  | p :: ps => (insO_permN (isort leN ps)).trans (List.Perm.cons p (isortN_perm ps))
theorem cond_n (ps : List Nat) : (plains (ps.map nI) && alikeRow (pys (ps.map nI)) && sortableB (pys (ps.map nI)) && (pys (ps.map nI)).all (fun p => decide (p.depth ≤ 60))) = true := by
  have h : ∀ d ∈ pys (ps.map nI), ∃ p : Nat, d = .int ((p : Nat) : Int) := by
    intro d hd
    rw [pys_map, List.map_map] at hd
    obtain ⟨p, _, rfl⟩ := List.mem_map.mp hd
    exact ⟨p, rfl⟩
  rw [plains_nI]
  have h2 : alikeRow (pys (ps.map nI)) = true := by
    unfold alikeRow
    rw [List.all_eq_true]
    intro a ha
    rw [List.all_eq_true]
    intro b hb
    obtain ⟨p, rfl⟩ := h a ha
    obtain ⟨q, rfl⟩ := h b hb
    simp [alike]
  have h3 : sortableB (pys (ps.map nI)) = true := by
    unfold sortableB
    rw [Bool.or_eq_true]
    refine .inr ?_
    rw [List.all_eq_true]
    intro a ha
    obtain ⟨p, rfl⟩ := h a ha
    rfl
  have h4 : ((pys (ps.map nI)).all fun p => decide (p.depth ≤ 60)) = true := by
    rw [List.all_eq_true]
    intro a ha
    obtain ⟨p, rfl⟩ := h a ha
    refine decide_eq_true ?_
    simp [PyData.depth]
  rw [h2, h3, h4]
  rfl
theorem sortGT_n {cs : List Cell} (ps : List Nat) : hSortGT cs [.btp (ps.map nI)] = .ok (.lst ((isort leN ps).map nI)) cs := by
  show (if plains (ps.map nI) && alikeRow (pys (ps.map nI)) && sortableB (pys (ps.map nI)) && (pys (ps.map nI)).all (fun p => decide (p.depth ≤ 60)) then Out.ok (D.lst (sortG (ps.map nI))) cs else .no) = _
  rw [cond_n, sortG_n]
  rfl
theorem sort_range {o : List Nat} {n : Nat} (hn : n ≤ 20) (nd : o.Nodup) (hm : ∀ x, x ∈ o ↔ x < n) : isort leN o = List.range n := by
  have T : TotalLe leN := ⟨fun a b c => leD_total.trans (nI a) (nI b) (nI c), fun a b => leD_total.total (nI a) (nI b)⟩
  have pr : (List.range n).Pairwise fun a b => leN a b = true := by
    refine List.Pairwise.imp_of_mem (fun {a b} ha hb h => ?_) List.pairwise_lt_range
    have ha := List.mem_range.mp ha
    have hb := List.mem_range.mp hb
    rw [leN_le a (by omega) b (by omega)]
    exact decide_eq_true (by omega)
  have pm : (isort leN o).Perm (List.range n) := (isortN_perm o).trans (perm_of nd List.nodup_range fun x => (hm x).trans List.mem_range.symm)
  refine List.Perm.eq_of_pairwise (le := fun a b => leN a b = true) (fun a b ha hb h1 h2 => ?_) (isort_pw T o) pr pm
  have hb := List.mem_range.mp hb
  have ha := List.mem_range.mp (pm.mem_iff.mp ha)
  rw [leN_le a (by omega) b (by omega)] at h1
  rw [leN_le b (by omega) a (by omega)] at h2
  have := of_decide_eq_true h1
  have := of_decide_eq_true h2
  omega
theorem firstI_of {i : Nat} : ∀ {o : List Nat} {k : Nat}, o.Nodup → o[k]? = some i → firstI ((i : Nat) : Int) (o.map fun k => ((k : Nat) : Int)) = some k
  | [], k, _, h => by simp at h
  | x :: o, k, nd, h => by
    rw [List.map_cons]
    unfold firstI
    obtain ⟨n1, n2⟩ := List.nodup_cons.mp nd
    cases k with
    | zero =>
      cases (show some x = some i from h)
      rw [if_pos rfl]
    | succ k =>
      have h : o[k]? = some i := h
      have ne : ¬ (((x : Nat) : Int) = ((i : Nat) : Int)) := fun e => by
        have e : x = i := by omega
        subst e
        exact n1 (List.mem_of_getElem? h)
      rw [if_neg ne, firstI_of n2 h]
      rfl
theorem ev_eIdxI {fo f : Ex} {st : S} {c1 c2 : List Cell} {o : List Nat} {i k : Nat} (h1 : fo st = .ok (.btp (o.map nI)) c1) (h2 : f ⟨st.env, c1⟩ = .ok (nI i) c2) (nd : o.Nodup) (hk : o[k]? = some i) : eIdxI fo f st = .ok (nI k) c2 := by
  unfold eIdxI
  rw [h1]
  simp only [Out.bind, h2]
  show (match intsOf (o.map nI) with
    | some ns => (match firstI ((i : Nat) : Int) ns with
      | some j => Out.ok (D.int (j : Nat)) c2
      | none => .no)
    | none => .no) = _
  rw [intsOf_nI]
  dsimp only
  rw [firstI_of nd hk]
  rfl
abbrev eL15 (d0 tw : Option D) (rows : List Rw) (T : List Pr) (n : Nat) (best : Option Nat) (ring order : Option (List Nat)) (e9 e10 e11 e12 e13 e14 : Option D) : List (Option D) := [d0, some (.loc 0), tw, some (.lst (rows.map rowD)), some (.lst (T.map prD)), some (nI n), some (optN best), some (optT ring), some (optO order), e9, e10, e11, e12, e13, e14]
theorem p6_ok {d0 tw : Option D} {rows : List Rw} {T : List Pr} {n : Nat} {best : Option Nat} {ring order : Option (List Nat)} {e9 e10 e11 e12 e13 e14 : Option D} {C : List Cell} (hC : C.all (belowC C.length) = true) (hT : T.length ≤ 400) (hn : n ≤ 20)
    (al : ∀ o, order = some o → o.Nodup ∧ (∀ x, x ∈ o ↔ x < n) ∧ ∀ i j, (i, j) ∈ T → ∃ k l : Nat, o[k]? = some i ∧ o[l]? = some j ∧ k < l) :
    p_law_0_6 ⟨eL15 d0 tw rows T n best ring order e9 e10 e11 e12 e13 e14, C⟩ = .nx ⟨eL15 d0 tw rows T n best ring order e9 e10 e11 e12 e13 e14, C⟩ := by
  cases order with
  | none => exact ev_sIfF (c1 := C) rfl rfl
  | some o =>
    obtain ⟨nd, hm, ha⟩ := al o rfl
    have s1 : tCmp' (gEqB true) (eB hSortGT (aCons (eVar 8) aNil)) (eListR false (eVar 5)) ⟨eL15 d0 tw rows T n best ring (some o) e9 e10 e11 e12 e13 e14, C⟩ = .ok false C := by
      refine ev_tCmp (ev_eOp (x := .lst ((List.range n).map nI)) (y := .lst ((List.range n).map nI)) (c1 := C) (c2 := C) ?_ ?_ eqB_lstN)
      · refine ev_eB (c1 := C) (xs := [.btp (o.map nI)]) rfl ?_
        rw [sortGT_n, sort_range hn nd hm]
      · have e : (decide ((0 : Int) ≤ ((n : Nat) : Int)) && decide (((n : Nat) : Int) ≤ 16777216)) = true := by
          rw [Bool.and_eq_true, decide_eq_true_eq, decide_eq_true_eq]
          omega
        show (if decide ((0 : Int) ≤ ((n : Nat) : Int)) && decide (((n : Nat) : Int) ≤ 16777216) then (if false then newCell (rangeD 0 (((n : Nat) : Int)).toNat) C else Out.ok (.lst (rangeD 0 (((n : Nat) : Int)).toNat)) C) else .no) = _
        rw [e, Int.toNat_natCast]
        show Out.ok (D.lst (rangeD ((0 : Nat) : Int) n)) C = _
        rw [upD_range n 0, upD_nI]
    have s2 : eLc (iL (eVar 4)) (gTp 2 (gsCons (gNm 13) (gsCons (gNm 14) gsNil))) (tCmp' gGt (eIdxI (eVar 8) (eVar 13)) (eIdxI (eVar 8) (eVar 14))) (eC (.int 1)) [13, 14] ⟨eL15 d0 tw rows T n best ring (some o) e9 e10 e11 e12 e13 e14, C⟩ = .ok (.lst []) C := by
      have := ev_eLc (xs := T) (fD := prD) (kp := keepAll) (c1 := C) (src := iL (eVar 4)) (g := gTp 2 (gsCons (gNm 13) (gsCons (gNm 14) gsNil))) (t := tCmp' gGt (eIdxI (eVar 8) (eVar 13)) (eIdxI (eVar 8) (eVar 14))) (f := eC (.int 1)) (vs := [13, 14]) (st := ⟨eL15 d0 tw rows T n best ring (some o) e9 e10 e11 e12 e13 e14, C⟩)
        (fun _ => false) (fun _ => D.int 1) rfl (fun _ => rfl) (by omega) hC (fun _ _ h => nomatch h) (fun p hp acc _ => by
          obtain ⟨k, l, h1, h2, h3⟩ := ha p.1 p.2 hp
          refine ⟨eL15 d0 tw rows T n best ring (some o) e9 e10 e11 e12 (some (nI p.1)) (some (nI p.2)), rfl, ?_, fun h => nomatch h⟩
          refine ev_tCmp (ev_eOp (x := nI k) (y := nI l) (ev_eIdxI (c1 := C ++ [.lst acc]) (c2 := C ++ [.lst acc]) rfl rfl nd h1) (ev_eIdxI (c1 := C ++ [.lst acc]) (c2 := C ++ [.lst acc]) rfl rfl nd h2) ?_)
          show Out.ok (D.bl (decide (((k : Nat) : Int) > ((l : Nat) : Int)))) (C ++ [.lst acc]) = _
          rw [decide_eq_false (by omega)])
      rw [this]
      have e : T.filter (fun _ => false) = [] := List.filter_eq_nil_iff.mpr fun _ _ h => nomatch h
      rw [e]
      rfl
    have s3 : tCmp' (gEqB true) (eLc (iL (eVar 4)) (gTp 2 (gsCons (gNm 13) (gsCons (gNm 14) gsNil))) (tCmp' gGt (eIdxI (eVar 8) (eVar 13)) (eIdxI (eVar 8) (eVar 14))) (eC (.int 1)) [13, 14]) (eLst aNil) ⟨eL15 d0 tw rows T n best ring (some o) e9 e10 e11 e12 e13 e14, C⟩ = .ok false C :=
      ev_tCmp (ev_eOp (x := .lst []) (y := .lst []) (c1 := C) (c2 := C) s2 rfl (eqB_lstN (L := [])))
    exact ev_sIfT (c1 := C) rfl (ev_sSeq (ev_sIfF s1 rfl) (ev_sIfF s3 rfl))
end K21
namespace K21
open PySem L2 PyProof.Rows VL
open PySem.W
def wAt (w : List Nat) (k : Nat) : Nat := w.getD k 0
theorem wAt_of {w : List Nat} {k x : Nat} (h : w[k]? = some x) : wAt w k = x := by
  unfold wAt
  rw [List.getD_eq_getElem?_getD, h]
  rfl
theorem enumD_n (w : List Nat) : enumD (w.map nI) = (List.range w.length).map fun k => D.tup [nI k, nI (wAt w k)] := by
  unfold enumD
  refine List.ext_getElem? fun i => ?_
  rw [List.getElem?_mapIdx, List.getElem?_map, List.getElem?_map]
  by_cases h : i < w.length
  · have e : w[i]? = some w[i] := List.getElem?_eq_getElem h
    rw [List.getElem?_range h, e]
    show some (D.tup [.int (i : Nat), nI w[i]]) = some (D.tup [nI i, nI (wAt w i)])
    rw [wAt_of e]
    rfl
  · rw [List.getElem?_eq_none (by omega), List.getElem?_eq_none (by rw [List.length_range]; omega)]
    rfl
def stepL (w : List Nat) : List Pr := (List.range w.length).map fun k => (wAt w k, wAt w ((k + 1) % w.length))
theorem distinct_len {w : List Nat} (nd : w.Nodup) : (distinct (w.map fun k => ((k : Nat) : Int))).length = w.length := by
  obtain ⟨h1, h2⟩ := distinct_nd (w.map fun k => ((k : Nat) : Int))
  have nd2 : (w.map fun k => ((k : Nat) : Int)).Nodup := by
    refine List.nodup_iff_pairwise_ne.mpr ?_
    rw [List.pairwise_map]
    refine (List.nodup_iff_pairwise_ne.mp nd).imp fun h e => h (by omega)
  have := (perm_of h1 nd2 h2).length_eq
  rw [this, List.length_map]
theorem p5_ok {d0 tw : Option D} {rows : List Rw} {T : List Pr} {n : Nat} {best : Option Nat} {ring order : Option (List Nat)} {e9 e10 e11 e12 e13 e14 : Option D} {C : List Cell} (hC : C.all (belowC C.length) = true) (hT : ∀ p ∈ T, p.1 < 20 ∧ p.2 < 20) (hn : n ≤ 20)
    (sm : ∀ w, ring = some w → some w.length = best ∧ w.Nodup ∧ (∀ x ∈ w, x < n) ∧ ∀ k, k < w.length → ∃ x y, w[k]? = some x ∧ w[(k + 1) % w.length]? = some y ∧ (x, y) ∈ T) :
    ∃ e9', p_law_0_5 ⟨eL15 d0 tw rows T n best ring order e9 e10 e11 e12 e13 e14, C⟩ = .nx ⟨eL15 d0 tw rows T n best ring order e9' e10 e11 e12 e13 e14, C⟩ := by
  cases ring with
  | none => exact ⟨e9, ev_sIfF (c1 := C) rfl rfl⟩
  | some w =>
    obtain ⟨hb, nd, hlt, hs⟩ := sm w rfl
    subst hb
    have wl : w.length ≤ 20 := Nat.le_trans (nodup_le nd hlt) hn
    have s1 : eLc (iEnT (aCons (eVar 7) aNil)) (gTp 2 (gsCons (gNm 10) (gsCons (gNm 11) gsNil))) tTrue (eTup (aCons (eVar 11) (aCons (eOp gIx (eVar 7) (eOp gMod (eB hInt (aCons (eOp gAdd (eVar 10) (eC (.int 1))) aNil)) (eB hLen (aCons (eVar 7) aNil)))) aNil))) [10, 11] ⟨eL15 d0 tw rows T n (some w.length) (some w) order e9 e10 e11 e12 e13 e14, C⟩ = .ok (.lst ((stepL w).map prD)) C := by
      have hs0 : iEnT (aCons (eVar 7) aNil) ⟨eL15 d0 tw rows T n (some w.length) (some w) order e9 e10 e11 e12 e13 e14, C⟩ = .ok ((List.range w.length).map (fun k => D.tup [nI k, nI (wAt w k)]), keepAll) C := by
        rw [← enumD_n]
        rfl
      have := ev_eLc (xs := List.range w.length) (fD := fun k => D.tup [nI k, nI (wAt w k)]) (kp := keepAll) (c1 := C) (src := iEnT (aCons (eVar 7) aNil)) (g := gTp 2 (gsCons (gNm 10) (gsCons (gNm 11) gsNil))) (t := tTrue) (f := eTup (aCons (eVar 11) (aCons (eOp gIx (eVar 7) (eOp gMod (eB hInt (aCons (eOp gAdd (eVar 10) (eC (.int 1))) aNil)) (eB hLen (aCons (eVar 7) aNil)))) aNil))) (vs := [10, 11]) (st := ⟨eL15 d0 tw rows T n (some w.length) (some w) order e9 e10 e11 e12 e13 e14, C⟩)
        (fun _ => true) (fun k => prD (wAt w k, wAt w ((k + 1) % w.length))) hs0 (fun _ => rfl) (by rw [List.length_range]; omega) hC (fun _ _ _ => rfl) (fun k hk acc _ => by
          have hk := List.mem_range.mp hk
          obtain ⟨x, y, h1, h2, h3⟩ := hs k hk
          refine ⟨eL15 d0 tw rows T n (some w.length) (some w) order e9 (some (nI k)) (some (nI (wAt w k))) e12 e13 e14, rfl, rfl, fun _ => ?_⟩
          have cm : cMod (((k : Nat) : Int) + 1) ((w.length : Nat) : Int) = true := by simp [cMod]; omega
          have i1 : eOp gMod (eB hInt (aCons (eOp gAdd (eVar 10) (eC (.int 1))) aNil)) (eB hLen (aCons (eVar 7) aNil)) ⟨eL15 d0 tw rows T n (some w.length) (some w) order e9 (some (nI k)) (some (nI (wAt w k))) e12 e13 e14, C ++ [.lst acc]⟩ = .ok (nI ((k + 1) % w.length)) (C ++ [.lst acc]) := by
            refine ev_eOp (x := .int (((k : Nat) : Int) + 1)) (y := nI w.length) (c1 := C ++ [.lst acc]) (c2 := C ++ [.lst acc]) rfl (ev_eB (c1 := C ++ [.lst acc]) (xs := [.tup (w.map nI)]) rfl len_tup) ?_
            show (if cMod (((k : Nat) : Int) + 1) ((w.length : Nat) : Int) then Out.ok (D.int ((((k : Nat) : Int) + 1) % ((w.length : Nat) : Int))) (C ++ [.lst acc]) else .no) = _
            rw [cm]
            show Out.ok (D.int ((((k : Nat) : Int) + 1) % ((w.length : Nat) : Int))) (C ++ [.lst acc]) = _
            rw [show (((k : Nat) : Int) + 1) % ((w.length : Nat) : Int) = (((k + 1) % w.length : Nat) : Int) from (Int.natCast_emod (k + 1) w.length).symm]
            rfl
          refine ev_eTup (xs := [nI (wAt w k), nI (wAt w ((k + 1) % w.length))]) (ev_aCons (x := nI (wAt w k)) (c1 := C ++ [.lst acc]) rfl (ev_aCons (xs := []) (x := nI (wAt w ((k + 1) % w.length))) (c1 := C ++ [.lst acc]) ?_ rfl)) rfl
          refine ev_eOp (x := .tup (w.map nI)) (y := nI ((k + 1) % w.length)) (c1 := C ++ [.lst acc]) (c2 := C ++ [.lst acc]) rfl i1 ?_
          have ea : atI (w.map nI) ((((k + 1) % w.length : Nat) : Nat) : Int) = some (nI y) := VL.atI_nat (by rw [List.getElem?_map, h2]; rfl)
          rw [wAt_of h2]
          show (match atI (w.map nI) ((((k + 1) % w.length : Nat) : Nat) : Int) with
            | some d => Out.ok d (C ++ [Cell.lst acc])
            | none => .no) = _
          rw [ea])
      rw [this, List.filter_eq_self.mpr fun _ _ => rfl]
      unfold stepL
      rw [List.map_map]
      rfl
    have hst : ∀ p ∈ stepL w, p ∈ T := fun p hp => by
      obtain ⟨k, hk, rfl⟩ := List.mem_map.mp hp
      obtain ⟨x, y, h1, h2, h3⟩ := hs k (List.mem_range.mp hk)
      rw [wAt_of h1, wAt_of h2]
      exact h3
    have sl : (stepL w).length ≤ 20 := by
      unfold stepL
      rw [List.length_map, List.length_range]
      exact wl
    refine ⟨some (.lst ((stepL w).map prD)), ?_⟩
    let E := eL15 d0 tw rows T n (some w.length) (some w) order (some (.lst ((stepL w).map prD))) e10 e11 e12 e13 e14
    have t1 : tCmp' (gEqB true) (eB hLen (aCons (eVar 7) aNil)) (eVar 6) ⟨E, C⟩ = .ok false C := by
      refine ev_tCmp (ev_eOp (x := nI w.length) (y := nI w.length) (c1 := C) (c2 := C) (ev_eB (c1 := C) (xs := [.tup (w.map nI)]) rfl len_tup) rfl ?_)
      have := eqII (neg := true) (cs := C) (i := ((w.length : Nat) : Int)) (j := ((w.length : Nat) : Int))
      rw [beq_self_eq_true] at this
      exact this
    have t2 : tCmp' (gEqB true) (eLenSetI (eVar 7)) (eVar 6) ⟨E, C⟩ = .ok false C := by
      refine ev_tCmp (ev_eOp (x := nI w.length) (y := nI w.length) (c1 := C) (c2 := C) ?_ rfl ?_)
      · show (match intsOf (w.map nI) with
          | some ns => if decide (ns.length < 64) then Out.ok (D.int ((distinct ns).length : Nat)) C else .no
          | none => .no) = _
        rw [intsOf_nI]
        dsimp only
        rw [if_pos (decide_eq_true (by rw [List.length_map]; omega)), distinct_len nd]
        rfl
      · have := eqII (neg := true) (cs := C) (i := ((w.length : Nat) : Int)) (j := ((w.length : Nat) : Int))
        rw [beq_self_eq_true] at this
        exact this
    have s3 : eLc (iL (eVar 9)) (gNm 12) (tCmp' (gInL true) (eVar 12) (eVar 4)) (eVar 12) [12] ⟨E, C⟩ = .ok (.lst []) C := by
      have := ev_eLc (xs := stepL w) (fD := prD) (kp := keepAll) (c1 := C) (src := iL (eVar 9)) (g := gNm 12) (t := tCmp' (gInL true) (eVar 12) (eVar 4)) (f := eVar 12) (vs := [12]) (st := ⟨E, C⟩)
        (fun _ => false) prD rfl (fun _ => rfl) (by omega) hC (fun _ _ h => nomatch h) (fun p hp acc _ => by
          refine ⟨eL15 d0 tw rows T n (some w.length) (some w) order (some (.lst ((stepL w).map prD))) e10 e11 (some (prD p)) e13 e14, rfl, ?_, fun h => nomatch h⟩
          exact ev_tCmp (ev_eOp (x := prD p) (y := .lst (T.map prD)) (c1 := C ++ [.lst acc]) (c2 := C ++ [.lst acc]) rfl rfl (inL_prs hT (hst p hp))))
      rw [this]
      have e : (stepL w).filter (fun _ => false) = [] := List.filter_eq_nil_iff.mpr fun _ _ h => nomatch h
      rw [e]
      rfl
    have t3 : tCmp' (gEqB true) (eLc (iL (eVar 9)) (gNm 12) (tCmp' (gInL true) (eVar 12) (eVar 4)) (eVar 12) [12]) (eLst aNil) ⟨E, C⟩ = .ok false C :=
      ev_tCmp (ev_eOp (x := .lst []) (y := .lst []) (c1 := C) (c2 := C) s3 rfl (eqB_lstN (L := [])))
    exact ev_sIfT (c1 := C) rfl (ev_sSeq (ev_sAsg s1 rfl) (ev_sIfF (ev_tOrF t1 (ev_tOrF t2 t3)) rfl))
end K21
namespace K21
open PySem L2 PyProof.Rows VL
open PySem.W
theorem len_rows {cs : List Cell} {rows : List Rw} : hLen cs [.lst (rows.map rowD)] = .ok (nI rows.length) cs := by
  show Out.ok (D.int ((rows.map rowD).length : Nat)) cs = _
  rw [List.length_map]
  rfl
theorem below_rows {rows : List Rw} {k : Nat} : belows k [.lst (rows.map rowD)] = true := by
  rw [belows_cons]
  show (belows k (rows.map rowD) && true) = true
  rw [belows_rows]
  rfl
theorem below_rowsT {rows : List Rw} {k : Nat} : belows k [.tup (rows.map rowD)] = true := by
  rw [belows_cons]
  show (belows k (rows.map rowD) && true) = true
  rw [belows_rows]
  rfl
theorem low_dxC {gs : List Int} {b t : Int} : (dx gs b t).all (belowC (dx gs b t).length) = true := low_dx _ _ _
theorem rows_call {gs : List Int} {b t : Int} {n : Nat} (hg : gs.length ≤ 63) (hn : n ≤ 20) : ∃ (rows : List Rw) (gs' : List Int) (b' t' : Int), rows.length = n ∧ RowsOk 0 rows ∧ gs'.length ≤ 63 ∧ callV 2 rowsF [.loc 0, nI n] (dx gs b t) = .ok (.lst (rows.map rowD)) (dx gs' b' t') := by
  obtain ⟨rows, gs1, b1, t1, h1, h2, h3, e⟩ := rows_ok (b := b) (t := t) hg (show n ≤ 40 by omega)
  obtain ⟨d, c, e2, hd, gs2, b2, t2, h4, rfl⟩ := (wd_call (E := NoE) (Q := fun d c => d = .lst (rows.map rowD) ∧ ∃ (gs' : List Int) (b' t' : Int), gs'.length ≤ 63 ∧ c = dx gs' b' t' ++ []) (rest := []) (ds := [.loc 0, nI n]) (ds' := [.loc 0, nI n]) (gs := gs) (b := b) (t := t) (fun d => d = .lst (rows.map rowD)) rfl rfl (wo_of e ⟨rfl, gs1, b1, t1, h3, rfl⟩) (.inl rfl) fun d gs' b' t' h hg => ⟨h, gs', b', t', hg, rfl⟩).ex
  subst hd
  exact ⟨rows, gs2, b2, t2, h1, h2, h4, e2⟩
abbrev eS15 (d0 tw e3 e4 e5 e6 e7 e8 e9 e10 e11 e12 e13 e14 : Option D) : List (Option D) := [d0, some (.loc 0), tw, e3, e4, e5, e6, e7, e8, e9, e10, e11, e12, e13, e14]
theorem p0_ok {d0 tw e3 e4 e5 e6 e7 e8 e9 e10 e11 e12 e13 e14 : Option D} {gs : List Int} {b t : Int} (hg : gs.length ≤ 63) : ∃ (rows : List Rw) (gs' : List Int) (b' t' : Int), rows.length ≤ 20 ∧ RowsOk 0 rows ∧ gs'.length ≤ 63 ∧ p_law_0_0 ⟨eS15 d0 tw e3 e4 e5 e6 e7 e8 e9 e10 e11 e12 e13 e14, dx gs b t⟩ = .nx ⟨eS15 d0 tw (some (.lst (rows.map rowD))) e4 e5 e6 e7 e8 e9 e10 e11 e12 e13 e14, dx gs' b' t'⟩ := by
  have hn : ∃ (n : Nat) (gs1 : List Int) (b1 t1 : Int), n ≤ 20 ∧ gs1.length ≤ 63 ∧ eIf (tCmp' (gEqB false) (eCall 2 drawF (aCons (eVar 1) (aCons (eC (.int 9)) aNil))) (eC (.int 0))) (eC (.int 20)) (eCall 2 drawF (aCons (eVar 1) (aCons (eC (.int 8)) aNil))) ⟨eS15 d0 tw e3 e4 e5 e6 e7 e8 e9 e10 e11 e12 e13 e14, dx gs b t⟩ = .ok (nI n) (dx gs1 b1 t1) := by
    obtain ⟨v, gs1, b1, t1, hv, hg1, e1⟩ := draw_ev (gs := gs) (b := b) (t := t) 9 (rest := []) hg (by decide) (by decide)
    have et : tCmp' (gEqB false) (eCall 2 drawF (aCons (eVar 1) (aCons (eC (.int 9)) aNil))) (eC (.int 0)) ⟨eS15 d0 tw e3 e4 e5 e6 e7 e8 e9 e10 e11 e12 e13 e14, dx gs b t⟩ = .ok (((v : Nat) : Int) == 0) (dx gs1 b1 t1) :=
      ev_tCmp (ev_eOp (x := .int (v : Nat)) (y := .int 0) (c1 := dx gs1 b1 t1) (c2 := dx gs1 b1 t1) (ev_eCall (c1 := dx gs b t) (xs := [.loc 0, .int (9 : Nat)]) rfl e1) rfl eqII)
    cases z : (((v : Nat) : Int) == 0) with
    | true =>
      rw [z] at et
      exact ⟨20, gs1, b1, t1, by omega, hg1, ev_eIfT et rfl⟩
    | false =>
      rw [z] at et
      obtain ⟨w, gs2, b2, t2, hw, hg2, e2⟩ := draw_ev (gs := gs1) (b := b1) (t := t1) 8 (rest := []) hg1 (by decide) (by decide)
      exact ⟨w, gs2, b2, t2, by omega, hg2, ev_eIfF et (ev_eCall (c1 := dx gs1 b1 t1) (xs := [.loc 0, .int (8 : Nat)]) rfl e2)⟩
  obtain ⟨n, gs1, b1, t1, hn, hg1, e1⟩ := hn
  obtain ⟨rows, gs2, b2, t2, h1, h2, h3, e2⟩ := rows_call (b := b1) (t := t1) hg1 hn
  refine ⟨rows, gs2, b2, t2, by omega, h2, h3, ?_⟩
  exact ev_sAsg (d := .lst (rows.map rowD)) (c1 := dx gs2 b2 t2) (ev_eCall (c1 := dx gs1 b1 t1) (xs := [.loc 0, nI n]) (ev_aCons (x := .loc 0) (c1 := dx gs b t) rfl (ev_aCons (xs := []) (x := nI n) (c1 := dx gs1 b1 t1) e1 rfl)) e2) rfl
section
variable {d0 tw e4 e5 e6 e7 e8 e9 e10 e11 e12 e13 e14 : Option D} {C : List Cell} {rows : List Rw}
theorem p1_ok (hn : rows.length ≤ 20) (ok : RowsOk 0 rows) : p_law_0_1 ⟨eS15 d0 tw (some (.lst (rows.map rowD))) e4 e5 e6 e7 e8 e9 e10 e11 e12 e13 e14, C⟩ = .nx ⟨eS15 d0 tw (some (.lst (rows.map rowD))) (some (.lst ((srt (lawT rows)).map prD))) (some (nI rows.length)) e6 e7 e8 e9 e10 e11 e12 e13 e14, C⟩ := by
  have c1 : callV 0 lpairsF [.lst (rows.map rowD)] C = .ok (.lst ((srt (lawT rows)).map prD)) C := callV0_of rfl below_rows (lpairs_ok hn ok)
  refine ev_sAsg (d := .tup [.lst ((srt (lawT rows)).map prD), nI rows.length]) (c1 := C) ?_ rfl
  refine ev_eTup (xs := [.lst ((srt (lawT rows)).map prD), nI rows.length]) (ev_aCons (x := .lst ((srt (lawT rows)).map prD)) (c1 := C) (ev_eCall (c1 := C) (xs := [.lst (rows.map rowD)]) rfl c1) (ev_aCons (xs := []) (x := nI rows.length) (c1 := C) ?_ rfl)) rfl
  exact ev_eB (c1 := C) (xs := [.lst (rows.map rowD)]) rfl len_rows
theorem p2_ok (hn : rows.length ≤ 20) (ok : RowsOk 0 rows) : p_law_0_2 ⟨eS15 d0 tw (some (.lst (rows.map rowD))) (some (.lst ((srt (lawT rows)).map prD))) e5 e6 e7 e8 e9 e10 e11 e12 e13 e14, C⟩ = .nx ⟨eS15 d0 tw (some (.lst (rows.map rowD))) (some (.lst ((srt (lawT rows)).map prD))) e5 e6 e7 e8 e9 e10 e11 e12 e13 e14, C⟩ := by
  have hb : ∀ p ∈ srt (lawT rows), p.1 < 20 ∧ p.2 < 20 := fun p hp => by
    have := srt_bd ok p hp
    omega
  have hl := srt_len hn ok
  have c1 : callV 0 tiesF [.lst (rows.map rowD)] C = .ok (.tup ((srt (lawT rows)).map prD)) C := callV0_of rfl below_rows (ties_law (.inl rfl) hn ok)
  have c2 : callV 0 tiesF [.tup (rows.map rowD)] C = .ok (.tup ((srt (lawT rows)).map prD)) C := callV0_of rfl below_rowsT (ties_law (.inr rfl) hn ok)
  refine ev_sIfF (c1 := C) (ev_tOrF (c1 := C) (ev_tCmp (ev_eOp (x := .str (py (.tup ((srt (lawT rows)).map prD))).shown) (y := .str (py (.tup ((srt (lawT rows)).map prD))).shown) (c1 := C) (c2 := C) ?_ ?_ (eqB_str (show_prs hb hl).2))) (ev_tCmp (ev_eOp (x := .tup ((srt (lawT rows)).map prD)) (y := .tup ((srt (lawT rows)).map prD)) (c1 := C) (c2 := C) ?_ rfl (eqB_prs hb)))) rfl
  · exact ev_eB (c1 := C) (xs := [.tup ((srt (lawT rows)).map prD)]) (ev_aCons (xs := []) (c1 := C) (ev_eCall (c1 := C) (xs := [.lst (rows.map rowD)]) rfl c1) rfl) (repr_prs hb hl C)
  · exact ev_eB (c1 := C) (xs := [.tup ((srt (lawT rows)).map prD)]) rfl (repr_prs hb hl C)
  · exact ev_eCall (c1 := C) (xs := [.tup (rows.map rowD)]) rfl c2
theorem p34_ok (hn : rows.length ≤ 20) (ok : RowsOk 0 rows) : ∃ (best : Option Nat) (ring order : Option (List Nat)), Told (srt (lawT rows)) rows.length best ring order ∧ p_law_0_3 ⟨eS15 d0 tw (some (.lst (rows.map rowD))) (some (.lst ((srt (lawT rows)).map prD))) (some (nI rows.length)) e6 e7 e8 e9 e10 e11 e12 e13 e14, C⟩ = .nx ⟨eL15 d0 tw rows (srt (lawT rows)) rows.length best ring order e9 e10 e11 e12 e13 e14, C⟩ ∧ p_law_0_4 ⟨eL15 d0 tw rows (srt (lawT rows)) rows.length best ring order e9 e10 e11 e12 e13 e14, C⟩ = .nx ⟨eL15 d0 tw rows (srt (lawT rows)) rows.length best ring order e9 e10 e11 e12 e13 e14, C⟩ := by
  have hl := srt_len hn ok
  obtain ⟨ring, order, er, eo, tl⟩ := told (T := srt (lawT rows)) (n := rows.length) (srt_bd ok) (by omega)
  refine ⟨_, ring, order, tl, ?_, ?_⟩
  · have ht := ties_law (rows := rows) (.inl rfl) hn ok
    have c1 : callV 0 lshortF [.lst ((srt (lawT rows)).map prD), nI rows.length] C = .ok (optN (shortL (srt (lawT rows)) rows.length (List.range rows.length) none)) C := callV0_of rfl (by
      rw [belows_cons, belows_cons]
      show (belows 0 ((srt (lawT rows)).map prD) && (true && true)) = true
      rw [belows_prs]
      rfl) (lshort_ok (by omega) (by omega))
    have c2 : callV 0 ringF [.lst (rows.map rowD)] C = .ok (optT ring) C := callV0_of rfl below_rows (ring_ok (by omega) (by omega) rfl below_rows (fun _ => len_rows) ht er)
    have c3 : callV 0 orderF [.lst (rows.map rowD)] C = .ok (optO order) C := callV0_of rfl below_rows (order_ok (by omega) (by omega) rfl below_rows len_rows ht eo)
    refine ev_sAsg (d := .tup [optN (shortL (srt (lawT rows)) rows.length (List.range rows.length) none), optT ring, optO order]) (c1 := C) ?_ rfl
    refine ev_eTup (xs := [optN (shortL (srt (lawT rows)) rows.length (List.range rows.length) none), optT ring, optO order]) (ev_aCons (c1 := C) (ev_eCall (c1 := C) (xs := [.lst ((srt (lawT rows)).map prD), nI rows.length]) rfl c1) (ev_aCons (c1 := C) (ev_eCall (c1 := C) (xs := [.lst (rows.map rowD)]) rfl c2) (ev_aCons (xs := []) (c1 := C) (ev_eCall (c1 := C) (xs := [.lst (rows.map rowD)]) rfl c3) rfl))) rfl
  · revert tl
    generalize shortL (srt (lawT rows)) rows.length (List.range rows.length) none = best
    intro tl
    have q : ∀ k : Bool, gEqB true C (.bl k) (.bl k) = .ok (.bl false) C := fun k => eqB_same rfl (by simp [VL.plain]) (by simp [SeqAt.shaped, py, PyData.canLay0, PyData.depth])
    refine ev_sIfF (c1 := C) (ev_tOrF (c1 := C) ?_ ?_) rfl
    · cases best with
      | none =>
        have e := tl.tr.mpr rfl
        subst e
        exact ev_tCmp (ev_eOp (x := .bl true) (y := .bl true) (c1 := C) (c2 := C) rfl rfl (q true))
      | some k =>
        cases ring with
        | none => exact absurd (tl.tr.mp rfl) (fun e => nomatch e)
        | some w => exact ev_tCmp (ev_eOp (x := .bl false) (y := .bl false) (c1 := C) (c2 := C) rfl rfl (q false))
    · cases best with
      | none =>
        cases order with
        | none => exact absurd rfl (tl.to.mp rfl)
        | some o => exact ev_tCmp (ev_eOp (x := .bl false) (y := .bl false) (c1 := C) (c2 := C) rfl rfl (q false))
      | some k =>
        have e := tl.to.mpr (fun e => nomatch e)
        subst e
        exact ev_tCmp (ev_eOp (x := .bl true) (y := .bl true) (c1 := C) (c2 := C) rfl rfl (q true))
end
theorem turn_ok {d0 tw e3 e4 e5 e6 e7 e8 e9 e10 e11 e12 e13 e14 : Option D} {gs : List Int} {b t : Int} (hg : gs.length ≤ 63) : ∃ (gs' : List Int) (b' t' : Int) (f3 f4 f5 f6 f7 f8 f9 : Option D), gs'.length ≤ 63 ∧ l_law_0 ⟨eS15 d0 tw e3 e4 e5 e6 e7 e8 e9 e10 e11 e12 e13 e14, dx gs b t⟩ = .nx ⟨eS15 d0 tw f3 f4 f5 f6 f7 f8 f9 e10 e11 e12 e13 e14, dx gs' b' t'⟩ := by
  obtain ⟨rows, gs1, b1, t1, hn, ok, hg1, h0⟩ := p0_ok (d0 := d0) (tw := tw) (e3 := e3) (e4 := e4) (e5 := e5) (e6 := e6) (e7 := e7) (e8 := e8) (e9 := e9) (e10 := e10) (e11 := e11) (e12 := e12) (e13 := e13) (e14 := e14) (b := b) (t := t) hg
  have h1 := p1_ok (d0 := d0) (tw := tw) (e4 := e4) (e5 := e5) (e6 := e6) (e7 := e7) (e8 := e8) (e9 := e9) (e10 := e10) (e11 := e11) (e12 := e12) (e13 := e13) (e14 := e14) (C := dx gs1 b1 t1) hn ok
  have h2 := p2_ok (d0 := d0) (tw := tw) (e5 := some (nI rows.length)) (e6 := e6) (e7 := e7) (e8 := e8) (e9 := e9) (e10 := e10) (e11 := e11) (e12 := e12) (e13 := e13) (e14 := e14) (C := dx gs1 b1 t1) hn ok
  obtain ⟨best, ring, order, tl, h3, h4⟩ := p34_ok (d0 := d0) (tw := tw) (e6 := e6) (e7 := e7) (e8 := e8) (e9 := e9) (e10 := e10) (e11 := e11) (e12 := e12) (e13 := e13) (e14 := e14) (C := dx gs1 b1 t1) hn ok
  have hb : ∀ p ∈ srt (lawT rows), p.1 < 20 ∧ p.2 < 20 := fun p hp => by
    have := srt_bd ok p hp
    omega
  obtain ⟨f9, h5⟩ := p5_ok (d0 := d0) (tw := tw) (rows := rows) (best := best) (order := order) (e9 := e9) (e10 := e10) (e11 := e11) (e12 := e12) (e13 := e13) (e14 := e14) (C := dx gs1 b1 t1) low_dxC hb hn tl.sm
  have h6 := p6_ok (d0 := d0) (tw := tw) (rows := rows) (best := best) (ring := ring) (e9 := f9) (e10 := e10) (e11 := e11) (e12 := e12) (e13 := e13) (e14 := e14) (C := dx gs1 b1 t1) low_dxC (srt_len hn ok) hn tl.al
  exact ⟨gs1, b1, t1, _, _, _, _, _, _, f9, hg1, ev_sSeq h0 (ev_sSeq h1 (ev_sSeq h2 (ev_sSeq h3 (ev_sSeq h4 (ev_sSeq h5 h6)))))⟩
theorem turns_ok {d0 e10 e11 e12 e13 e14 : Option D} : ∀ (k s : Nat) {tw e3 e4 e5 e6 e7 e8 e9 : Option D} {gs : List Int} {b t : Int}, gs.length ≤ 63 → ∃ (gs' : List Int) (b' t' : Int) (f2 f3 f4 f5 f6 f7 f8 f9 : Option D), gs'.length ≤ 63 ∧ forL (gNm 2) l_law_0 keepAll (upD s k) ⟨eS15 d0 tw e3 e4 e5 e6 e7 e8 e9 e10 e11 e12 e13 e14, dx gs b t⟩ = .nx ⟨eS15 d0 f2 f3 f4 f5 f6 f7 f8 f9 e10 e11 e12 e13 e14, dx gs' b' t'⟩
  | 0, s, tw, e3, e4, e5, e6, e7, e8, e9, gs, b, t, hg => ⟨gs, b, t, tw, e3, e4, e5, e6, e7, e8, e9, hg, ev_forNil rfl⟩
  | k + 1, s, tw, e3, e4, e5, e6, e7, e8, e9, gs, b, t, hg => by
    obtain ⟨gs1, b1, t1, f3, f4, f5, f6, f7, f8, f9, hg1, h1⟩ := turn_ok (d0 := d0) (tw := some (nI s)) (e3 := e3) (e4 := e4) (e5 := e5) (e6 := e6) (e7 := e7) (e8 := e8) (e9 := e9) (e10 := e10) (e11 := e11) (e12 := e12) (e13 := e13) (e14 := e14) (b := b) (t := t) hg
    obtain ⟨gs2, b2, t2, g2, g3, g4, g5, g6, g7, g8, g9, hg2, h2⟩ := turns_ok (d0 := d0) (e10 := e10) (e11 := e11) (e12 := e12) (e13 := e13) (e14 := e14) k (s + 1) (tw := some (nI s)) (e3 := f3) (e4 := f4) (e5 := f5) (e6 := f6) (e7 := f7) (e8 := f8) (e9 := f9) (b := b1) (t := t1) hg1
    exact ⟨gs2, b2, t2, g2, g3, g4, g5, g6, g7, g8, g9, hg2, ev_forNx (st1 := ⟨eS15 d0 (some (nI s)) e3 e4 e5 e6 e7 e8 e9 e10 e11 e12 e13 e14, dx gs b t⟩) rfl rfl h1 h2⟩
theorem ties0 : tiesF [.lst []] [] = .ok (.tup []) [] := ties_law (rows := []) (.inl rfl) (by decide) True.intro
theorem ties0T : tiesF [.tup []] [] = .ok (.tup []) [] := ties_law (rows := []) (.inr rfl) (by decide) True.intro
theorem ring0 : ringF [.tup []] [] = .ok .non [] := ring_ok (rows := .tup []) (T := []) (n := 0) (r := none) (by decide) (by decide) rfl rfl (fun _ => rfl) ties0T rfl
theorem order0 : orderF [.lst []] [] = .ok (.btp []) [] := order_ok (rows := .lst []) (T := []) (n := 0) (r := some []) (by decide) (by decide) rfl rfl rfl ties0 rfl
theorem last_ok {env : List (Option D)} {C : List Cell} : q_law_2 ⟨env, C⟩ = .rt (.bl true) ⟨env, C⟩ := by
  have c1 : callV 0 tiesF [.lst []] C = .ok (.tup []) C := callV0_of rfl rfl ties0
  have c2 : callV 0 ringF [.tup []] C = .ok .non C := callV0_of rfl rfl ring0
  have c3 : callV 0 orderF [.lst []] C = .ok (.btp []) C := callV0_of rfl rfl order0
  refine ev_sRet (c1 := C) (ev_eAndT (x := .bl true) (c1 := C) (ev_eOp (x := .tup []) (y := .tup []) (c1 := C) (c2 := C) (ev_eCall (c1 := C) (xs := [.lst []]) rfl c1) rfl (eqB_prs (neg := false) (T := []) fun p h => nomatch h)) rfl ?_)
  refine ev_eAndT (x := .bl true) (c1 := C) (ev_eOp (x := .non) (y := .non) (c1 := C) (c2 := C) (ev_eCall (c1 := C) (xs := [.tup []]) rfl c2) rfl rfl) rfl ?_
  exact ev_eOp (x := .btp []) (y := .tup []) (c1 := C) (c2 := C) (ev_eCall (c1 := C) (xs := [.lst []]) rfl c3) rfl rfl
theorem law_true : ∀ ns : List Int, ns.length ≤ 63 → ∃ cs, runF 15 b_law [.frl (ns.map D.int)] [] = .ok (.bl true) cs := by
  intro ns hn
  obtain ⟨gs, s, hg, e0⟩ := deal_ok ns hn 0
  obtain ⟨gs2, b2, t2, f2, f3, f4, f5, f6, f7, f8, f9, hg2, h⟩ := turns_ok (d0 := some (.frl (ns.map D.int))) (e10 := none) (e11 := none) (e12 := none) (e13 := none) (e14 := none) 3 0 (tw := none) (e3 := none) (e4 := none) (e5 := none) (e6 := none) (e7 := none) (e8 := none) (e9 := none) (b := s) (t := 0) hg
  refine ⟨dx gs2 b2 t2, ?_⟩
  refine ev_runRt (n := 15) (sf := b_law) (ds := [.frl (ns.map D.int)]) (cs := []) (d := .bl true) (env := [some (.frl (ns.map D.int)), none, none, none, none, none, none, none, none, none, none, none, none, none, none]) (st1 := ⟨eS15 (some (.frl (ns.map D.int))) f2 f3 f4 f5 f6 f7 f8 f9 none none none none none, dx gs2 b2 t2⟩) rfl ?_
  refine ev_sSeq (st1 := ⟨eS15 (some (.frl (ns.map D.int))) none none none none none none none none none none none none none, dx gs s 0⟩) (ev_sAsg (d := .loc 0) (c1 := dx gs s 0) (ev_eCallAll (c1 := []) (xs := [.frl (ns.map D.int), .int 0]) rfl e0) rfl) ?_
  exact ev_sSeq (ev_sFor (w := (upD 0 3, keepAll)) (c1 := dx gs s 0) (iR1_of rfl (by decide)) h) last_ok
end K21
namespace K21
open PySem L2 PyProof.Rows VL
set_option maxHeartbeats 4000000 in
theorem all_mk {l : PySem.W.OpenLaw} {w : World} {K : PySem.W.Frag} {h : Heap} {mg : Str → Option Value} {fa : Addr} (X : K.In h) (G : h.Ns mainGlobals mg) (hfa : mg "law" = some (.ref fa))
    {f_layers : Addr} {od_layers : Option Addr} {an_layers : Option Addr} {sl_layers : Array (Option Value)} {oc_layers : Value} {kV_layers : Value} {dc_layers : Value} {pm_layers : Value} {cd_layers : Value} {ct_layers : Value} {f_next : Addr} {od_next : Option Addr} {an_next : Option Addr} {sl_next : Array (Option Value)} {oc_next : Value} {kV_next : Value} {dc_next : Value} {pm_next : Value} {cd_next : Value} {ct_next : Value} {f_tiesof : Addr} {od_tiesof : Option Addr} {an_tiesof : Option Addr} {sl_tiesof : Array (Option Value)} {oc_tiesof : Value} {kV_tiesof : Value} {dc_tiesof : Value} {pm_tiesof : Value} {cd_tiesof : Value} {ct_tiesof : Value} {f_numbers : Addr} {od_numbers : Option Addr} {an_numbers : Option Addr} {sl_numbers : Array (Option Value)} {oc_numbers : Value} {kV_numbers : Value} {dc_numbers : Value} {pm_numbers : Value} {cd_numbers : Value} {ct_numbers : Value} {f_ties : Addr} {od_ties : Option Addr} {an_ties : Option Addr} {sl_ties : Array (Option Value)} {oc_ties : Value} {kV_ties : Value} {dc_ties : Value} {pm_ties : Value} {cd_ties : Value} {ct_ties : Value} {f_wayback : Addr} {od_wayback : Option Addr} {an_wayback : Option Addr} {sl_wayback : Array (Option Value)} {oc_wayback : Value} {kV_wayback : Value} {dc_wayback : Value} {pm_wayback : Value} {cd_wayback : Value} {ct_wayback : Value} {f_ringfrom : Addr} {od_ringfrom : Option Addr} {an_ringfrom : Option Addr} {sl_ringfrom : Array (Option Value)} {oc_ringfrom : Value} {kV_ringfrom : Value} {dc_ringfrom : Value} {pm_ringfrom : Value} {cd_ringfrom : Value} {ct_ringfrom : Value} {f_ring : Addr} {od_ring : Option Addr} {an_ring : Option Addr} {sl_ring : Array (Option Value)} {oc_ring : Value} {kV_ring : Value} {dc_ring : Value} {pm_ring : Value} {cd_ring : Value} {ct_ring : Value} {f_order : Addr} {od_order : Option Addr} {an_order : Option Addr} {sl_order : Array (Option Value)} {oc_order : Value} {kV_order : Value} {dc_order : Value} {pm_order : Value} {cd_order : Value} {ct_order : Value} {f_deal : Addr} {od_deal : Option Addr} {an_deal : Option Addr} {sl_deal : Array (Option Value)} {oc_deal : Value} {kV_deal : Value} {dc_deal : Value} {pm_deal : Value} {cd_deal : Value} {ct_deal : Value} {f_draw : Addr} {od_draw : Option Addr} {an_draw : Option Addr} {sl_draw : Array (Option Value)} {oc_draw : Value} {kV_draw : Value} {dc_draw : Value} {pm_draw : Value} {cd_draw : Value} {ct_draw : Value} {f_pick : Addr} {od_pick : Option Addr} {an_pick : Option Addr} {sl_pick : Array (Option Value)} {oc_pick : Value} {kV_pick : Value} {dc_pick : Value} {pm_pick : Value} {cd_pick : Value} {ct_pick : Value} {f_rows : Addr} {od_rows : Option Addr} {an_rows : Option Addr} {sl_rows : Array (Option Value)} {oc_rows : Value} {kV_rows : Value} {dc_rows : Value} {pm_rows : Value} {cd_rows : Value} {ct_rows : Value} {f_lpairs : Addr} {od_lpairs : Option Addr} {an_lpairs : Option Addr} {sl_lpairs : Array (Option Value)} {oc_lpairs : Value} {kV_lpairs : Value} {dc_lpairs : Value} {pm_lpairs : Value} {cd_lpairs : Value} {ct_lpairs : Value} {f_lshort : Addr} {od_lshort : Option Addr} {an_lshort : Option Addr} {sl_lshort : Array (Option Value)} {oc_lshort : Value} {kV_lshort : Value} {dc_lshort : Value} {pm_lshort : Value} {cd_lshort : Value} {ct_lshort : Value} {f_law : Addr} {od_law : Option Addr} {an_law : Option Addr} {sl_law : Array (Option Value)} {oc_law : Value} {kV_law : Value} {dc_law : Value} {pm_law : Value} {cd_law : Value} {ct_law : Value}
    (a_layers : PySem.W.nsIn K mainGlobals "layers_of" = some (some (.ref f_layers)))
    (l_layers : K.lookup f_layers = some ⟨oc_layers, od_layers, .func (PySem.W.fnOf "layers_of" "layers_of" (defArgs s_layers) (defBody s_layers) (defScope s_layers) .none kV_layers dc_layers pm_layers an_layers cd_layers ct_layers), sl_layers⟩)
    (c_layers : PySem.W.codeIn K cd_layers "layers_of" = true)
    (k_layers : PySem.W.keepIn K (.ref f_layers) = true)
    (a_next : PySem.W.nsIn K mainGlobals "next_layer" = some (some (.ref f_next)))
    (l_next : K.lookup f_next = some ⟨oc_next, od_next, .func (PySem.W.fnOf "next_layer" "next_layer" (defArgs s_next) (defBody s_next) (defScope s_next) .none kV_next dc_next pm_next an_next cd_next ct_next), sl_next⟩)
    (c_next : PySem.W.codeIn K cd_next "next_layer" = true)
    (k_next : PySem.W.keepIn K (.ref f_next) = true)
    (a_tiesof : PySem.W.nsIn K mainGlobals "ties_of" = some (some (.ref f_tiesof)))
    (l_tiesof : K.lookup f_tiesof = some ⟨oc_tiesof, od_tiesof, .func (PySem.W.fnOf "ties_of" "ties_of" (defArgs s_tiesof) (defBody s_tiesof) (defScope s_tiesof) .none kV_tiesof dc_tiesof pm_tiesof an_tiesof cd_tiesof ct_tiesof), sl_tiesof⟩)
    (c_tiesof : PySem.W.codeIn K cd_tiesof "ties_of" = true)
    (k_tiesof : PySem.W.keepIn K (.ref f_tiesof) = true)
    (a_numbers : PySem.W.nsIn K mainGlobals "numbers_by_task" = some (some (.ref f_numbers)))
    (l_numbers : K.lookup f_numbers = some ⟨oc_numbers, od_numbers, .func (PySem.W.fnOf "numbers_by_task" "numbers_by_task" (defArgs s_numbers) (defBody s_numbers) (defScope s_numbers) .none kV_numbers dc_numbers pm_numbers an_numbers cd_numbers ct_numbers), sl_numbers⟩)
    (c_numbers : PySem.W.codeIn K cd_numbers "numbers_by_task" = true)
    (k_numbers : PySem.W.keepIn K (.ref f_numbers) = true)
    (a_ties : PySem.W.nsIn K mainGlobals "ties" = some (some (.ref f_ties)))
    (l_ties : K.lookup f_ties = some ⟨oc_ties, od_ties, .func (PySem.W.fnOf "ties" "ties" (defArgs s_ties) (defBody s_ties) (defScope s_ties) .none kV_ties dc_ties pm_ties an_ties cd_ties ct_ties), sl_ties⟩)
    (c_ties : PySem.W.codeIn K cd_ties "ties" = true)
    (k_ties : PySem.W.keepIn K (.ref f_ties) = true)
    (a_wayback : PySem.W.nsIn K mainGlobals "way_back" = some (some (.ref f_wayback)))
    (l_wayback : K.lookup f_wayback = some ⟨oc_wayback, od_wayback, .func (PySem.W.fnOf "way_back" "way_back" (defArgs s_wayback) (defBody s_wayback) (defScope s_wayback) .none kV_wayback dc_wayback pm_wayback an_wayback cd_wayback ct_wayback), sl_wayback⟩)
    (c_wayback : PySem.W.codeIn K cd_wayback "way_back" = true)
    (k_wayback : PySem.W.keepIn K (.ref f_wayback) = true)
    (a_ringfrom : PySem.W.nsIn K mainGlobals "ring_from" = some (some (.ref f_ringfrom)))
    (l_ringfrom : K.lookup f_ringfrom = some ⟨oc_ringfrom, od_ringfrom, .func (PySem.W.fnOf "ring_from" "ring_from" (defArgs s_ringfrom) (defBody s_ringfrom) (defScope s_ringfrom) .none kV_ringfrom dc_ringfrom pm_ringfrom an_ringfrom cd_ringfrom ct_ringfrom), sl_ringfrom⟩)
    (c_ringfrom : PySem.W.codeIn K cd_ringfrom "ring_from" = true)
    (k_ringfrom : PySem.W.keepIn K (.ref f_ringfrom) = true)
    (a_ring : PySem.W.nsIn K mainGlobals "ring" = some (some (.ref f_ring)))
    (l_ring : K.lookup f_ring = some ⟨oc_ring, od_ring, .func (PySem.W.fnOf "ring" "ring" (defArgs s_ring) (defBody s_ring) (defScope s_ring) .none kV_ring dc_ring pm_ring an_ring cd_ring ct_ring), sl_ring⟩)
    (c_ring : PySem.W.codeIn K cd_ring "ring" = true)
    (k_ring : PySem.W.keepIn K (.ref f_ring) = true)
    (a_order : PySem.W.nsIn K mainGlobals "plain_order" = some (some (.ref f_order)))
    (l_order : K.lookup f_order = some ⟨oc_order, od_order, .func (PySem.W.fnOf "plain_order" "plain_order" (defArgs s_order) (defBody s_order) (defScope s_order) .none kV_order dc_order pm_order an_order cd_order ct_order), sl_order⟩)
    (c_order : PySem.W.codeIn K cd_order "plain_order" = true)
    (k_order : PySem.W.keepIn K (.ref f_order) = true)
    (a_deal : PySem.W.nsIn K mainGlobals "_law_source" = some (some (.ref f_deal)))
    (l_deal : K.lookup f_deal = some ⟨oc_deal, od_deal, .func (PySem.W.fnOf "_law_source" "_law_source" (defArgs s_deal) (defBody s_deal) (defScope s_deal) .none kV_deal dc_deal pm_deal an_deal cd_deal ct_deal), sl_deal⟩)
    (c_deal : PySem.W.codeIn K cd_deal "_law_source" = true)
    (k_deal : PySem.W.keepIn K (.ref f_deal) = true)
    (a_draw : PySem.W.nsIn K mainGlobals "_law_draw" = some (some (.ref f_draw)))
    (l_draw : K.lookup f_draw = some ⟨oc_draw, od_draw, .func (PySem.W.fnOf "_law_draw" "_law_draw" (defArgs s_draw) (defBody s_draw) (defScope s_draw) .none kV_draw dc_draw pm_draw an_draw cd_draw ct_draw), sl_draw⟩)
    (c_draw : PySem.W.codeIn K cd_draw "_law_draw" = true)
    (k_draw : PySem.W.keepIn K (.ref f_draw) = true)
    (a_pick : PySem.W.nsIn K mainGlobals "_law_pick" = some (some (.ref f_pick)))
    (l_pick : K.lookup f_pick = some ⟨oc_pick, od_pick, .func (PySem.W.fnOf "_law_pick" "_law_pick" (defArgs s_pick) (defBody s_pick) (defScope s_pick) .none kV_pick dc_pick pm_pick an_pick cd_pick ct_pick), sl_pick⟩)
    (c_pick : PySem.W.codeIn K cd_pick "_law_pick" = true)
    (k_pick : PySem.W.keepIn K (.ref f_pick) = true)
    (a_rows : PySem.W.nsIn K mainGlobals "_law_rows" = some (some (.ref f_rows)))
    (l_rows : K.lookup f_rows = some ⟨oc_rows, od_rows, .func (PySem.W.fnOf "_law_rows" "_law_rows" (defArgs s_rows) (defBody s_rows) (defScope s_rows) .none kV_rows dc_rows pm_rows an_rows cd_rows ct_rows), sl_rows⟩)
    (c_rows : PySem.W.codeIn K cd_rows "_law_rows" = true)
    (k_rows : PySem.W.keepIn K (.ref f_rows) = true)
    (a_lpairs : PySem.W.nsIn K mainGlobals "_law_pairs" = some (some (.ref f_lpairs)))
    (l_lpairs : K.lookup f_lpairs = some ⟨oc_lpairs, od_lpairs, .func (PySem.W.fnOf "_law_pairs" "_law_pairs" (defArgs s_lpairs) (defBody s_lpairs) (defScope s_lpairs) .none kV_lpairs dc_lpairs pm_lpairs an_lpairs cd_lpairs ct_lpairs), sl_lpairs⟩)
    (c_lpairs : PySem.W.codeIn K cd_lpairs "_law_pairs" = true)
    (k_lpairs : PySem.W.keepIn K (.ref f_lpairs) = true)
    (a_lshort : PySem.W.nsIn K mainGlobals "_law_shortest" = some (some (.ref f_lshort)))
    (l_lshort : K.lookup f_lshort = some ⟨oc_lshort, od_lshort, .func (PySem.W.fnOf "_law_shortest" "_law_shortest" (defArgs s_lshort) (defBody s_lshort) (defScope s_lshort) .none kV_lshort dc_lshort pm_lshort an_lshort cd_lshort ct_lshort), sl_lshort⟩)
    (c_lshort : PySem.W.codeIn K cd_lshort "_law_shortest" = true)
    (k_lshort : PySem.W.keepIn K (.ref f_lshort) = true)
    (a_law : PySem.W.nsIn K mainGlobals "law" = some (some (.ref f_law)))
    (l_law : K.lookup f_law = some ⟨oc_law, od_law, .func (PySem.W.fnOf "law" "law" (defArgs s_law) (defBody s_law) (defScope s_law) .none kV_law dc_law pm_law an_law cd_law ct_law), sl_law⟩)
    (c_law : PySem.W.codeIn K cd_law "law" = true)
    (k_law : PySem.W.keepIn K (.ref f_law) = true)
    (z_len : PySem.W.nsIn K mainGlobals "len" = some none)
    (z_int : PySem.W.nsIn K mainGlobals "int" = some none)
    (z_abs : PySem.W.nsIn K mainGlobals "abs" = some none)
    (z_str : PySem.W.nsIn K mainGlobals "str" = some none)
    (z_repr : PySem.W.nsIn K mainGlobals "repr" = some none)
    (z_tuple : PySem.W.nsIn K mainGlobals "tuple" = some none)
    (z_range : PySem.W.nsIn K mainGlobals "range" = some none)
    (z_enumerate : PySem.W.nsIn K mainGlobals "enumerate" = some none)
    (z_list : PySem.W.nsIn K mainGlobals "list" = some none)
    (z_sorted : PySem.W.nsIn K mainGlobals "sorted" = some none)
    (z_dict : PySem.W.nsIn K mainGlobals "dict" = some none)
    (z_set : PySem.W.nsIn K mainGlobals "set" = some none)
    (any_tp : PySem.W.nsIn K cStatics "thirdparty.any" = some none)
    (top_super : (l.prog.main.scope.names.lookup ("super" : Str)).isSome = false) :
    ∃ fd : FuncData, (∀ (s : Shared) (u : Value), BindsTo s fd ⟨[u], []⟩ [("_law_script", u)]) ∧ ∃ sp : Sp, (∀ base : Heap, K.In base → base.Ns mainGlobals mg → AtC l.prog w K mg base (L2.CX l.prog w) 6 fa fd ["_law_script"] sp) ∧
      ∀ (H : Hp) (a : Addr) (ns : List Int), ns.length ≤ 63 → Only H → SqL K H a (ns.map V.int) → sp [.ref a] H (fun v _ => v = .bl true) fun _ _ _ => False := by
  have e := hfa.symm.trans (PySem.W.mg_of X G a_law)
  cases e
  let κ : Nat → Addr := fun _ => 0
  have F_layers : FunA (Kt.mk K κ w).K "layers_of" "layers_of" s_layers .none f_layers _ := funA_mk (K := ⟨K, κ, w⟩) l_layers c_layers
  have B_layers := F_layers.binds (K := ⟨K, κ, w⟩) (ps := ["rows"]) (fun _ _ _ _ _ _ us hl => match us, hl with | [_], _ => rfl)
  have F_next : FunA (Kt.mk K κ w).K "next_layer" "next_layer" s_next .none f_next _ := funA_mk (K := ⟨K, κ, w⟩) l_next c_next
  have B_next := F_next.binds (K := ⟨K, κ, w⟩) (ps := ["layers", "cell", "layer"]) (fun _ _ _ _ _ _ us hl => match us, hl with | [_, _, _], _ => rfl)
  have F_tiesof : FunA (Kt.mk K κ w).K "ties_of" "ties_of" s_tiesof .none f_tiesof _ := funA_mk (K := ⟨K, κ, w⟩) l_tiesof c_tiesof
  have B_tiesof := F_tiesof.binds (K := ⟨K, κ, w⟩) (ps := ["rows"]) (fun _ _ _ _ _ _ us hl => match us, hl with | [_], _ => rfl)
  have F_numbers : FunA (Kt.mk K κ w).K "numbers_by_task" "numbers_by_task" s_numbers .none f_numbers _ := funA_mk (K := ⟨K, κ, w⟩) l_numbers c_numbers
  have B_numbers := F_numbers.binds (K := ⟨K, κ, w⟩) (ps := ["rows"]) (fun _ _ _ _ _ _ us hl => match us, hl with | [_], _ => rfl)
  have F_ties : FunA (Kt.mk K κ w).K "ties" "ties" s_ties .none f_ties _ := funA_mk (K := ⟨K, κ, w⟩) l_ties c_ties
  have B_ties := F_ties.binds (K := ⟨K, κ, w⟩) (ps := ["rows"]) (fun _ _ _ _ _ _ us hl => match us, hl with | [_], _ => rfl)
  have F_wayback : FunA (Kt.mk K κ w).K "way_back" "way_back" s_wayback .none f_wayback _ := funA_mk (K := ⟨K, κ, w⟩) l_wayback c_wayback
  have B_wayback := F_wayback.binds (K := ⟨K, κ, w⟩) (ps := ["parents", "first", "here"]) (fun _ _ _ _ _ _ us hl => match us, hl with | [_, _, _], _ => rfl)
  have F_ringfrom : FunA (Kt.mk K κ w).K "ring_from" "ring_from" s_ringfrom .none f_ringfrom _ := funA_mk (K := ⟨K, κ, w⟩) l_ringfrom c_ringfrom
  have B_ringfrom := F_ringfrom.binds (K := ⟨K, κ, w⟩) (ps := ["behind", "first"]) (fun _ _ _ _ _ _ us hl => match us, hl with | [_, _], _ => rfl)
  have F_ring : FunA (Kt.mk K κ w).K "ring" "ring" s_ring .none f_ring _ := funA_mk (K := ⟨K, κ, w⟩) l_ring c_ring
  have B_ring := F_ring.binds (K := ⟨K, κ, w⟩) (ps := ["rows"]) (fun _ _ _ _ _ _ us hl => match us, hl with | [_], _ => rfl)
  have F_order : FunA (Kt.mk K κ w).K "plain_order" "plain_order" s_order .none f_order _ := funA_mk (K := ⟨K, κ, w⟩) l_order c_order
  have B_order := F_order.binds (K := ⟨K, κ, w⟩) (ps := ["rows"]) (fun _ _ _ _ _ _ us hl => match us, hl with | [_], _ => rfl)
  have F_deal : FunA (Kt.mk K κ w).K "_law_source" "_law_source" s_deal .none f_deal _ := funA_mk (K := ⟨K, κ, w⟩) l_deal c_deal
  have B_deal := F_deal.binds (K := ⟨K, κ, w⟩) (ps := ["_law_script", "_law_base"]) (fun _ _ _ _ _ _ us hl => match us, hl with | [_, _], _ => rfl)
  have F_draw : FunA (Kt.mk K κ w).K "_law_draw" "_law_draw" s_draw .none f_draw _ := funA_mk (K := ⟨K, κ, w⟩) l_draw c_draw
  have B_draw := F_draw.binds (K := ⟨K, κ, w⟩) (ps := ["_law_deal", "_law_wide"]) (fun _ _ _ _ _ _ us hl => match us, hl with | [_, _], _ => rfl)
  have F_pick : FunA (Kt.mk K κ w).K "_law_pick" "_law_pick" s_pick .none f_pick _ := funA_mk (K := ⟨K, κ, w⟩) l_pick c_pick
  have B_pick := F_pick.binds (K := ⟨K, κ, w⟩) (ps := ["_law_deal", "_law_some"]) (fun _ _ _ _ _ _ us hl => match us, hl with | [_, _], _ => rfl)
  have F_rows : FunA (Kt.mk K κ w).K "_law_rows" "_law_rows" s_rows .none f_rows _ := funA_mk (K := ⟨K, κ, w⟩) l_rows c_rows
  have B_rows := F_rows.binds (K := ⟨K, κ, w⟩) (ps := ["_law_deal", "_law_many"]) (fun _ _ _ _ _ _ us hl => match us, hl with | [_, _], _ => rfl)
  have F_lpairs : FunA (Kt.mk K κ w).K "_law_pairs" "_law_pairs" s_lpairs .none f_lpairs _ := funA_mk (K := ⟨K, κ, w⟩) l_lpairs c_lpairs
  have B_lpairs := F_lpairs.binds (K := ⟨K, κ, w⟩) (ps := ["_law_rows_here"]) (fun _ _ _ _ _ _ us hl => match us, hl with | [_], _ => rfl)
  have F_lshort : FunA (Kt.mk K κ w).K "_law_shortest" "_law_shortest" s_lshort .none f_lshort _ := funA_mk (K := ⟨K, κ, w⟩) l_lshort c_lshort
  have B_lshort := F_lshort.binds (K := ⟨K, κ, w⟩) (ps := ["_law_pairs_here", "_law_many"]) (fun _ _ _ _ _ _ us hl => match us, hl with | [_, _], _ => rfl)
  have T : Tx ⟨K, κ, w⟩ mg := { b_len := PySem.W.mg_none_of X G z_len, b_int := PySem.W.mg_none_of X G z_int, b_abs := PySem.W.mg_none_of X G z_abs, b_str := PySem.W.mg_none_of X G z_str, b_repr := PySem.W.mg_none_of X G z_repr, b_tuple := PySem.W.mg_none_of X G z_tuple, b_range := PySem.W.mg_none_of X G z_range, b_enumerate := PySem.W.mg_none_of X G z_enumerate, b_list := PySem.W.mg_none_of X G z_list, b_sorted := PySem.W.mg_none_of X G z_sorted, b_dict := PySem.W.mg_none_of X G z_dict, b_set := PySem.W.mg_none_of X G z_set, t_layers := ⟨f_layers, _, PySem.W.mg_of X G a_layers, k_layers, F_layers, B_layers⟩, t_next := ⟨f_next, _, PySem.W.mg_of X G a_next, k_next, F_next, B_next⟩, t_tiesof := ⟨f_tiesof, _, PySem.W.mg_of X G a_tiesof, k_tiesof, F_tiesof, B_tiesof⟩, t_numbers := ⟨f_numbers, _, PySem.W.mg_of X G a_numbers, k_numbers, F_numbers, B_numbers⟩, t_ties := ⟨f_ties, _, PySem.W.mg_of X G a_ties, k_ties, F_ties, B_ties⟩, t_wayback := ⟨f_wayback, _, PySem.W.mg_of X G a_wayback, k_wayback, F_wayback, B_wayback⟩, t_ringfrom := ⟨f_ringfrom, _, PySem.W.mg_of X G a_ringfrom, k_ringfrom, F_ringfrom, B_ringfrom⟩, t_ring := ⟨f_ring, _, PySem.W.mg_of X G a_ring, k_ring, F_ring, B_ring⟩, t_order := ⟨f_order, _, PySem.W.mg_of X G a_order, k_order, F_order, B_order⟩, t_deal := ⟨f_deal, _, PySem.W.mg_of X G a_deal, k_deal, F_deal, B_deal⟩, t_draw := ⟨f_draw, _, PySem.W.mg_of X G a_draw, k_draw, F_draw, B_draw⟩, t_pick := ⟨f_pick, _, PySem.W.mg_of X G a_pick, k_pick, F_pick, B_pick⟩, t_rows := ⟨f_rows, _, PySem.W.mg_of X G a_rows, k_rows, F_rows, B_rows⟩, t_lpairs := ⟨f_lpairs, _, PySem.W.mg_of X G a_lpairs, k_lpairs, F_lpairs, B_lpairs⟩, t_lshort := ⟨f_lshort, _, PySem.W.mg_of X G a_lshort, k_lshort, F_lshort, B_lshort⟩ }
  have Fl := fun_mk (st := s_law) l_law c_law k_law
  refine ⟨PySem.W.fnOf "law" "law" (defArgs s_law) (defBody s_law) (defScope s_law) .none kV_law dc_law pm_law an_law cd_law ct_law, fun s v => .of_eq rfl, spF ⟨K, κ, w⟩ 1 (runF 15 b_law), fun base _ _ => ?_, fun H a ns hl ho hs => law_pre (K := ⟨K, κ, w⟩) law_true H a ns hl ho hs⟩
  have D_layers := fun base : Heap => ok1_layers (P := l.prog) (base := base) T 
  have D_next := fun base : Heap => ok1_next (P := l.prog) (base := base) T 
  have D_tiesof := fun base : Heap => ok1_tiesof (P := l.prog) (base := base) T (D_layers base) (D_next base)
  have D_numbers := fun base : Heap => ok1_numbers (P := l.prog) (base := base) T 
  have D_ties := fun base : Heap => ok1_ties (P := l.prog) (base := base) T (D_tiesof base) (D_numbers base)
  have D_wayback := fun base : Heap => ok1_wayback (P := l.prog) (base := base) T 
  have D_ringfrom := fun base : Heap => ok1_ringfrom (P := l.prog) (base := base) T (D_wayback base)
  have D_ring := fun base : Heap => ok1_ring (P := l.prog) (base := base) T (D_ties base) (D_ringfrom base)
  have D_order := fun base : Heap => ok1_order (P := l.prog) (base := base) T (D_ties base)
  have D_deal := fun base : Heap => ok1_deal (P := l.prog) (base := base) T 
  have D_draw := fun base : Heap => ok1_draw (P := l.prog) (base := base) T 
  have D_pick := fun base : Heap => ok1_pick (P := l.prog) (base := base) T (D_draw base)
  have D_rows := fun base : Heap => ok1_rows (P := l.prog) (base := base) T (D_draw base) (D_pick base)
  have D_lpairs := fun base : Heap => ok1_lpairs (P := l.prog) (base := base) T 
  have D_lshort := fun base : Heap => ok1_lshort (P := l.prog) (base := base) T 
  exact ok_law T (D_deal base) (D_rows base) (D_draw base) (D_lpairs base) (D_ties base) (D_order base) (D_ring base) (D_lshort base) Fl
end K21
open PySem PySem.W PyProof.Rows
set_option maxRecDepth 100000 in
set_option maxHeartbeats 0 in
theorem PySem.Challenge.cw_plainroads_k21_ties_and_rings_holds : PySem.Challenge.rw_plainroads_k21_ties_and_rings.Holds := by
  w_on; o_law; k_head; (case hw => w_witness2)
  k_fill
  refine VL.walkC (l := PySem.Challenge.rw_plainroads_k21_ties_and_rings) (n := 63) (k := 6) (x := "_law_script") (CX := fun w => L2.CX (PySem.Challenge.rw_plainroads_k21_ties_and_rings).prog w) rfl (by decide) rfl ⟨rfl, by decide, by decide⟩ (fun w h Y => PySem.W.kIn_of Y) ?F (fun w H s e s1 => VL.noCX H s e s1)
  case F =>
    intro w mg fa h KX G hmg
    refine' K21.all_mk KX G hmg ?a_layers ?l_layers ?c_layers ?k_layers ?a_next ?l_next ?c_next ?k_next ?a_tiesof ?l_tiesof ?c_tiesof ?k_tiesof ?a_numbers ?l_numbers ?c_numbers ?k_numbers ?a_ties ?l_ties ?c_ties ?k_ties ?a_wayback ?l_wayback ?c_wayback ?k_wayback ?a_ringfrom ?l_ringfrom ?c_ringfrom ?k_ringfrom ?a_ring ?l_ring ?c_ring ?k_ring ?a_order ?l_order ?c_order ?k_order ?a_deal ?l_deal ?c_deal ?k_deal ?a_draw ?l_draw ?c_draw ?k_draw ?a_pick ?l_pick ?c_pick ?k_pick ?a_rows ?l_rows ?c_rows ?k_rows ?a_lpairs ?l_lpairs ?c_lpairs ?k_lpairs ?a_lshort ?l_lshort ?c_lshort ?k_lshort ?a_law ?l_law ?c_law ?k_law ?z_len ?z_int ?z_abs ?z_str ?z_repr ?z_tuple ?z_range ?z_enumerate ?z_list ?z_sorted ?z_dict ?z_set ?any_tp ?top_super
    (case a_layers => k_is)
    (case l_layers => k_is)
    (case c_layers => k_is)
    (case k_layers => k_is)
    (case a_next => k_is)
    (case l_next => k_is)
    (case c_next => k_is)
    (case k_next => k_is)
    (case a_tiesof => k_is)
    (case l_tiesof => k_is)
    (case c_tiesof => k_is)
    (case k_tiesof => k_is)
    (case a_numbers => k_is)
    (case l_numbers => k_is)
    (case c_numbers => k_is)
    (case k_numbers => k_is)
    (case a_ties => k_is)
    (case l_ties => k_is)
    (case c_ties => k_is)
    (case k_ties => k_is)
    (case a_wayback => k_is)
    (case l_wayback => k_is)
    (case c_wayback => k_is)
    (case k_wayback => k_is)
    (case a_ringfrom => k_is)
    (case l_ringfrom => k_is)
    (case c_ringfrom => k_is)
    (case k_ringfrom => k_is)
    (case a_ring => k_is)
    (case l_ring => k_is)
    (case c_ring => k_is)
    (case k_ring => k_is)
    (case a_order => k_is)
    (case l_order => k_is)
    (case c_order => k_is)
    (case k_order => k_is)
    (case a_deal => k_is)
    (case l_deal => k_is)
    (case c_deal => k_is)
    (case k_deal => k_is)
    (case a_draw => k_is)
    (case l_draw => k_is)
    (case c_draw => k_is)
    (case k_draw => k_is)
    (case a_pick => k_is)
    (case l_pick => k_is)
    (case c_pick => k_is)
    (case k_pick => k_is)
    (case a_rows => k_is)
    (case l_rows => k_is)
    (case c_rows => k_is)
    (case k_rows => k_is)
    (case a_lpairs => k_is)
    (case l_lpairs => k_is)
    (case c_lpairs => k_is)
    (case k_lpairs => k_is)
    (case a_lshort => k_is)
    (case l_lshort => k_is)
    (case c_lshort => k_is)
    (case k_lshort => k_is)
    (case a_law => k_is)
    (case l_law => k_is)
    (case c_law => k_is)
    (case k_law => k_is)
    (case z_len => k_is)
    (case z_int => k_is)
    (case z_abs => k_is)
    (case z_str => k_is)
    (case z_repr => k_is)
    (case z_tuple => k_is)
    (case z_range => k_is)
    (case z_enumerate => k_is)
    (case z_list => k_is)
    (case z_sorted => k_is)
    (case z_dict => k_is)
    (case z_set => k_is)
    (case any_tp => k_is)
    (case top_super => rfl)
end
