import PyProof.Rows.All
import Wide.All
import OpenK.AllK
import Wide.FinOn
import HandS.ForMost
import HandS.Evl
import HandS.ForExc
import HandS.Deep
import HandS.Defaults
import HandS.DictComp
import HandS.Flow
import HandS.IsInst
import HandS.Wide
import HandS.SortInts
import HandS.Conv
import HandS.RaiseMore
import HandS.OwnEq
import HandS.Property
import HandS.ClsMeth
import HandS.StrMore
import HandS.FStr
import HandS.ExcSuper
import HandS.Style
import HandS.Star
import PyProof.ReprBulk
import KE.KExcSuper
import HandS.ExcInit
import HandS.More
import HandS.Nested
import KE.KExcInit
import HandS.CallSlots
import HandS.WordsExc
import HandS.TryMany
import HandS.ExcField
import HandS.ExcIs
import KE.KCallOwn
import PyProof.InstNe
import KE.KOpsOwn
import HandS.TryOnly
import KE.GoesEnum
import PyProof.P3In
import HandS.TupLe
import HandS.Codes
import KE.KExcLine
import KE.RegKSuper
import PySem.Challenge.RW_pourmaps_k10_texts_of_maps
set_option Elab.async false
set_option linter.all false
set_option maxRecDepth 100000
set_option maxHeartbeats 1000000
namespace DP
open PySem PySem.Spec PyProof.Rows L2
open Evl (Ex ex_l ex_t ex_rd fresh_back)

/-! ### data -/
inductive D where
  | non | bl (b : Bool) | int (i : Int) | str (x : Str) | ty (n : String) | glob (a : Addr)
  | tup (xs : List D) | lst (xs : List D) | scr (xs : List D) | dct (kvs : List (Key × D)) | obj (C : Addr) (fs : List (Str × D))
inductive Exn where
  | own (C : Addr) (fs : List (Str × D)) | blt (n : String)
/-- a datum, or a thing that may change (by its address), or an exception that is handled -/
inductive X where
  | d (d : D) | h (a : Addr) | e (a : Addr) (cls : Value) (dd : Option Addr) (x : Exn)
/-- what a thing that may change holds now -/
inductive Cell where
  | dead | lst (xs : List X) | dct (kvs : List (Key × D)) | obj (C : Addr) (fs : List (Str × X))
abbrev Store := List (Addr × Cell)
abbrev Env := List (Option X)

mutual
inductive Rep (K : PySem.W.Frag) (F : Hp) : V → D → Prop
  | non : Rep K F .non .non
  | bl (b : Bool) : Rep K F (.bl b) (.bl b)
  | int (i : Int) : Rep K F (.int i) (.int i)
  | str (x : Str) : Rep K F (.str x) (.str x)
  | ty (n : String) : Rep K F (.ty n) (.ty n)
  | glob (a : Addr) : Rep K F (.ref a) (.glob a)
  | tup {p : Addr} {vs : List V} {ds : List D} : SqT K F p vs → Reps K F vs ds → Rep K F (.ref p) (.tup ds)
  | lst {p : Addr} {vs : List V} {ds : List D} : F p = some (.lst vs) → Reps K F vs ds → Rep K F (.ref p) (.lst ds)
  | scr {p : Addr} {vs : List V} {ds : List D} : SqL K F p vs → Reps K F vs ds → Rep K F (.ref p) (.scr ds)
  | dct {p : Addr} {ws : List (Key × V)} {kvs : List (Key × D)} {o : Obj} : F p = some (.frz o (.dK ws)) → RepK K F ws kvs → Rep K F (.ref p) (.dct kvs)
  | obj {p C dx : Addr} {ws : List (Str × V)} {fs : List (Str × D)} : F p = some (.ins C dx ws) → RepF K F ws fs → Rep K F (.ref p) (.obj C fs)
inductive Reps (K : PySem.W.Frag) (F : Hp) : List V → List D → Prop
  | nil : Reps K F [] []
  | cons {v : V} {d : D} {vs : List V} {ds : List D} : Rep K F v d → Reps K F vs ds → Reps K F (v :: vs) (d :: ds)
inductive RepK (K : PySem.W.Frag) (F : Hp) : List (Key × V) → List (Key × D) → Prop
  | nil : RepK K F [] []
  | cons {k : Key} {v : V} {d : D} {vs : List (Key × V)} {ds : List (Key × D)} : Rep K F v d → RepK K F vs ds → RepK K F ((k, v) :: vs) ((k, d) :: ds)
inductive RepF (K : PySem.W.Frag) (F : Hp) : List (Str × V) → List (Str × D) → Prop
  | nil : RepF K F [] []
  | cons {k : Str} {v : V} {d : D} {vs : List (Str × V)} {ds : List (Str × D)} : Rep K F v d → RepF K F vs ds → RepF K F ((k, v) :: vs) ((k, d) :: ds)
end
section
variable {K : PySem.W.Frag} {F F' : Hp}
mutual
theorem Rep.mono (e : Ex F F') : ∀ {v : V} {d : D}, Rep K F v d → Rep K F' v d
  | _, _, .non => .non
  | _, _, .bl b => .bl b
  | _, _, .int i => .int i
  | _, _, .str x => .str x
  | _, _, .ty n => .ty n
  | _, _, .glob a => .glob a
  | _, _, .tup h r => .tup (ex_t e h) (Reps.mono e r)
  | _, _, .lst h r => .lst (e _ _ h) (Reps.mono e r)
  | _, _, .scr h r => .scr (ex_l e h) (Reps.mono e r)
  | _, _, .dct h r => .dct (e _ _ h) (RepK.mono e r)
  | _, _, .obj h r => .obj (e _ _ h) (RepF.mono e r)
theorem Reps.mono (e : Ex F F') : ∀ {v : List V} {d : List D}, Reps K F v d → Reps K F' v d
  | _, _, .nil => .nil
  | _, _, .cons r t => .cons (Rep.mono e r) (Reps.mono e t)
theorem RepK.mono (e : Ex F F') : ∀ {v : List (Key × V)} {d : List (Key × D)}, RepK K F v d → RepK K F' v d
  | _, _, .nil => .nil
  | _, _, .cons r t => .cons (Rep.mono e r) (RepK.mono e t)
theorem RepF.mono (e : Ex F F') : ∀ {v : List (Str × V)} {d : List (Str × D)}, RepF K F v d → RepF K F' v d
  | _, _, .nil => .nil
  | _, _, .cons r t => .cons (Rep.mono e r) (RepF.mono e t)
end
end
end DP

set_option Elab.async false
set_option linter.all false
set_option maxRecDepth 100000
set_option maxHeartbeats 1000000
namespace DP
open PySem PySem.Spec PyProof.Rows L2
open Evl (Ex ex_l ex_t ex_rd fresh_back)

def RepE (K : PySem.W.Frag) (F : Hp) (cls : Value) (d : Option Addr) : Exn → Prop
  | .own C fs => cls = .ref C ∧ ((fs = [] ∧ d = none) ∨ ∃ da ws, d = some da ∧ F da = some (.xd ws) ∧ RepF K F ws fs)
  | .blt n => cls = .type n ∧ d = none
theorem RepE.mono {K : PySem.W.Frag} {F F' : Hp} (e : Ex F F') {cls : Value} {d : Option Addr} : ∀ {x : Exn}, RepE K F cls d x → RepE K F' cls d x
  | .own C fs, ⟨h1, h2⟩ => ⟨h1, h2.elim .inl fun ⟨da, ws, h3, h4, h5⟩ => .inr ⟨da, ws, h3, e _ _ h4, RepF.mono e h5⟩⟩
  | .blt n, h => h
def RepX (K : PySem.W.Frag) (F : Hp) (v : V) : X → Prop
  | .d d => Rep K F v d
  | .h a => v = .ref a
  | .e a cls d x => v = .ref a ∧ RepE K F cls d x
abbrev RepXs (K : PySem.W.Frag) (F : Hp) : List V → List X → Prop := Paired (RepX K F)
abbrev RepXF (K : PySem.W.Frag) (F : Hp) : List (Str × V) → List (Str × X) → Prop := Paired fun p q => p.1 = q.1 ∧ RepX K F p.2 q.2
section
variable {K : PySem.W.Frag} {F F' : Hp}
theorem RepX.mono (e : Ex F F') {v : V} : ∀ {x : X}, RepX K F v x → RepX K F' v x
  | .d _, r => Rep.mono e r
  | .h _, r => r
  | .e _ _ _ _, r => ⟨r.1, r.2.mono e⟩
theorem RepXs.mono (e : Ex F F') {vs : List V} {xs : List X} (r : RepXs K F vs xs) : RepXs K F' vs xs := Paired.mapP r fun _ _ q => q.mono e
theorem RepXF.mono (e : Ex F F') {vs : List (Str × V)} {xs : List (Str × X)} (r : RepXF K F vs xs) : RepXF K F' vs xs := Paired.mapP r fun _ _ q => ⟨q.1, q.2.mono e⟩
theorem Reps.len : ∀ {vs : List V} {ds : List D}, Reps K F vs ds → vs.length = ds.length
  | _, _, .nil => rfl
  | _, _, .cons _ t => by simp [Reps.len t]
theorem Reps.get : ∀ {vs : List V} {ds : List D} {i : Nat} {d : D}, Reps K F vs ds → ds[i]? = some d → ∃ v, vs[i]? = some v ∧ Rep K F v d
  | _, _, _, _, .nil, e => by simp at e
  | _, _, 0, _, .cons r _, e => by simp at e; subst e; exact ⟨_, rfl, r⟩
  | _, _, i + 1, d, .cons _ t, e => by
    obtain ⟨u, h1, h2⟩ := Reps.get (i := i) (d := d) t (by simpa using e)
    exact ⟨u, by simpa using h1, h2⟩
theorem Reps.get' : ∀ {vs : List V} {ds : List D} {i : Nat} {v : V}, Reps K F vs ds → vs[i]? = some v → ∃ d, ds[i]? = some d ∧ Rep K F v d
  | _, _, _, _, .nil, e => by simp at e
  | _, _, 0, _, .cons r _, e => by simp at e; subst e; exact ⟨_, rfl, r⟩
  | _, _, i + 1, d, .cons _ t, e => by
    obtain ⟨u, h1, h2⟩ := Reps.get' (i := i) (v := d) t (by simpa using e)
    exact ⟨u, by simpa using h1, h2⟩
theorem Reps.xs : ∀ {vs : List V} {ds : List D}, Reps K F vs ds → RepXs K F vs (ds.map X.d)
  | _, _, .nil => .nil
  | _, _, .cons r t => .cons r (Reps.xs t)
theorem Reps.app : ∀ {vs ws : List V} {ds es : List D}, Reps K F vs ds → Reps K F ws es → Reps K F (vs ++ ws) (ds ++ es)
  | _, _, _, _, .nil, s => s
  | _, _, _, _, .cons r t, s => .cons r (Reps.app t s)
theorem RepXs.app : ∀ {vs ws : List V} {ds es : List X}, RepXs K F vs ds → RepXs K F ws es → RepXs K F (vs ++ ws) (ds ++ es)
  | _, _, _, _, .nil, s => s
  | _, _, _, _, .cons r t, s => .cons r (RepXs.app t s)
theorem RepXs.get : ∀ {vs : List V} {ds : List X} {i : Nat} {d : X}, RepXs K F vs ds → ds[i]? = some d → ∃ v, vs[i]? = some v ∧ RepX K F v d
  | _, _, _, _, .nil, e => by simp at e
  | _, _, 0, _, .cons r _, e => by simp at e; subst e; exact ⟨_, rfl, r⟩
  | _, _, i + 1, d, .cons _ t, e => by
    obtain ⟨u, h1, h2⟩ := RepXs.get (i := i) (d := d) t (by simpa using e)
    exact ⟨u, by simpa using h1, h2⟩
/-- all data -/
def xdata : List X → Option (List D)
  | [] => some []
  | .d d :: r => (xdata r).map (d :: ·)
  | _ :: _ => none
theorem Reps.of_xs : ∀ {xs : List X} {vs : List V} {ds : List D}, RepXs K F vs xs → xdata xs = some ds → Reps K F vs ds
  | [], _, _, .nil, e => by cases e; exact .nil
  | .d d :: r, _, _, .cons q t, e => by
    simp only [xdata, Option.map_eq_some_iff] at e
    obtain ⟨ds, e1, rfl⟩ := e
    exact .cons q (Reps.of_xs t e1)
  | .h _ :: _, _, _, _, e => by cases e
  | .e _ _ _ _ :: _, _, _, _, e => by cases e
def fdata : List (Str × X) → Option (List (Str × D))
  | [] => some []
  | (k, .d d) :: r => (fdata r).map ((k, d) :: ·)
  | (_, _) :: _ => none
theorem RepF.of_xs : ∀ {xs : List (Str × X)} {vs : List (Str × V)} {ds : List (Str × D)}, RepXF K F vs xs → fdata xs = some ds → RepF K F vs ds
  | [], _, _, .nil, e => by cases e; exact .nil
  | (k, .d d) :: r, (k', v) :: _, _, .cons q t, e => by
    simp only [fdata, Option.map_eq_some_iff] at e
    obtain ⟨ds, e1, rfl⟩ := e
    obtain ⟨q1, q2⟩ := q
    have q1 : k' = k := q1
    subst q1
    exact .cons q2 (RepF.of_xs t e1)
  | (_, .h _) :: _, _, _, _, e => by cases e
  | (_, .e _ _ _ _) :: _, _, _, _, e => by cases e
theorem RepF.lookup {f : Str} : ∀ {vs : List (Str × V)} {ds : List (Str × D)} {d : D}, RepF K F vs ds → ds.lookup f = some d → ∃ v, vs.lookup f = some v ∧ Rep K F v d
  | _, _, _, .nil, e => by cases e
  | (k, v) :: _, _, d, .cons r t, e => by
    simp only [List.lookup_cons] at e ⊢
    split at e
    · cases e; exact ⟨_, rfl, r⟩
    · exact RepF.lookup t e
theorem RepF.lookup_none {f : Str} : ∀ {vs : List (Str × V)} {ds : List (Str × D)}, RepF K F vs ds → ds.lookup f = none → vs.lookup f = none
  | _, _, .nil, e => rfl
  | (k, v) :: _, _, .cons r t, e => by
    simp only [List.lookup_cons] at e ⊢
    split at e
    · cases e
    · exact RepF.lookup_none t e
theorem RepXF.lookup {f : Str} : ∀ {vs : List (Str × V)} {ds : List (Str × X)} {d : X}, RepXF K F vs ds → ds.lookup f = some d → ∃ v, vs.lookup f = some v ∧ RepX K F v d
  | _, _, _, .nil, e => by cases e
  | (k, v) :: _, (k', x) :: _, d, .cons r t, e => by
    obtain ⟨r1, r2⟩ := r
    have r1 : k = k' := r1
    subst r1
    simp only [List.lookup_cons] at e ⊢
    split at e
    · cases e; exact ⟨_, rfl, r2⟩
    · exact RepXF.lookup t e
theorem RepXF.lookup_none {f : Str} : ∀ {vs : List (Str × V)} {ds : List (Str × X)}, RepXF K F vs ds → ds.lookup f = none → vs.lookup f = none
  | _, _, .nil, e => rfl
  | (k, v) :: _, (k', x) :: _, .cons r t, e => by
    obtain ⟨r1, r2⟩ := r
    have r1 : k = k' := r1
    subst r1
    simp only [List.lookup_cons] at e ⊢
    split at e
    · cases e
    · exact RepXF.lookup_none t e
end

/-- what stands at a: the thing holds c -/
def CellAt (K : PySem.W.Frag) (F H : Hp) (a : Addr) : Cell → Prop
  | .dead => (H a).isSome = true
  | .lst xs => F a = none ∧ ∃ vs, H a = some (.lst vs) ∧ RepXs K F vs xs
  | .dct kvs => F a = none ∧ ∃ ws, H a = some (.dK ws) ∧ RepK K F ws kvs
  | .obj C fs => F a = none ∧ ∃ dx ws, H a = some (.ins C dx ws) ∧ RepXF K F ws fs
theorem CellAt.ok {K : PySem.W.Frag} {F H : Hp} {a : Addr} : ∀ {c : Cell}, CellAt K F H a c → (H a).isSome = true
  | .dead, h => h
  | .lst _, ⟨_, _, e, _⟩ => by rw [e]; rfl
  | .dct _, ⟨_, _, e, _⟩ => by rw [e]; rfl
  | .obj _ _, ⟨_, _, _, e, _⟩ => by rw [e]; rfl
theorem CellAt.dead {K : PySem.W.Frag} {F H : Hp} {a : Addr} {c : Cell} (h : CellAt K F H a c) : CellAt K F H a .dead := h.ok
/-- another frozen part, another heap, as at a -/
theorem CellAt.move {K : PySem.W.Frag} {F F' H H' : Hp} {a : Addr} (e : Ex F F') (ha : H' a = H a) (hf : F a = none → F' a = none) : ∀ {c : Cell}, CellAt K F H a c → CellAt K F' H' a c
  | .dead, h => by show (H' a).isSome = true; rw [ha]; exact h
  | .lst _, ⟨n, vs, q, r⟩ => ⟨hf n, vs, ha.trans q, r.mono e⟩
  | .dct _, ⟨n, vs, q, r⟩ => ⟨hf n, vs, ha.trans q, r.mono e⟩
  | .obj _ _, ⟨n, dx, vs, q, r⟩ => ⟨hf n, dx, vs, ha.trans q, r.mono e⟩

/-- where a body began: what was frozen, what stood, what may be changed -/
structure Anc where
  F0 : Hp
  H0 : Hp
  ft : List Addr
def keys (S : Store) : List Addr := S.map (·.1)

structure ST (K : PySem.W.Frag) (A : Anc) (F : Hp) (δ : Env) (S : Store) (σ : L2.St) (H : Hp) : Prop where
  fr : Ex F H
  a1 : Ex A.F0 F
  a2 : ∀ a o, A.H0 a = some o → a ∉ A.ft → H a = some o
  a3 : ∀ a, (F a).isSome = true → (A.F0 a).isSome = true ∨ A.H0 a = none ∨ a ∈ A.ft
  nd : (keys S).Nodup
  cell : ∀ p ∈ S, CellAt K F H p.1 p.2
  foot : ∀ p ∈ S, A.H0 p.1 = none ∨ p.1 ∈ A.ft
  env : ∀ (i : Nat) (x : X), δ[i]? = some (some x) → ∃ v, σ[i]? = some (some v) ∧ RepX K F v x
  len : δ.length = σ.length
section
variable {K : PySem.W.Frag} {A : Anc} {F F' H H' : Hp} {δ δ' : Env} {S S' : Store} {σ σ' : L2.St}
theorem mem_keys {p : Addr × Cell} (h : p ∈ S) : p.1 ∈ keys S := List.mem_map_of_mem h
theorem ST.there (st : ST K A F δ S σ H) {a : Addr} (h : a ∈ keys S) : (H a).isSome = true := by
  obtain ⟨p, hp, rfl⟩ := List.mem_map.mp h
  exact (st.cell p hp).ok
theorem ST.new (st : ST K A F δ S σ H) {p : Addr} (hp : H p = none) : p ∉ keys S := fun h => by
  have := st.there h
  rw [hp] at this; cases this
theorem ST.fresh0 (st : ST K A F δ S σ H) {p : Addr} (hp : H p = none) : A.H0 p = none ∨ p ∈ A.ft := by
  cases e : A.H0 p with
  | none => exact .inl rfl
  | some o =>
    by_cases h : p ∈ A.ft
    · exact .inr h
    · have := st.a2 p o e h
      rw [hp] at this; cases this
/-- other names -/
theorem ST.setEnv (st : ST K A F δ S σ H) (h : ∀ (i : Nat) (x : X), δ'[i]? = some (some x) → ∃ v, σ'[i]? = some (some v) ∧ RepX K F v x) (hl : δ'.length = σ'.length) : ST K A F δ' S σ' H := ⟨st.fr, st.a1, st.a2, st.a3, st.nd, st.cell, st.foot, h, hl⟩
theorem ST.store {i : Nat} {v : V} {x : X} (st : ST K A F δ S σ H) (r : RepX K F v x) : ST K A F (δ.set i (some x)) S (σ.set i (some v)) H := st.setEnv (hl := by rw [List.length_set, List.length_set]; exact st.len) fun j y e => by
  have hl := st.len
  by_cases h : i = j
  · subst h
    by_cases hi : i < δ.length
    · rw [List.getElem?_set_self hi] at e
      cases e
      exact ⟨v, by rw [List.getElem?_set_self (by omega)], r⟩
    · rw [List.getElem?_eq_none (by simpa using hi)] at e; cases e
  · rw [List.getElem?_set_ne h] at e ⊢
    exact st.env j y e
/-- a new frozen object -/
theorem ST.laid {p : Addr} {o : HO} (st : ST K A F δ S σ H) (hp : H p = none) : ST K A (upd F p o) δ S σ (upd H p o) ∧ Ex F (upd F p o) := by
  have hF : F p = none := fresh_back st.fr hp
  have eF : Ex F (upd F p o) := Ex.new hF
  refine ⟨⟨fun a u e => ?_, st.a1.trans eF, fun a u e n => ?_, fun a e => ?_, st.nd, fun q hq => ?_, st.foot, fun i x e => ?_, st.len⟩, eF⟩
  · by_cases h : a = p
    · subst h; rw [upd_same] at e ⊢; exact e
    · rw [upd_ne h] at e ⊢; exact st.fr a u e
  · have := st.a2 a u e n
    rw [upd_ne (ne_of_none this hp)]; exact this
  · by_cases h : a = p
    · subst h; exact .inr (st.fresh0 hp)
    · rw [upd_ne h] at e; exact st.a3 a e
  · have hne : q.1 ≠ p := fun z => st.new hp (by have := mem_keys hq; rw [z] at this; exact this)
    exact (st.cell q hq).move eF (upd_ne hne) fun n => by rw [upd_ne hne]; exact n
  · obtain ⟨v, h1, h2⟩ := st.env i x e
    exact ⟨v, h1, h2.mono eF⟩
/-- a new thing that may change -/
theorem ST.made {p : Addr} {o : HO} {c : Cell} (st : ST K A F δ S σ H) (hp : H p = none) (hc : CellAt K F (upd H p o) p c) : ST K A F δ (S ++ [(p, c)]) σ (upd H p o) := by
  have hF : F p = none := fresh_back st.fr hp
  refine ⟨fun a u e => ?_, st.a1, fun a u e n => ?_, st.a3, ?_, fun q hq => ?_, fun q hq => ?_, st.env, st.len⟩
  · rw [upd_ne (ne_of_none e hF)]; exact st.fr a u e
  · have := st.a2 a u e n
    rw [upd_ne (ne_of_none this hp)]; exact this
  · unfold keys
    rw [List.map_append, List.nodup_append]
    refine ⟨st.nd, by simp, fun a ha b hb => ?_⟩
    simp at hb
    subst hb
    exact fun z => st.new hp (by rw [← z]; exact ha)
  · rcases List.mem_append.mp hq with h | h
    · exact (st.cell q h).move (Ex.refl F) (upd_ne fun z => st.new hp (by have := mem_keys h; rw [z] at this; exact this)) id
    · simp at h; subst h; exact hc
  · rcases List.mem_append.mp hq with h | h
    · exact st.foot q h
    · simp at h; subst h; exact st.fresh0 hp
theorem keys_set {i : Nat} {a : Addr} {c c' : Cell} (h : S[i]? = some (a, c)) : keys (S.set i (a, c')) = keys S := by
  unfold keys
  rw [List.map_set]
  apply List.ext_getElem?
  intro j
  by_cases e : i = j
  · subst e
    have hi := (List.getElem?_eq_some_iff.mp h).1
    rw [List.getElem?_set_self (by simpa using hi), List.getElem?_map, h]; rfl
  · rw [List.getElem?_set_ne e]
/-- a change at a thing -/
theorem ST.write {i : Nat} {a : Addr} {c c' : Cell} {o : HO} (st : ST K A F δ S σ H) (h : S[i]? = some (a, c)) (hn : F a = none) (hc : CellAt K F (upd H a o) a c') : ST K A F δ (S.set i (a, c')) σ (upd H a o) := by
  have hm := List.mem_of_getElem? h
  refine ⟨fun b u e => ?_, st.a1, fun b u e n => ?_, st.a3, by rw [keys_set h]; exact st.nd, fun q hq => ?_, fun q hq => ?_, st.env, st.len⟩
  · rw [upd_ne (ne_of_none e hn)]; exact st.fr b u e
  · have hne : b ≠ a := fun z => by
      subst z
      rcases st.foot _ hm with q | q
      · rw [e] at q; cases q
      · exact n q
    rw [upd_ne hne]; exact st.a2 b u e n
  · obtain ⟨j, hj⟩ := List.getElem?_of_mem hq
    by_cases e : i = j
    · subst e
      rw [List.getElem?_set_self (List.getElem?_eq_some_iff.mp h).1] at hj
      cases hj; exact hc
    · rw [List.getElem?_set_ne e] at hj
      have hne : q.1 ≠ a := fun z => by
        have h1 : (keys S)[i]? = some a := by unfold keys; rw [List.getElem?_map, h]; rfl
        have h2 : (keys S)[j]? = some a := by unfold keys; rw [List.getElem?_map, hj, ← z]; rfl
        obtain ⟨l1, e1⟩ := List.getElem?_eq_some_iff.mp h1
        obtain ⟨l2, e2⟩ := List.getElem?_eq_some_iff.mp h2
        exact e ((List.getElem_inj st.nd).mp (e1.trans e2.symm))
      exact (st.cell q (List.mem_of_getElem? hj)).move (Ex.refl F) (upd_ne hne) id
  · have : q.1 ∈ keys (S.set i (a, c')) := mem_keys hq
    rw [keys_set h] at this
    obtain ⟨r, hr, e⟩ := List.mem_map.mp this
    rw [← e]; exact st.foot r hr
/-- what is known of things may be forgotten -/
theorem ST.forget (st : ST K A F δ (S ++ S') σ H) : ST K A F δ S σ H := ⟨st.fr, st.a1, st.a2, st.a3, by
  have := st.nd; unfold keys at this; rw [List.map_append, List.nodup_append] at this; exact this.1, fun q hq => st.cell q (List.mem_append_left _ hq), fun q hq => st.foot q (List.mem_append_left _ hq), st.env, st.len⟩
def Cell.data : Cell → Option D
  | .lst xs => (xdata xs).map D.lst
  | .dct _ => none
  | .obj C fs => (fdata fs).map (D.obj C)
  | .dead => none
/-- a thing is a datum from now on -/
theorem ST.freeze {i : Nat} {a : Addr} {c : Cell} {d : D} (st : ST K A F δ S σ H) (h : S[i]? = some (a, c)) (hd : c.data = some d) : ∃ F', Ex F F' ∧ Rep K F' (.ref a) d ∧ ST K A F' δ (S.set i (a, .dead)) σ H := by
  have hm := List.mem_of_getElem? h
  have hc := st.cell _ hm
  obtain ⟨o, ho⟩ := Option.isSome_iff_exists.mp hc.ok
  have hF : F a = none := by
    cases c with
    | dead => cases hd
    | lst xs => exact hc.1
    | dct xs => exact hc.1
    | obj C xs => exact hc.1
  have eF : Ex F (upd F a o) := Ex.new hF
  refine ⟨upd F a o, eF, ?_, ⟨fun b u e => ?_, st.a1.trans eF, st.a2, fun b e => ?_, by rw [keys_set h]; exact st.nd, fun q hq => ?_, fun q hq => ?_, fun i x e => ?_, st.len⟩⟩
  · cases c with
    | dead => cases hd
    | lst xs =>
      obtain ⟨_, vs, e, r⟩ := hc
      have ho' : H a = some o := ho
      have e' : H a = some (.lst vs) := e
      rw [e'] at ho'; cases ho'
      simp only [Cell.data, Option.map_eq_some_iff] at hd
      obtain ⟨ds, h1, rfl⟩ := hd
      exact .lst upd_same (Reps.of_xs (r.mono eF) h1)
    | dct kvs => cases hd
    | obj C fs =>
      obtain ⟨_, dx, vs, e, r⟩ := hc
      have ho' : H a = some o := ho
      have e' : H a = some (.ins C dx vs) := e
      rw [e'] at ho'; cases ho'
      simp only [Cell.data, Option.map_eq_some_iff] at hd
      obtain ⟨ds, h1, rfl⟩ := hd
      exact .obj upd_same (RepF.of_xs (r.mono eF) h1)
  · by_cases z : b = a
    · subst z; rw [upd_same] at e; cases e; exact ho
    · rw [upd_ne z] at e; exact st.fr b u e
  · by_cases z : b = a
    · subst z; exact .inr (st.foot _ hm)
    · rw [upd_ne z] at e; exact st.a3 b e
  · obtain ⟨j, hj⟩ := List.getElem?_of_mem hq
    by_cases e : i = j
    · subst e
      rw [List.getElem?_set_self (List.getElem?_eq_some_iff.mp h).1] at hj
      cases hj; exact hc.ok
    · rw [List.getElem?_set_ne e] at hj
      have hne : q.1 ≠ a := fun z => by
        have h1 : (keys S)[i]? = some a := by unfold keys; rw [List.getElem?_map, h]; rfl
        have h2 : (keys S)[j]? = some a := by unfold keys; rw [List.getElem?_map, hj, ← z]; rfl
        obtain ⟨l1, e1⟩ := List.getElem?_eq_some_iff.mp h1
        obtain ⟨l2, e2⟩ := List.getElem?_eq_some_iff.mp h2
        exact e ((List.getElem_inj st.nd).mp (e1.trans e2.symm))
      exact (st.cell q (List.mem_of_getElem? hj)).move eF rfl fun n => by rw [upd_ne hne]; exact n
  · have : q.1 ∈ keys (S.set i (a, .dead)) := mem_keys hq
    rw [keys_set h] at this
    obtain ⟨r, hr, e⟩ := List.mem_map.mp this
    rw [← e]; exact st.foot r hr
  · obtain ⟨v, h1, h2⟩ := st.env i x e
    exact ⟨v, h1, h2.mono eF⟩
/-- a dict is a datum from now on: it is locked -/
theorem ST.freezeD {i : Nat} {a : Addr} {kvs : List (Key × D)} (st : ST K A F δ S σ H) (h : S[i]? = some (a, .dct kvs)) : ∃ ws, H a = some (.dK ws) ∧ ∀ od, ∃ F', Ex F F' ∧ Rep K F' (.ref a) (.dct kvs) ∧ ST K A F' δ (S.set i (a, .dead)) σ (upd H a (.frz od (.dK ws))) := by
  have hm := List.mem_of_getElem? h
  obtain ⟨hF, ws, ho, rw'⟩ := st.cell _ hm
  have hF : F a = none := hF
  have ho : H a = some (.dK ws) := ho
  refine ⟨ws, ho, fun od => ?_⟩
  have st1 := st.write (c' := .dead) (o := .frz od (.dK ws)) h hF (by show (upd H a (.frz od (.dK ws)) a).isSome = true; rw [upd_same]; rfl)
  have eF : Ex F (upd F a (.frz od (.dK ws))) := Ex.new hF
  refine ⟨upd F a (.frz od (.dK ws)), eF, .dct upd_same (rw'.mono eF), ⟨fun b u e => ?_, st1.a1.trans eF, st1.a2, fun b e => ?_, st1.nd, fun q hq => ?_, st1.foot, fun i x e => ?_, st1.len⟩⟩
  · by_cases z : b = a
    · subst z; rw [upd_same] at e ⊢; exact e
    · rw [upd_ne z] at e; exact st1.fr b u e
  · by_cases z : b = a
    · subst z; exact .inr (st.foot _ hm)
    · rw [upd_ne z] at e; exact st1.a3 b e
  · have hc := st1.cell q hq
    by_cases z : q.1 = a
    · obtain ⟨j, hj⟩ := List.getElem?_of_mem hq
      have h1 : (keys S)[i]? = some a := by unfold keys; rw [List.getElem?_map, h]; rfl
      have h2 : (keys S)[j]? = some a := by rw [← keys_set (c' := .dead) h]; unfold keys; rw [List.getElem?_map, hj, ← z]; rfl
      obtain ⟨l1, e1⟩ := List.getElem?_eq_some_iff.mp h1
      obtain ⟨l2, e2⟩ := List.getElem?_eq_some_iff.mp h2
      have e : i = j := (List.getElem_inj st.nd).mp (e1.trans e2.symm)
      subst e
      rw [List.getElem?_set_self (List.getElem?_eq_some_iff.mp h).1] at hj
      cases hj; exact hc.ok
    · exact hc.move eF rfl fun n => by rw [upd_ne z]; exact n
  · obtain ⟨v, h1, h2⟩ := st1.env i x e
    exact ⟨v, h1, h2.mono eF⟩
end
end DP

set_option Elab.async false
set_option linter.all false
set_option maxRecDepth 100000
set_option maxHeartbeats 1000000
namespace DP
open PySem PySem.Spec PyProof.Rows L2
open Evl (Ex ex_l ex_t ex_rd fresh_back)

abbrev XQ := X → Store → Prop
abbrev XR := Exn → Env → Store → Prop
abbrev WE := Env → Store → XQ → XR → Prop
abbrev WT := Env → Store → (Bool → Store → Prop) → XR → Prop
abbrev WA := Env → Store → (List X → Store → Prop) → XR → Prop
structure DEnds where
  nx : Env → Store → Prop
  rt : XQ
  bk : Env → Store → Prop := fun _ _ => False
  ct : Env → Store → Prop := fun _ _ => False
abbrev WS := DEnds → Env → Store → XR → Prop

/-- what is wanted of an exception -/
def Link (K : PySem.W.Frag) (A : Anc) (W : WX) (E : XR) : Prop := ∀ F δ S σ H cls d x, ST K A F δ S σ H → RepE K F cls d x → E x δ S → W cls d σ H
structure LinkD (K : PySem.W.Frag) (A : Anc) (D : Ends) (Δ : DEnds) : Prop where
  nx : ∀ F δ S σ H, ST K A F δ S σ H → Δ.nx δ S → D.nx σ H
  rt : ∀ F δ S σ H v x, ST K A F δ S σ H → RepX K F v x → Δ.rt x S → D.rt v H
  bk : ∀ F δ S σ H, ST K A F δ S σ H → Δ.bk δ S → D.bk σ H
  ct : ∀ F δ S σ H, ST K A F δ S σ H → Δ.ct δ S → D.ct σ H

def RE (K : PySem.W.Frag) (W : WX) (te : TE) (w : WE) : Prop := ∀ (A : Anc) (F : Hp) (δ : Env) (S : Store) (σ : L2.St) (H : Hp) (Q : XQ) (E : XR) (Q' : VK), ST K A F δ S σ H → Link K A W E → w δ S Q E →
  (∀ F' S' H' v x, ST K A F' δ S' σ H' → Ex F F' → RepX K F' v x → Q x S' → Q' v H') → te σ H Q'
def RT (K : PySem.W.Frag) (W : WX) (te : TT) (w : WT) : Prop := ∀ (A : Anc) (F : Hp) (δ : Env) (S : Store) (σ : L2.St) (H : Hp) (Q : Bool → Store → Prop) (E : XR) (Q' : Bool → Hp → Prop), ST K A F δ S σ H → Link K A W E → w δ S Q E →
  (∀ F' S' H' b, ST K A F' δ S' σ H' → Ex F F' → Q b S' → Q' b H') → te σ H Q'
def RA (K : PySem.W.Frag) (W : WX) (te : TA) (w : WA) : Prop := ∀ (A : Anc) (F : Hp) (δ : Env) (S : Store) (σ : L2.St) (H : Hp) (Q : List X → Store → Prop) (E : XR) (Q' : List V → Hp → Prop), ST K A F δ S σ H → Link K A W E → w δ S Q E →
  (∀ F' S' H' vs xs, ST K A F' δ S' σ H' → Ex F F' → RepXs K F' vs xs → Q xs S' → Q' vs H') → te σ H Q'
def RS (K : PySem.W.Frag) (W : WX) (ts : TS) (ws : WS) : Prop := ∀ (A : Anc) (F : Hp) (δ : Env) (S : Store) (σ : L2.St) (H : Hp) (D : Ends) (Δ : DEnds) (E : XR), ST K A F δ S σ H → LinkD K A D Δ → Link K A W E → ws Δ δ S E → ts D σ H

/-- a situation's written part, told at once -/
class HasK (Y : Cx) (K : outParam PySem.W.Frag) : Prop where
  eq : Y.K = K
instance (priority := low) {Y : Cx} : HasK Y Y.K := ⟨rfl⟩
instance {CX : CXT} {P : Program} {w : World} {K : PySem.W.Frag} {mg : Str → Option Value} {base : Heap} {N : List Str} {qual : Str} {sc : Scope} {f : Addr} {cdv : Value} {A : Around} {outer : List PySem.Env} {s : Shared} {H : Hp} {E : XK} : HasK (cxOf CX P w K mg base N qual sc f cdv A outer s H E) K := ⟨rfl⟩
instance {Y : Cx} {K : PySem.W.Frag} {x : Value → Shared → Prop} [h : HasK Y K] : HasK (Y.wish x) K := ⟨h.eq⟩
instance {Y : Cx} {K : PySem.W.Frag} {s : Shared} {H : Hp} {sc : Scope} {e : PySem.Env} {fp : List Addr} [h : HasK Y K] : HasK (Y.blk s H sc e fp) K := ⟨h.eq⟩
structure FE (Y : Cx) (W : WX) (e : Expr) (te : TE) (w : WE) : Prop where
  pe : PE Y e te
  re : RE Y.K W te w
structure FT (Y : Cx) (W : WX) (e : Expr) (te : TT) (w : WT) : Prop where
  pt : PT Y e te
  re : RT Y.K W te w
structure FW (Y : Cx) (W : WX) (e : Expr) (te : TT) (w : WT) : Prop where
  pw : PW Y e te
  re : RT Y.K W te w
structure FA (Y : Cx) (W : WX) (es : List Expr) (te : TA) (w : WA) : Prop where
  pa : PA Y es te
  re : RA Y.K W te w
structure FS (Y : Cx) (W : WX) (s : Stmt) (ts : TS) (ws : WS) : Prop where
  ps : PS Y s ts
  re : RS Y.K W ts ws
structure FSs (Y : Cx) (W : WX) (s : List Stmt) (ts : TS) (ws : WS) : Prop where
  ps : PSs Y s ts
  re : RS Y.K W ts ws

/-! ### names, constants -/
def wVar (i : Nat) : WE := fun δ S Q _ => match δ[i]? with | some (some x) => Q x S | _ => False
def wC (d : D) : WE := fun _ S Q _ => Q (.d d) S
section
variable {K : PySem.W.Frag} {W : WX}
theorem re_var (i : Nat) : RE K W (tVar i) (wVar i) := fun A F δ S σ H Q E Q' st _ h k => by
  unfold wVar at h
  split at h
  · rename_i x e
    obtain ⟨v, h1, h2⟩ := st.env i x e
    exact ⟨v, h1, k F S H v x st (Ex.refl F) h2 h⟩
  · exact h.elim
theorem re_c {v : V} {d : D} (hr : ∀ F, Rep K F v d) : RE K W (tC v) (wC d) := fun A F δ S σ H Q E Q' st _ h k => k F S H v (.d d) st (Ex.refl F) (hr F) h
end
section
variable {Y : Cx} {W : WX}
theorem fv (i : Nat) {x : Str} {pos : Pos} (hN : Y.N[i]? = some x := by rfl) (hv : Vis Y.env.scope x := by first | exact Or.inl rfl | exact Or.inr (Or.inl rfl) | exact Or.inr (Or.inr rfl)) (hd : (x == ("__debug__" : Str)) = false := by decide)
    (hcd : (x == ("__classdict__" : Str)) = false := by decide) : FE Y W (.Name x pos) (tVar i) (wVar i) := ⟨pe_var hN hv hd hcd, re_var i⟩
theorem f_int {i j pos} : FE Y W (.Constant (.int i) j pos) (tC (.int i)) (wC (.int i)) := ⟨pe_int, re_c fun _ => .int i⟩
theorem f_bl {b j pos} : FE Y W (.Constant (.bool b) j pos) (tC (.bl b)) (wC (.bl b)) := ⟨pe_bl, re_c fun _ => .bl b⟩
theorem f_non {j pos} : FE Y W (.Constant .none j pos) (tC .non) (wC .non) := ⟨pe_non, re_c fun _ => .non⟩
theorem f_str {x j pos} : FE Y W (.Constant (.str x) j pos) (tC (.str x)) (wC (.str x)) := ⟨pe_str, re_c fun _ => .str x⟩
/-- a global name as a value -/
theorem f_glob {x : Str} {v : V} {u : Value} {d : D} {pos : Pos} (hg : Gl Y x) (hm : Y.mg x = some u) (r : RelV v u) (hr : ∀ F, Rep Y.K F v d) (hd : (x == ("__debug__" : Str)) = false := by decide) : FE Y W (.Name x pos) (tC v) (wC d) := ⟨pe_glob hg hm r hd, re_c hr⟩
theorem f_bltn {x : Str} {v : V} {u : Value} {d : D} {pos : Pos} (hg : Gl Y x) (hm : Y.mg x = none) (hv : bootBuiltins x = some u) (r : RelV v u) (hr : ∀ F, Rep Y.K F v d) (hn : x ≠ "__name__" := by decide) (hd : (x == ("__debug__" : Str)) = false := by decide) :
    FE Y W (.Name x pos) (tC v) (wC d) := ⟨pe_bltn hg hm hv r hn hd, re_c hr⟩
end

/-! ### operations -/
abbrev DR2 := X → X → Store → XQ → Prop
def wOp (r : DR2) (wa wb : WE) : WE := fun δ S Q E => wa δ S (fun x S1 => wb δ S1 (fun y S2 => r x y S2 Q) E) E
/-- an operation on values -/
def RR (K : PySem.W.Frag) (r2 : R2) (r : DR2) : Prop := ∀ (A : Anc) (F : Hp) (δ : Env) (S : Store) (σ : L2.St) (H : Hp) (v u : V) (x y : X) (Q : XQ) (Q' : VK), ST K A F δ S σ H → RepX K F v x → RepX K F u y → r x y S Q →
  (∀ F' S' H' v x, ST K A F' δ S' σ H' → Ex F F' → RepX K F' v x → Q x S' → Q' v H') → r2 v u H Q'
section
variable {K : PySem.W.Frag} {W : WX}
theorem re_op {r2 : R2} {r : DR2} {ta tb : TE} {wa wb : WE} (hr : RR K r2 r) (ha : RE K W ta wa) (hb : RE K W tb wb) : RE K W (tOp r2 ta tb) (wOp r wa wb) := fun A F δ S σ H Q E Q' st lk h k =>
  ha A F δ S σ H _ E _ st lk h fun F1 S1 H1 v x st1 e1 rx h1 => hb A F1 δ S1 σ H1 _ E _ st1 lk h1 fun F2 S2 H2 u y st2 e2 ry h2 =>
    hr A F2 δ S2 σ H2 v u x y Q Q' st2 (rx.mono e2) ry h2 fun F3 S3 H3 v x st3 e3 => k F3 S3 H3 v x st3 ((e1.trans e2).trans e3)
/-- a unary one -/
abbrev DR1 := X → Store → XQ → Prop
def RU1 (K : PySem.W.Frag) (r1 : V → Hp → VK → Prop) (r : DR1) : Prop := ∀ (A : Anc) (F : Hp) (δ : Env) (S : Store) (σ : L2.St) (H : Hp) (v : V) (x : X) (Q : XQ) (Q' : VK), ST K A F δ S σ H → RepX K F v x → r x S Q →
  (∀ F' S' H' v x, ST K A F' δ S' σ H' → Ex F F' → RepX K F' v x → Q x S' → Q' v H') → r1 v H Q'
def wUn (r : DR1) (wa : WE) : WE := fun δ S Q E => wa δ S (fun x S1 => r x S1 Q) E
theorem re_un {r1 : V → Hp → VK → Prop} {r : DR1} {ta : TE} {wa : WE} (hr : RU1 K r1 r) (ha : RE K W ta wa) : RE K W (tUn r1 ta) (wUn r wa) := fun A F δ S σ H Q E Q' st lk h k =>
  ha A F δ S σ H _ E _ st lk h fun F1 S1 H1 v x st1 e1 rx h1 => hr A F1 δ S1 σ H1 v x Q Q' st1 rx h1 fun F3 S3 H3 v x st3 e3 => k F3 S3 H3 v x st3 (e1.trans e3)

def dI (C : Int → Int → Prop) (g : Int → Int → D) : DR2 := fun x y S Q => match x, y with
  | .d (.int i), .d (.int j) => C i j ∧ Q (.d (g i j)) S
  | _, _ => False
theorem repd_int {F : Hp} {v : V} {i : Int} (r : RepX K F v (.d (.int i))) : v = .int i := by cases r; rfl
theorem repd_str {F : Hp} {v : V} {i : Str} (r : RepX K F v (.d (.str i))) : v = .str i := by cases r; rfl
theorem repd_bl {F : Hp} {v : V} {i : Bool} (r : RepX K F v (.d (.bl i))) : v = .bl i := by cases r; rfl
theorem rr_I {C : Int → Int → Prop} {g : Int → Int → V} {g' : Int → Int → D} (hg : ∀ F i j, Rep K F (g i j) (g' i j)) : RR K (rI C g) (dI C g') := fun A F δ S σ H v u x y Q Q' st rx ry h k => by
  unfold dI at h
  split at h
  · rename_i i j
    obtain ⟨hc, h⟩ := h
    exact ⟨i, j, repd_int rx, repd_int ry, hc, k F S H _ (.d _) st (Ex.refl F) (hg F i j) h⟩
  · exact h.elim
theorem rr_I0 {g : Int → Int → V} {g' : Int → Int → D} (hg : ∀ F i j, Rep K F (g i j) (g' i j)) : RR K (rI0 g) (dI (fun _ _ => True) g') := fun A F δ S σ H v u x y Q Q' st rx ry h k => by
  unfold dI at h
  split at h
  · rename_i i j
    exact ⟨i, j, repd_int rx, repd_int ry, k F S H _ (.d _) st (Ex.refl F) (hg F i j) h.2⟩
  · exact h.elim
end
section
variable {Y : Cx} {W : WX}
theorem f_op {f : Operator} {a b : Expr} {pos : Pos} {ta tb : TE} {wa wb : WE} {r2 : R2} {r : DR2} (ho : OpR Y (binaryOp f) r2) (hr : RR Y.K r2 r) (ha : FE Y W a ta wa) (hb : FE Y W b tb wb) : FE Y W (.BinOp a f b pos) (tOp r2 ta tb) (wOp r wa wb) := ⟨pe_op ho ha.pe hb.pe, re_op hr ha.re hb.re⟩
theorem f_cmp {f : CmpOp} {a b : Expr} {pos : Pos} {ta tb : TE} {wa wb : WE} {r2 : R2} {r : DR2} (ho : OpR Y (compareOp f) r2) (hr : RR Y.K r2 r) (ha : FE Y W a ta wa) (hb : FE Y W b tb wb) (hm : behindInMarks f b = false := by first | exact nobehind _ (by decide) (by decide) | rfl) :
    FE Y W (.Compare a [f] [b] pos) (tOp r2 ta tb) (wOp r wa wb) := ⟨pe_cmpR ho ha.pe hb.pe hm, re_op hr ha.re hb.re⟩
end
end DP

set_option Elab.async false
set_option linter.all false
set_option maxRecDepth 100000
set_option maxHeartbeats 1000000
namespace DP
open PySem PySem.Spec PyProof.Rows L2
open Evl (Ex ex_l ex_t ex_rd fresh_back)

/-! ### sequences that are read -/
def seqD : D → Option (Bool × List D)
  | .tup ds => some (true, ds)
  | .lst ds => some (false, ds)
  | .scr ds => some (false, ds)
  | _ => none
def dSeq (x : X) (S : Store) (k : List X → Prop) : Prop := match x with
  | .d d => (match seqD d with | some (_, ds) => k (ds.map X.d) | none => False)
  | .h a => ∃ (i : Nat) (xs : List X), S[i]? = some (a, .lst xs) ∧ k xs
  | .e _ _ _ _ => False
section
variable {K : PySem.W.Frag} {A : Anc} {F H : Hp} {δ : Env} {S : Store} {σ : L2.St}
theorem dSeq.ok {x : X} {k : List X → Prop} {v : V} (st : ST K A F δ S σ H) (r : RepX K F v x) (h : dSeq x S k) : ∃ p vs xs, v = .ref p ∧ (SqL K H p vs ∨ SqT K H p vs) ∧ RepXs K F vs xs ∧ k xs := by
  unfold dSeq at h
  split at h
  · split at h
    · rename_i d _ b ds e
      cases d with
      | tup es => cases e; cases r with | tup h1 h2 => exact ⟨_, _, _, rfl, .inr (ex_t st.fr h1), h2.xs, h⟩
      | lst es => cases e; cases r with | lst h1 h2 => exact ⟨_, _, _, rfl, .inl (SqL.of (st.fr _ _ h1)), h2.xs, h⟩
      | scr es => cases e; cases r with | scr h1 h2 => exact ⟨_, _, _, rfl, .inl (ex_l st.fr h1), h2.xs, h⟩
      | _ => cases e
    · exact h.elim
  · obtain ⟨i, xs, e, h⟩ := h
    obtain ⟨_, vs, hp, rr⟩ := st.cell _ (List.mem_of_getElem? e)
    exact ⟨_, vs, xs, r, .inl (SqL.of hp), rr, h⟩
  · exact h.elim
theorem RepXs.len {vs : List V} {xs : List X} (r : RepXs K F vs xs) : vs.length = xs.length := Paired.length r
theorem RepXs.atI {vs : List V} {xs : List X} {i : Int} {x : X} (r : RepXs K F vs xs) (h : atI xs i = some x) : ∃ v, L2.atI vs i = some v ∧ RepX K F v x := by
  unfold L2.atI at h ⊢
  rw [r.len]
  cases e : ixN xs.length i with
  | none => rw [e] at h; cases h
  | some j =>
    rw [e] at h
    simp only [Option.bind_some] at h ⊢
    exact r.get h
/-- the state as it is -/
theorem go {Q : XQ} {Q' : VK} {v : V} {x : X} (st : ST K A F δ S σ H) (k : ∀ F' S' H' v x, ST K A F' δ S' σ H' → Ex F F' → RepX K F' v x → Q x S' → Q' v H') (r : RepX K F v x) (q : Q x S) : Q' v H := k F S H v x st (Ex.refl F) r q
/-- a new list -/
theorem goL {Q : XQ} {Q' : VK} {p : Addr} {vs : List V} {xs : List X} (st : ST K A F δ S σ H) (k : ∀ F' S' H' v x, ST K A F' δ S' σ H' → Ex F F' → RepX K F' v x → Q x S' → Q' v H') (hp : H p = none) (r : RepXs K F vs xs)
    (q : ∀ p, Q (.h p) (S ++ [(p, .lst xs)])) : Q' (.ref p) (upd H p (.lst vs)) :=
  k F _ _ _ (.h p) (st.made (c := .lst xs) hp ⟨fresh_back st.fr hp, vs, upd_same, r⟩) (Ex.refl F) rfl (q p)
/-- a new tuple -/
theorem goT {Q : XQ} {Q' : VK} {p : Addr} {vs : List V} {ds : List D} (st : ST K A F δ S σ H) (k : ∀ F' S' H' v x, ST K A F' δ S' σ H' → Ex F F' → RepX K F' v x → Q x S' → Q' v H') (hp : H p = none) (r : Reps K F vs ds)
    (q : Q (.d (.tup ds)) S) : Q' (.ref p) (upd H p (.tup vs)) := by
  obtain ⟨st', e⟩ := st.laid (o := .tup vs) hp
  exact k _ _ _ _ (.d (.tup ds)) st' e (Rep.tup (SqT.of upd_same) (r.mono e)) q
end

/-! ### a fresh thing becomes a datum -/
def wFz (w : WE) : WE := fun δ S Q E => w δ S (fun x S1 => match x with
  | .d d => Q (.d d) S1
  | .h p => ∃ S0 c d, S1 = S0 ++ [(p, c)] ∧ c.data = some d ∧ Q (.d d) S0
  | .e _ _ _ _ => False) E
section
variable {K : PySem.W.Frag} {W : WX}
theorem re_fz {te : TE} {w : WE} (h : RE K W te w) : RE K W te (wFz w) := fun A F δ S σ H Q E Q' st lk hw k =>
  h A F δ S σ H _ E _ st lk hw fun F1 S1 H1 v x st1 e1 rx q => by
    cases x with
    | d d => exact k _ _ _ _ _ st1 e1 rx q
    | h p =>
      obtain ⟨S0, c, d, rfl, hd, q⟩ := q
      have rx : v = .ref p := rx
      subst rx
      have hi : (S0 ++ [(p, c)])[S0.length]? = some (p, c) := by simp
      obtain ⟨F2, e2, r2, st2⟩ := st1.freeze hi hd
      rw [List.set_append_right _ _ (Nat.le_refl _)] at st2
      exact k _ _ _ _ (.d d) st2.forget (e1.trans e2) r2 q
    | e _ _ _ _ => exact q.elim
theorem f_fz {Y : Cx} {e : Expr} {te : TE} {w : WE} (h : FE Y W e te w) : FE Y W e te (wFz w) := ⟨h.pe, re_fz h.re⟩
end

/-! ### arguments, displays -/
def wNil : WA := fun _ S Q _ => Q [] S
def wCons (w : WE) (r : WA) : WA := fun δ S Q E => w δ S (fun x S1 => r δ S1 (fun xs S2 => Q (x :: xs) S2) E) E
section
variable {K : PySem.W.Frag} {W : WX}
theorem ra_nil : RA K W tNil wNil := fun A F δ S σ H Q E Q' st lk h k => k F S H [] [] st (Ex.refl F) .nil h
theorem ra_cons {te : TE} {ta : TA} {w : WE} {r : WA} (h1 : RE K W te w) (h2 : RA K W ta r) : RA K W (tCons te ta) (wCons w r) := fun A F δ S σ H Q E Q' st lk h k =>
  h1 A F δ S σ H _ E _ st lk h fun F1 S1 H1 v x st1 e1 rx q1 => h2 A F1 δ S1 σ H1 _ E _ st1 lk q1 fun F2 S2 H2 vs xs st2 e2 rs q2 => k F2 S2 H2 (v :: vs) (x :: xs) st2 (e1.trans e2) (.cons (rx.mono e2) rs) q2
def wLst (r : WA) : WE := fun δ S Q E => r δ S (fun xs S1 => xs.length ≤ sizeLine ∧ ∀ p, Q (.h p) (S1 ++ [(p, .lst xs)])) E
def wTup (r : WA) : WE := fun δ S Q E => r δ S (fun xs S1 => xs.length ≤ sizeLine ∧ ∃ ds, xdata xs = some ds ∧ Q (.d (.tup ds)) S1) E
theorem re_lst {ta : TA} {r : WA} (h : RA K W ta r) : RE K W (tLst ta) (wLst r) := fun A F δ S σ H Q E Q' st lk hw k =>
  h A F δ S σ H _ E _ st lk hw fun F1 S1 H1 vs xs st1 e1 rs q => ⟨by rw [rs.len]; exact q.1, fun p hp => goL st1 (fun F' S' H' v x a b => k F' S' H' v x a (e1.trans b)) hp rs q.2⟩
theorem re_tup {ta : TA} {r : WA} (h : RA K W ta r) : RE K W (tTup ta) (wTup r) := fun A F δ S σ H Q E Q' st lk hw k =>
  h A F δ S σ H _ E _ st lk hw fun F1 S1 H1 vs xs st1 e1 rs q => ⟨by rw [rs.len]; exact q.1, fun p hp => by
    obtain ⟨_, ds, hd, q⟩ := q
    exact goT st1 (fun F' S' H' v x a b => k F' S' H' v x a (e1.trans b)) hp (Reps.of_xs rs hd) q⟩
end
section
variable {Y : Cx} {W : WX}
theorem fa_nil : FA Y W [] tNil wNil := ⟨pa_nil, ra_nil⟩
theorem fa_cons {e : Expr} {es : List Expr} {te : TE} {ta : TA} {w : WE} {r : WA} (h1 : FE Y W e te w) (h2 : FA Y W es ta r) (hs : starEach (e :: es) Y.env = (false, eval e Y.env) :: starEach es Y.env := by rfl) : FA Y W (e :: es) (tCons te ta) (wCons w r) :=
  ⟨pa_cons h1.pe h2.pa hs, ra_cons h1.re h2.re⟩
theorem f_lst {es : List Expr} {pos : Pos} {ta : TA} {r : WA} (h : FA Y W es ta r) : FE Y W (.List es pos) (tLst ta) (wLst r) := ⟨pe_lst h.pa, re_lst h.re⟩
theorem f_tup {es : List Expr} {x1} {pos : Pos} {ta : TA} {r : WA} (h : FA Y W es ta r) : FE Y W (.Tuple es x1 pos) (tTup ta) (wTup r) := ⟨pe_tup h.pa, re_tup h.re⟩
end

/-! ### tests -/
def wTest (w : WE) : WT := fun δ S Q E => w δ S (fun x S1 => match x with | .d (.bl b) => Q b S1 | _ => False) E
def wAnd (a b : WT) : WT := fun δ S Q E => a δ S (fun c S1 => if c = true then b δ S1 Q E else Q false S1) E
def wOr (a b : WT) : WT := fun δ S Q E => a δ S (fun c S1 => if c = true then Q true S1 else b δ S1 Q E) E
def wNot (a : WT) : WT := fun δ S Q E => a δ S (fun c S1 => Q (!c) S1) E
def wAndV (a b : WE) : WE := fun δ S Q E => a δ S (fun x S1 => match x with | .d (.bl c) => if c = true then b δ S1 Q E else Q (.d (.bl false)) S1 | _ => False) E
def wOrV (a b : WE) : WE := fun δ S Q E => a δ S (fun x S1 => match x with | .d (.bl c) => if c = true then Q (.d (.bl true)) S1 else b δ S1 Q E | _ => False) E
def wNotV (a : WE) : WE := fun δ S Q E => a δ S (fun x S1 => match x with | .d (.bl c) => Q (.d (.bl (!c))) S1 | _ => False) E
def wIf (t : WT) (a b : WE) : WE := fun δ S Q E => t δ S (fun c S1 => if c = true then a δ S1 Q E else b δ S1 Q E) E
section
variable {K : PySem.W.Frag} {W : WX}
theorem rt_test {te : TE} {w : WE} (h : RE K W te w) : RT K W (tTest te) (wTest w) := fun A F δ S σ H Q E Q' st lk hw k =>
  h A F δ S σ H _ E _ st lk hw fun F1 S1 H1 v x st1 e1 rx q => by
    split at q
    · exact ⟨_, repd_bl rx, k _ _ _ _ st1 e1 q⟩
    · exact q.elim
theorem rt_B {te : TE} {w : WE} (h : RE K W te w) : RT K W (tB te) (wTest w) := rt_test h
theorem rt_and {ta tb : TT} {a b : WT} (h1 : RT K W ta a) (h2 : RT K W tb b) : RT K W (tAnd ta tb) (wAnd a b) := fun A F δ S σ H Q E Q' st lk hw k =>
  h1 A F δ S σ H _ E _ st lk hw fun F1 S1 H1 c st1 e1 q => by
    cases c with
    | true => exact iteT (h2 A F1 δ S1 σ H1 Q E Q' st1 lk q fun F2 S2 H2 b st2 e2 => k F2 S2 H2 b st2 (e1.trans e2))
    | false => exact iteF (k _ _ _ _ st1 e1 q)
theorem rt_or {ta tb : TT} {a b : WT} (h1 : RT K W ta a) (h2 : RT K W tb b) : RT K W (tOr ta tb) (wOr a b) := fun A F δ S σ H Q E Q' st lk hw k =>
  h1 A F δ S σ H _ E _ st lk hw fun F1 S1 H1 c st1 e1 q => by
    cases c with
    | false => exact iteF (h2 A F1 δ S1 σ H1 Q E Q' st1 lk q fun F2 S2 H2 b st2 e2 => k F2 S2 H2 b st2 (e1.trans e2))
    | true => exact iteT (k _ _ _ _ st1 e1 q)
theorem rt_not {ta : TT} {a : WT} (h1 : RT K W ta a) : RT K W (tNot ta) (wNot a) := fun A F δ S σ H Q E Q' st lk hw k =>
  h1 A F δ S σ H _ E _ st lk hw fun F1 S1 H1 c st1 e1 q => k _ _ _ _ st1 e1 q
theorem re_andV {ta tb : TE} {a b : WE} (h1 : RE K W ta a) (h2 : RE K W tb b) : RE K W (tAndV ta tb) (wAndV a b) := fun A F δ S σ H Q E Q' st lk hw k =>
  h1 A F δ S σ H _ E _ st lk hw fun F1 S1 H1 v x st1 e1 rx q => by
    split at q
    · rename_i c
      refine ⟨c, repd_bl rx, ?_⟩
      cases c with
      | true => exact iteT (h2 A F1 δ S1 σ H1 Q E Q' st1 lk q fun F2 S2 H2 v b st2 e2 => k F2 S2 H2 v b st2 (e1.trans e2))
      | false => exact iteF (k _ _ _ _ (.d (.bl false)) st1 e1 (Rep.bl false) q)
    · exact q.elim
theorem re_orV {ta tb : TE} {a b : WE} (h1 : RE K W ta a) (h2 : RE K W tb b) : RE K W (tOrV ta tb) (wOrV a b) := fun A F δ S σ H Q E Q' st lk hw k =>
  h1 A F δ S σ H _ E _ st lk hw fun F1 S1 H1 v x st1 e1 rx q => by
    split at q
    · rename_i c
      refine ⟨c, repd_bl rx, ?_⟩
      cases c with
      | false => exact iteF (h2 A F1 δ S1 σ H1 Q E Q' st1 lk q fun F2 S2 H2 v b st2 e2 => k F2 S2 H2 v b st2 (e1.trans e2))
      | true => exact iteT (k _ _ _ _ (.d (.bl true)) st1 e1 (Rep.bl true) q)
    · exact q.elim
theorem re_notV {ta : TE} {a : WE} (h1 : RE K W ta a) : RE K W (tNotV ta) (wNotV a) := fun A F δ S σ H Q E Q' st lk hw k =>
  h1 A F δ S σ H _ E _ st lk hw fun F1 S1 H1 v x st1 e1 rx q => by
    split at q
    · rename_i c
      exact ⟨c, repd_bl rx, k _ _ _ _ (.d (.bl (!c))) st1 e1 (Rep.bl _) q⟩
    · exact q.elim
theorem re_if {tt : TT} {ta tb : TE} {t : WT} {a b : WE} (h : RT K W tt t) (h1 : RE K W ta a) (h2 : RE K W tb b) : RE K W (tIf tt ta tb) (wIf t a b) := fun A F δ S σ H Q E Q' st lk hw k =>
  h A F δ S σ H _ E _ st lk hw fun F1 S1 H1 c st1 e1 q => by
    cases c with
    | true => exact iteT (h1 A F1 δ S1 σ H1 Q E Q' st1 lk q fun F2 S2 H2 v b st2 e2 => k F2 S2 H2 v b st2 (e1.trans e2))
    | false => exact iteF (h2 A F1 δ S1 σ H1 Q E Q' st1 lk q fun F2 S2 H2 v b st2 e2 => k F2 S2 H2 v b st2 (e1.trans e2))
end
section
variable {Y : Cx} {W : WX} {a b c : Expr} {rest : List Expr} {pos : Pos} {ta tb : TE} {wa wb : WE} {tA tB' : TT} {wA wB : WT}
theorem ft_val (h : FE Y W a ta wa) (he : ∀ whole, isTrue a Y.env whole = (do let v ← whole; standAt a.pos; holding [v] (truthy v)) := by intro _; rfl) : FT Y W a (tB ta) (wTest wa) := ⟨pt_val h.pe he, rt_B h.re⟩
theorem ft_cmp {f : CmpOp} {r2 : R2} {r : DR2} (ho : OpR Y (compareOp f) r2) (hr : RR Y.K r2 r) (ha : FE Y W a ta wa) (hb : FE Y W b tb wb) (hm : behindInMarks f b = false := by first | exact nobehind _ (by decide) (by decide) | rfl) :
    FT Y W (.Compare a [f] [b] pos) (tTest (tOp r2 ta tb)) (wTest (wOp r wa wb)) := ⟨pt_cmpR ho ha.pe hb.pe hm, rt_test (re_op hr ha.re hb.re)⟩
theorem fw_and1 (h : FT Y W a tA wA) : FW Y W (.BoolOp .And [a] pos) tA wA := ⟨pw_and1 h.pt, h.re⟩
theorem fw_or1 (h : FT Y W a tA wA) : FW Y W (.BoolOp .Or [a] pos) tA wA := ⟨pw_or1 h.pt, h.re⟩
theorem fw_and (h : FT Y W a tA wA) (h2 : FW Y W (.BoolOp .And (b :: rest) pos) tB' wB) : FW Y W (.BoolOp .And (a :: b :: rest) pos) (tAnd tA tB') (wAnd wA wB) := ⟨pw_and h.pt h2.pw, rt_and h.re h2.re⟩
theorem fw_or (h : FT Y W a tA wA) (h2 : FW Y W (.BoolOp .Or (b :: rest) pos) tB' wB) : FW Y W (.BoolOp .Or (a :: b :: rest) pos) (tOr tA tB') (wOr wA wB) := ⟨pw_or h.pt h2.pw, rt_or h.re h2.re⟩
theorem FW.ft (h : FW Y W a tA wA) : FT Y W a tA wA := ⟨h.pw.pt, h.re⟩
theorem ft_not (h : FT Y W a tA wA) : FT Y W (.UnaryOp .Not a pos) (tNot tA) (wNot wA) := ⟨pt_not h.pt, rt_not h.re⟩
theorem f_one {op} (h : FE Y W a ta wa) : FE Y W (.BoolOp op [a] pos) ta wa := ⟨pe_one h.pe, h.re⟩
theorem f_and (h : FE Y W a ta wa) (h2 : FE Y W (.BoolOp .And (b :: rest) pos) tb wb) : FE Y W (.BoolOp .And (a :: b :: rest) pos) (tAndV ta tb) (wAndV wa wb) := ⟨pe_and h.pe h2.pe, re_andV h.re h2.re⟩
theorem f_or (h : FE Y W a ta wa) (h2 : FE Y W (.BoolOp .Or (b :: rest) pos) tb wb) : FE Y W (.BoolOp .Or (a :: b :: rest) pos) (tOrV ta tb) (wOrV wa wb) := ⟨pe_or h.pe h2.pe, re_orV h.re h2.re⟩
theorem f_not (h : FE Y W a ta wa) : FE Y W (.UnaryOp .Not a pos) (tNotV ta) (wNotV wa) := ⟨pe_not h.pe, re_notV h.re⟩
theorem f_if (hc : FT Y W c tA wA) (ha : FE Y W a ta wa) (hb : FE Y W b tb wb) : FE Y W (.IfExp c a b pos) (tIf tA ta tb) (wIf wA wa wb) := ⟨pe_ifExp hc.pt ha.pe hb.pe, re_if hc.re ha.re hb.re⟩
end
/-- a < b < c -/
def wChain (r r' : DR2) (wa wb wc : WE) : WE := fun δ S Q E => wa δ S (fun x S1 => wb δ S1 (fun y S2 => r x y S2 fun z S3 => match z with
  | .d (.bl k) => if k = true then wc δ S3 (fun u S4 => r' y u S4 Q) E else Q (.d (.bl false)) S3
  | _ => False) E) E
section
variable {K : PySem.W.Frag} {W : WX}
theorem re_chain {r2 r2' : R2} {r r' : DR2} {ta tb tc : TE} {wa wb wc : WE} (hr : RR K r2 r) (hr' : RR K r2' r') (ha : RE K W ta wa) (hb : RE K W tb wb) (hc : RE K W tc wc) : RE K W (tChain r2 r2' ta tb tc) (wChain r r' wa wb wc) := fun A F δ S σ H Q E Q' st lk h k =>
  ha A F δ S σ H _ E _ st lk h fun F1 S1 H1 v x st1 e1 rx h1 => hb A F1 δ S1 σ H1 _ E _ st1 lk h1 fun F2 S2 H2 u y st2 e2 ry h2 =>
    hr A F2 δ S2 σ H2 v u x y _ _ st2 (rx.mono e2) ry h2 fun F3 S3 H3 z zx st3 e3 rz q => by
      split at q
      · rename_i c
        refine ⟨c, repd_bl rz, ?_⟩
        cases c with
        | true => exact iteT (hc A F3 δ S3 σ H3 _ E _ st3 lk q fun F4 S4 H4 w' u' st4 e4 r4 q4 => hr' A F4 δ S4 σ H4 u w' y u' Q Q' st4 (ry.mono (e3.trans e4)) r4 q4 fun F5 S5 H5 v x st5 e5 => k F5 S5 H5 v x st5 ((((e1.trans e2).trans e3).trans e4).trans e5))
        | false => exact iteF (k _ _ _ _ (.d (.bl false)) st3 ((e1.trans e2).trans e3) (Rep.bl false) q)
      · exact q.elim
end
section
variable {Y : Cx} {W : WX} {a b c : Expr} {pos : Pos} {ta tb tc : TE} {wa wb wc : WE} {r2 r2' : R2} {r r' : DR2} {op op' : CmpOp}
theorem f_chain (ho : OpR Y (compareOp op) r2) (ho' : OpR Y (compareOp op') r2') (hr : RR Y.K r2 r) (hr' : RR Y.K r2' r') (ha : FE Y W a ta wa) (hb : FE Y W b tb wb) (hc : FE Y W c tc wc) (hm : lastMarks [op, op'] [b, c] = false := by with_unfolding_all rfl) :
    FE Y W (.Compare a [op, op'] [b, c] pos) (tChain r2 r2' ta tb tc) (wChain r r' wa wb wc) := ⟨pe_chain ho ho' ha.pe hb.pe hc.pe hm, re_chain hr hr' ha.re hb.re hc.re⟩
theorem ft_chain (ho : OpR Y (compareOp op) r2) (ho' : OpR Y (compareOp op') r2') (hr : RR Y.K r2 r) (hr' : RR Y.K r2' r') (ha : FE Y W a ta wa) (hb : FE Y W b tb wb) (hc : FE Y W c tc wc) (hm : lastMarks [op, op'] [b, c] = false := by with_unfolding_all rfl) :
    FT Y W (.Compare a [op, op'] [b, c] pos) (tTest (tChain r2 r2' ta tb tc)) (wTest (wChain r r' wa wb wc)) := ⟨pt_chain ho ho' ha.pe hb.pe hc.pe hm, rt_test (re_chain hr hr' ha.re hb.re hc.re)⟩
end
end DP

set_option Elab.async false
set_option linter.all false
set_option maxRecDepth 100000
set_option maxHeartbeats 1000000
namespace DP
open PySem PySem.Spec PyProof.Rows L2
open Evl (Ex ex_l ex_t ex_rd fresh_back)

/-! ### statements -/
def wNext : WS := fun Δ δ S _ => Δ.nx δ S
def wSeq (a b : WS) : WS := fun Δ δ S E => a { Δ with nx := fun δ1 S1 => b Δ δ1 S1 E } δ S E
def wDrop (w : WE) : WS := fun Δ δ S E => w δ S (fun _ S1 => Δ.nx δ S1) E
def wRet (w : WE) : WS := fun Δ δ S E => w δ S Δ.rt E
def wRetN : WS := fun Δ _ S _ => Δ.rt (.d .non) S
def wIfS (t : WT) (a b : WS) : WS := fun Δ δ S E => t δ S (fun c S1 => if c = true then a Δ δ S1 E else b Δ δ S1 E) E
def wBreak : WS := fun Δ δ S _ => Δ.bk δ S
def wCont : WS := fun Δ δ S _ => Δ.ct δ S
def wNever : WS := fun _ _ _ _ => False
section
variable {K : PySem.W.Frag} {W : WX}
theorem rs_next : RS K W tNext wNext := fun A F δ S σ H D Δ E st ld _ h => ld.nx _ _ _ _ _ st h
theorem rs_break : RS K W tBreak wBreak := fun A F δ S σ H D Δ E st ld _ h => ld.bk _ _ _ _ _ st h
theorem rs_cont : RS K W tCont wCont := fun A F δ S σ H D Δ E st ld _ h => ld.ct _ _ _ _ _ st h
theorem rs_never : RS K W tNever wNever := fun A F δ S σ H D Δ E st ld _ h => h
theorem rs_seq {t u : TS} {a b : WS} (h1 : RS K W t a) (h2 : RS K W u b) : RS K W (tSeq t u) (wSeq a b) := fun A F δ S σ H D Δ E st ld lk h =>
  h1 A F δ S σ H { D with nx := u D } { Δ with nx := fun δ1 S1 => b Δ δ1 S1 E } E st ⟨fun F1 δ1 S1 σ1 H1 st1 q => h2 A F1 δ1 S1 σ1 H1 D Δ E st1 ld lk q, ld.rt, ld.bk, ld.ct⟩ lk h
theorem rs_drop {te : TE} {w : WE} (h : RE K W te w) : RS K W (tDrop te) (wDrop w) := fun A F δ S σ H D Δ E st ld lk hw =>
  h A F δ S σ H _ E _ st lk hw fun F1 S1 H1 v x st1 _ _ q => ld.nx _ _ _ _ _ st1 q
theorem rs_ret {te : TE} {w : WE} (h : RE K W te w) : RS K W (tRet te) (wRet w) := fun A F δ S σ H D Δ E st ld lk hw =>
  h A F δ S σ H _ E _ st lk hw fun F1 S1 H1 v x st1 _ r q => ld.rt _ _ _ _ _ _ _ st1 r q
theorem rs_retN : RS K W tRetN wRetN := fun A F δ S σ H D Δ E st ld lk h => ld.rt _ _ _ _ _ _ (.d .non) st Rep.non h
theorem rs_if {tt : TT} {t u : TS} {c : WT} {a b : WS} (h : RT K W tt c) (h1 : RS K W t a) (h2 : RS K W u b) : RS K W (tIfS tt t u) (wIfS c a b) := fun A F δ S σ H D Δ E st ld lk hw =>
  h A F δ S σ H _ E _ st lk hw fun F1 S1 H1 d st1 _ q => by
    cases d with
    | true => exact iteT (h1 A F1 δ S1 σ H1 D Δ E st1 ld lk q)
    | false => exact iteF (h2 A F1 δ S1 σ H1 D Δ E st1 ld lk q)
end
section
variable {Y : Cx} {W : WX} {st : Stmt} {rest : List Stmt} {t u : TS} {a b : WS} {e : Expr} {te : TE} {w : WE} {pos : Pos}
theorem fss_nil : FSs Y W [] tNext wNext := ⟨pss_nil, rs_next⟩
theorem fss_cons (h1 : FS Y W st t a) (h2 : FSs Y W rest u b) : FSs Y W (st :: rest) (tSeq t u) (wSeq a b) := ⟨pss_cons h1.ps h2.ps, rs_seq h1.re h2.re⟩
theorem fss_one (h1 : FS Y W st t a) : FSs Y W [st] t a := ⟨pss_one h1.ps, h1.re⟩
theorem fs_pass : FS Y W (.Pass pos) tNext wNext := ⟨ps_pass, rs_next⟩
theorem fs_break : FS Y W (.Break pos) tBreak wBreak := ⟨ps_break, rs_break⟩
theorem fs_continue : FS Y W (.Continue pos) tCont wCont := ⟨ps_continue, rs_cont⟩
theorem fs_never : FS Y W st tNever wNever := ⟨ps_never, rs_never⟩
theorem fss_never {sts : List Stmt} : FSs Y W sts tNever wNever := ⟨pss_never, rs_never⟩
theorem fs_expr (he : FE Y W e te w) (hs : swapsWith e none pos.line Y.env = pure false := by rfl) : FS Y W (.Expr e pos) (tDrop te) (wDrop w) := ⟨ps_expr he.pe hs, rs_drop he.re⟩
theorem fs_ret (he : FE Y W e te w) : FS Y W (.Return (some e) pos) (tRet te) (wRet w) := ⟨ps_ret he.pe, rs_ret he.re⟩
theorem fs_retN : FS Y W (.Return none pos) tRetN wRetN := ⟨ps_retN, rs_retN⟩
theorem fs_if {c : Expr} {sa sb : List Stmt} {tc : TT} {wc : WT} (hc : FT Y W c tc wc) (ha : FSs Y W sa t a) (hb : FSs Y W sb u b) : FS Y W (.If c sa sb pos) (tIfS tc t u) (wIfS wc a b) := ⟨ps_if hc.pt ha.ps hb.ps, rs_if hc.re ha.re hb.re⟩
/-- from now on the thing in slot i is a datum -/
def wFreeze (i : Nat) (b : WS) : WS := fun Δ δ S E => match δ[i]? with
  | some (some (.h a)) => ∃ (j : Nat) (c : Cell) (d : D), S[j]? = some (a, c) ∧ c.data = some d ∧ b Δ (δ.set i (some (.d d))) (S.set j (a, .dead)) E
  | _ => b Δ δ S E
theorem rs_freeze {K : PySem.W.Frag} (i : Nat) (h : RS K W t a) : RS K W t (wFreeze i a) := fun A F δ S σ H D Δ E st ld lk hw => by
  unfold wFreeze at hw
  split at hw
  · rename_i x e
    obtain ⟨j, c, d, h1, h2, h3⟩ := hw
    obtain ⟨v, hv, rv⟩ := st.env i _ e
    have rv : v = .ref x := rv
    subst rv
    obtain ⟨F1, e1, r1, st1⟩ := st.freeze h1 h2
    refine h A F1 _ _ σ H D Δ E (st1.setEnv (fun k y e' => ?_) (by rw [List.length_set]; exact st.len)) ld lk h3
    by_cases z : i = k
    · subst z
      rw [List.getElem?_set_self (List.getElem?_eq_some_iff.mp e).1] at e'
      cases e'
      exact ⟨_, hv, r1⟩
    · rw [List.getElem?_set_ne z] at e'
      exact st1.env k y e'
  · exact h A F δ S σ H D Δ E st ld lk hw
theorem fss_freeze {sts : List Stmt} {i : Nat} (h : FSs Y W sts t a) : FSs Y W sts t (wFreeze i a) := ⟨h.ps, rs_freeze i h.re⟩
/-- what is known of things from place n on is forgotten -/
def wForget (n : Nat) (b : WS) : WS := fun Δ δ S E => b Δ δ (S.take n) E
theorem rs_forget {K : PySem.W.Frag} (n : Nat) (h : RS K W t a) : RS K W t (wForget n a) := fun A F δ S σ H D Δ E st ld lk hw =>
  h A F δ _ σ H D Δ E (ST.forget (S' := S.drop n) (by rw [List.take_append_drop]; exact st)) ld lk hw
theorem fss_forget {sts : List Stmt} {n : Nat} (h : FSs Y W sts t a) : FSs Y W sts t (wForget n a) := ⟨h.ps, rs_forget n h.re⟩
end

/-! ### targets -/
abbrev DTg := X → Env → Store → (Env → Store → Prop) → Prop
abbrev DTgs := List X → Env → Store → (Env → Store → Prop) → Prop
/-- only the slots ws are written -/
def Wr (ws : List Nat) (σ σ' : L2.St) : Prop := ∀ vs : List Nat, (∀ i ∈ ws, i ∈ vs) → wipe σ' vs = wipe σ vs
theorem Wr.refl {ws : List Nat} {σ : L2.St} : Wr ws σ σ := fun _ _ => rfl
theorem Wr.trans {ws ws' : List Nat} {σ σ1 σ2 : L2.St} (a : Wr ws σ σ1) (b : Wr ws' σ1 σ2) : Wr (ws ++ ws') σ σ2 := fun vs h => (b vs fun i hi => h i (List.mem_append_right _ hi)).trans (a vs fun i hi => h i (List.mem_append_left _ hi))
theorem wipe_get (σ : L2.St) (j : Nat) : ∀ vs : List Nat, (wipe σ vs)[j]? = if j ∈ vs then (if j < σ.length then some none else none) else σ[j]?
  | [] => by simp [wipe]
  | v :: vs => by
    unfold wipe
    by_cases h : v = j
    · subst h
      by_cases hl : v < σ.length
      · rw [List.getElem?_set_self (by rw [wipe_length]; exact hl)]; simp [hl]
      · rw [List.getElem?_eq_none (by rw [List.length_set, wipe_length]; omega)]; simp [hl]
    · rw [List.getElem?_set_ne h, wipe_get σ j vs]
      simp [Ne.symm h]
theorem Wr.name {i : Nat} {σ : L2.St} {o : Option V} : Wr [i] σ (σ.set i o) := fun vs h => by
  apply List.ext_getElem?
  intro j
  rw [wipe_get, wipe_get, List.length_set]
  by_cases hj : j ∈ vs
  · simp [hj]
  · have : i ≠ j := fun e => hj (e ▸ h i List.mem_cons_self)
    rw [if_neg hj, if_neg hj, List.getElem?_set_ne this]
theorem wipe_wipe (σ : L2.St) (vs : List Nat) : wipe (wipe σ vs) vs = wipe σ vs := by
  apply List.ext_getElem?
  intro j
  rw [wipe_get, wipe_get, wipe_length]
  by_cases hj : j ∈ vs <;> simp [hj]
def RG (K : PySem.W.Frag) (g : TG) (dg : DTg) (ws : List Nat) : Prop := ∀ (A : Anc) (F : Hp) (δ : Env) (S : Store) (σ : L2.St) (H : Hp) (v : V) (x : X) (Q : Env → Store → Prop) (Q' : L2.St → Hp → Prop), ST K A F δ S σ H → RepX K F v x → dg x δ S Q →
  (∀ F' δ' S' σ' H', ST K A F' δ' S' σ' H' → Ex F F' → Wr ws σ σ' → Q δ' S' → Q' σ' H') → g v σ H Q'
def RGs (K : PySem.W.Frag) (g : TGs) (dg : DTgs) (ws : List Nat) : Prop := ∀ (A : Anc) (F : Hp) (δ : Env) (S : Store) (σ : L2.St) (H : Hp) (vs : List V) (xs : List X) (Q : Env → Store → Prop) (Q' : L2.St → Hp → Prop), ST K A F δ S σ H → RepXs K F vs xs → dg xs δ S Q →
  (∀ F' δ' S' σ' H', ST K A F' δ' S' σ' H' → Ex F F' → Wr ws σ σ' → Q δ' S' → Q' σ' H') → g vs σ H Q'
structure FG (Y : Cx) (e : Expr) (g : TG) (dg : DTg) (ws : List Nat) : Prop where
  pg : PG Y e g
  re : RG Y.K g dg ws
structure FGs (Y : Cx) (es : List Expr) (g : TGs) (dg : DTgs) (ws : List Nat) : Prop where
  pg : PGs Y es g
  re : RGs Y.K g dg ws
def dName (i : Nat) : DTg := fun x δ S Q => Q (δ.set i (some x)) S
def dNil : DTgs := fun xs δ S Q => match xs with | [] => Q δ S | _ => False
def dCons (g : DTg) (r : DTgs) : DTgs := fun xs δ S Q => match xs with | x :: xs => g x δ S fun δ1 S1 => r xs δ1 S1 Q | _ => False
def dTup (n : Nat) (r : DTgs) : DTg := fun x δ S Q => match x with | .d (.tup ds) => ds.length = n ∧ r (ds.map X.d) δ S Q | _ => False
section
variable {K : PySem.W.Frag}
theorem rg_name {i : Nat} : RG K (gName i) (dName i) [i] := fun A F δ S σ H v x Q Q' st r h k => k F _ S _ H (st.store r) (Ex.refl F) Wr.name h
theorem rgs_nil : RGs K gNil dNil [] := fun A F δ S σ H vs xs Q Q' st r h k => by
  cases r with
  | nil => exact ⟨rfl, k F δ S σ H st (Ex.refl F) Wr.refl h⟩
  | cons _ _ => exact h.elim
theorem rgs_cons {g : TG} {gs : TGs} {dg : DTg} {dgs : DTgs} {w1 w2 : List Nat} (h1 : RG K g dg w1) (h2 : RGs K gs dgs w2) : RGs K (gCons g gs) (dCons dg dgs) (w1 ++ w2) := fun A F δ S σ H vs xs Q Q' st r h k => by
  cases r with
  | nil => exact h.elim
  | cons r rr => exact ⟨_, _, rfl, h1 A F δ S σ H _ _ _ _ st r h fun F1 δ1 S1 σ1 H1 st1 e1 r1 q => h2 A F1 δ1 S1 σ1 H1 _ _ Q Q' st1 (RepXs.mono e1 rr) q fun F2 δ2 S2 σ2 H2 st2 e2 r2 => k F2 δ2 S2 σ2 H2 st2 (e1.trans e2) (r1.trans r2)⟩
theorem rg_tup {gs : TGs} {dgs : DTgs} {n : Nat} {ws : List Nat} (h : RGs K gs dgs ws) : RG K (gTup K n gs) (dTup n dgs) ws := fun A F δ S σ H v x Q Q' st r hw k => by
  unfold dTup at hw
  split at hw
  · rename_i ds
    cases r with
    | tup h1 h2 => exact ⟨_, _, rfl, ex_t st.fr h1, h2.len.trans hw.1, h A F δ S σ H _ _ Q Q' st h2.xs hw.2 k⟩
  · exact hw.elim
end
section
variable {Y : Cx} {pos : Pos}
theorem fg_name {i : Nat} {x : Str} (hN : Y.N.Nodup) (hi : Y.N[i]? = some x := by rfl) (hx : Loc Y.env.scope x := by first | exact Or.inl rfl | exact Or.inr rfl) (hf : Y.fn x = true ∨ Y.env.scope.names.lookup x = some .local := by first | exact .inl rfl | exact .inr rfl | assumption) :
    FG Y (.Name x pos) (gName i) (dName i) [i] := ⟨pg_name hN hi hx hf, rg_name⟩
theorem fgs_nil : FGs Y [] gNil dNil [] := ⟨pgs_nil, rgs_nil⟩
theorem fgs_cons {e : Expr} {es : List Expr} {t : TG} {u : TGs} {dg : DTg} {dgs : DTgs} {w1 w2 : List Nat} (h1 : FG Y e t dg w1) (h2 : FGs Y es u dgs w2)
    (hs : (assignEach (e :: es) Y.env).map (·.2) = assign e Y.env :: (assignEach es Y.env).map (·.2) := by rfl) : FGs Y (e :: es) (gCons t u) (dCons dg dgs) (w1 ++ w2) := ⟨pgs_cons h1.pg h2.pg hs, rgs_cons h1.re h2.re⟩
theorem fg_tup {K0 : PySem.W.Frag} [hKK : HasK Y K0] {es : List Expr} {k : Nat} {t : TGs} {dgs : DTgs} {n : Nat} {ws : List Nat} (hc : Y.calm = true) (h : FGs Y es t dgs ws) (hn : (assignEach es Y.env).length = n := by rfl) (hst : (assignEach es Y.env).findIdx? (·.1) = none := by rfl) :
    FG Y (.Tuple es k pos) (gTup K0 n t) (dTup n dgs) ws := by
  obtain ⟨rfl⟩ := hKK
  exact ⟨pg_tup hc h.pg hn hst, rg_tup h.re⟩
end

/-! ### assignments -/
def wAsg (w : WE) (dg : DTg) : WS := fun Δ δ S E => w δ S (fun x S1 => dg x δ S1 Δ.nx) E
section
variable {K : PySem.W.Frag} {W : WX}
theorem rs_asg {te : TE} {g : TG} {w : WE} {dg : DTg} {ws : List Nat} (h : RE K W te w) (hg : RG K g dg ws) : RS K W (tAsg te g) (wAsg w dg) := fun A F δ S σ H D Δ E st ld lk hw =>
  h A F δ S σ H _ E _ st lk hw fun F1 S1 H1 v x st1 _ r q => hg A F1 δ S1 σ H1 v x _ _ st1 r q fun F2 δ2 S2 σ2 H2 st2 _ _ q2 => ld.nx _ _ _ _ _ st2 q2
def wPar (i j : Nat) (r : WA) : WS := fun Δ δ S E => r δ S (fun xs S1 => match xs with | [x, y] => Δ.nx ((δ.set i (some x)).set j (some y)) S1 | _ => False) E
theorem rs_par {i j : Nat} {ta : TA} {r : WA} (h : RA K W ta r) : RS K W (tPar i j ta) (wPar i j r) := fun A F δ S σ H D Δ E st ld lk hw =>
  h A F δ S σ H _ E _ st lk hw fun F1 S1 H1 vs xs st1 _ rs q => by
    split at q
    · cases rs with
      | cons r1 rr =>
        cases rr with
        | cons r2 rr =>
          cases rr
          exact ⟨_, _, rfl, ld.nx _ _ _ _ _ ((st1.store r1).store r2) q⟩
    · exact q.elim
abbrev DSet := X → X → X → Store → (Store → Prop) → Prop
def RSet (K : PySem.W.Frag) (t : TSet) (d : DSet) : Prop := ∀ (A : Anc) (F : Hp) (δ : Env) (S : Store) (σ : L2.St) (H : Hp) (vo vi v : V) (o i x : X) (Q : Store → Prop) (Q' : Hp → Prop), ST K A F δ S σ H → RepX K F vo o → RepX K F vi i → RepX K F v x → d o i x S Q →
  (∀ F' S' H', ST K A F' δ S' σ H' → Ex F F' → Q S' → Q' H') → t vo vi v H Q'
def wSub (w wo wi : WE) (d : DSet) : WS := fun Δ δ S E => w δ S (fun x S1 => wo δ S1 (fun o S2 => wi δ S2 (fun i S3 => d o i x S3 (Δ.nx δ)) E) E) E
theorem rs_sub {te to ti : TE} {w wo wi : WE} {t : TSet} {d : DSet} (h : RE K W te w) (ho : RE K W to wo) (hi : RE K W ti wi) (hs : RSet K t d) : RS K W (tAsg te (gSub to ti t)) (wSub w wo wi d) := fun A F δ S σ H D Δ E st ld lk hw =>
  h A F δ S σ H _ E _ st lk hw fun F1 S1 H1 v x st1 e1 r q => ho A F1 δ S1 σ H1 _ E _ st1 lk q fun F2 S2 H2 vo o st2 e2 r2 q2 => hi A F2 δ S2 σ H2 _ E _ st2 lk q2 fun F3 S3 H3 vi i st3 e3 r3 q3 =>
    hs A F3 δ S3 σ H3 vo vi v o i x _ _ st3 (r2.mono e3) r3 (r.mono (e2.trans e3)) q3 fun F4 S4 H4 st4 _ q4 => ld.nx _ _ _ _ _ st4 q4
/-- name op= e -/
def wAug (i : Nat) (w : WE) (r : DR2) : WS := fun Δ δ S E => match δ[i]? with
  | some (some x) => w δ S (fun y S1 => r x y S1 fun z S2 => Δ.nx (δ.set i (some z)) S2) E
  | _ => False
theorem rs_aug {i : Nat} {te : TE} {w : WE} {ti : TIp} {r : DR2} (h : RE K W te w) (hr : RR K ti r) : RS K W (tAug i te ti) (wAug i w r) := fun A F δ S σ H D Δ E st ld lk hw => by
  unfold wAug at hw
  split at hw
  · rename_i x e
    obtain ⟨v, h1, h2⟩ := st.env i x e
    exact ⟨v, h1, h A F δ S σ H _ E _ st lk hw fun F1 S1 H1 u y st1 e1 ry q => hr A F1 δ S1 σ H1 v u x y _ _ st1 (h2.mono e1) ry q fun F2 S2 H2 z zx st2 e2 rz q2 => ld.nx _ _ _ _ _ (st2.store rz) q2⟩
  · exact hw.elim
end
section
variable {Y : Cx} {W : WX} {e : Expr} {te : TE} {w : WE} {pos : Pos}
theorem fs_set {i : Nat} {x : Str} {pos' : Pos} (hN : Y.N.Nodup) (he : FE Y W e te w) (hi : Y.N[i]? = some x := by rfl) (hx : Loc Y.env.scope x := by first | exact Or.inl rfl | exact Or.inr rfl) (hs : swapsWith e (some (.Name x pos')) pos.line Y.env = pure false := by rfl)
    (hf : Y.fn x = true ∨ Y.env.scope.names.lookup x = some .local := by first | exact .inl rfl | exact .inr rfl | assumption) : FS Y W (.Assign [.Name x pos'] e pos) (tAsg te (gName i)) (wAsg w (dName i)) := ⟨ps_set hN hi hx he.pe hs hf, rs_asg he.re rg_name⟩
theorem fs_asg {tg : Expr} {g : TG} {dg : DTg} {ws : List Nat} (he : FE Y W e te w) (hg : FG Y tg g dg ws) (hs : swapsWithSole [tg] e pos.line Y.env = pure false := by rfl) (hw : swappedStores [tg] e Y.env = pure none := by rfl)
    (h1 : (assignEach [tg] Y.env).map (·.2) = [assign tg Y.env] := by rfl) : FS Y W (.Assign [tg] e pos) (tAsg te g) (wAsg w dg) := ⟨ps_asg he.pe hg.pg hs hw h1, rs_asg he.re hg.re⟩
theorem fs_par {i j : Nat} {x y : Str} {a b : Expr} {ta : TA} {wa : WA} {px py pt : Pos} {kt k2 pt2} (hc : Y.calm = true) (hN : Y.N.Nodup) (ha : FA Y W [a, b] ta wa) (hi : Y.N[i]? = some x := by rfl) (hj : Y.N[j]? = some y := by rfl) (hij : i ≠ j := by decide)
    (hx : Y.env.scope.names.lookup x = some .local := by rfl) (hy : Y.env.scope.names.lookup y = some .local := by rfl)
    (hw : swappedStores [.Tuple [.Name x px, .Name y py] kt pt] (.Tuple [a, b] k2 pt2) Y.env = pure (some [x, y]) := by rfl)
    (hs : swapsWithSole [.Tuple [.Name x px, .Name y py] kt pt] (.Tuple [a, b] k2 pt2) pos.line Y.env = pure false := by rfl) :
    FS Y W (.Assign [.Tuple [.Name x px, .Name y py] kt pt] (.Tuple [a, b] k2 pt2) pos) (tPar i j ta) (wPar i j wa) := ⟨ps_par hc hN hi hj hij hx hy ha.pa hw hs, rs_par ha.re⟩
theorem fs_sub {o ix : Expr} {to ti : TE} {wo wi : WE} {t : TSet} {d : DSet} {spos : Pos} (he : FE Y W e te w) (ho : FE Y W o to wo) (hi : FE Y W ix ti wi) (hs : PSet Y t) (hd : RSet Y.K t d)
    (ha : ∀ v, assign (.Subscript o ix spos) Y.env v = (do
      let ov ← holding [v] (eval o Y.env)
      let iv ← holding [v, ov] (eval ix Y.env)
      standAt spos
      holding [v, ov, iv] (setItem ov iv v)
      release [v, ov, iv] []) := by intro _; rfl)
    (hs0 : swapsWithSole [.Subscript o ix spos] e pos.line Y.env = pure false := by rfl) (hw : swappedStores [.Subscript o ix spos] e Y.env = pure none := by rfl)
    (h1 : (assignEach [.Subscript o ix spos] Y.env).map (·.2) = [assign (.Subscript o ix spos) Y.env] := by rfl) : FS Y W (.Assign [.Subscript o ix spos] e pos) (tAsg te (gSub to ti t)) (wSub w wo wi d) :=
  ⟨ps_asg he.pe (pg_sub ho.pe hi.pe hs ha) hs0 hw h1, rs_sub he.re ho.re hi.re hd⟩
theorem fs_aug {i : Nat} {x : Str} {op : Operator} {ti : TIp} {r : DR2} {pos' : Pos} (hN : Y.N.Nodup) (he : FE Y W e te w) (ho : PIp Y op ti) (hr : RR Y.K ti r) (hi : Y.N[i]? = some x := by rfl) (hx : Loc Y.env.scope x := by first | exact Or.inl rfl | exact Or.inr rfl)
    (hf : Y.fn x = true ∨ Y.env.scope.names.lookup x = some .local := by first | exact .inl rfl | exact .inr rfl | assumption) : FS Y W (.AugAssign (.Name x pos') op e pos) (tAug i te ti) (wAug i w r) := ⟨ps_aug hN hi hx he.pe ho hf, rs_aug he.re hr⟩
end

/-! ### walks -/
structure Walk (K : PySem.W.Frag) (J : It) (F1 : Hp) (xs : List X) : Prop where
  go : ∀ (i : Nat) (F H : Hp), i < xs.length → Ex F1 F → Ex F H → J.go i H
  yld : ∀ (i : Nat) (F H : Hp) (v : V) (H' : Hp) (x : X), xs[i]? = some x → Ex F1 F → Ex F H → J.yld i H v H' → ∃ F', ((F' = F ∧ H' = H) ∨ ∃ p o, H p = none ∧ F' = upd F p o ∧ H' = upd H p o) ∧ RepX K F' v x
  stop : ∀ (F H : Hp), Ex F1 F → Ex F H → J.stop xs.length H
abbrev WI := Env → Store → (List X → Store → Prop) → XR → Prop
def RI (K : PySem.W.Frag) (W : WX) (wi : TI) (wit : WI) : Prop := ∀ (A : Anc) (F : Hp) (δ : Env) (S : Store) (σ : L2.St) (H : Hp) (R : List X → Store → Prop) (E : XR) (R' : It → Hp → Prop), ST K A F δ S σ H → Link K A W E → wit δ S R E →
  (∀ F1 S1 H1 xs J, ST K A F1 δ S1 σ H1 → Ex F F1 → Walk K J F1 xs → R xs S1 → R' J H1) → wi σ H R'
structure FI (Y : Cx) (W : WX) (tg iter : Expr) (wi : TI) (wit : WI) : Prop where
  pi : PI Y tg iter wi
  re : RI Y.K W wi wit
def loopD (dg : DTg) (wb : WS) (Δ : DEnds) (E : XR) : List X → Env → Store → Prop
  | [], δ, S => Δ.nx δ S
  | x :: xs, δ, S => dg x δ S fun δ1 S1 => wb ⟨fun δ2 S2 => loopD dg wb Δ E xs δ2 S2, Δ.rt, Δ.nx, fun δ2 S2 => loopD dg wb Δ E xs δ2 S2⟩ δ1 S1 E
def wFor (wi : WI) (dg : DTg) (wb : WS) : WS := fun Δ δ S E => wi δ S (fun xs S1 => loopD dg wb Δ E xs δ S1) E
def whileD (wt : WT) (wb : WS) (Δ : DEnds) (E : XR) : Nat → Env → Store → Prop
  | 0, _, _ => False
  | n + 1, δ, S => wt δ S (fun b S1 => if b = true then wb ⟨fun δ2 S2 => whileD wt wb Δ E n δ2 S2, Δ.rt, Δ.nx, fun δ2 S2 => whileD wt wb Δ E n δ2 S2⟩ δ S1 E else Δ.nx δ S1) E
def wWhile (wt : WT) (wb : WS) : WS := fun Δ δ S E => ∃ n, whileD wt wb Δ E n δ S
/-- a later beginning -/
def Anc.at (A : Anc) (F : Hp) : Anc := { A with F0 := F }
section
variable {K : PySem.W.Frag} {W : WX} {A : Anc} {F F1 H : Hp} {δ : Env} {S : Store} {σ : L2.St}
theorem ST.begin (st : ST K A F δ S σ H) : ST K (A.at F) F δ S σ H := ⟨st.fr, Ex.refl F, st.a2, fun a h => .inl h, st.nd, st.cell, st.foot, st.env, st.len⟩
theorem ST.back (st : ST K (A.at F1) F δ S σ H) {δ1 : Env} {S1 : Store} {σ1 : L2.St} {H1 : Hp} (st1 : ST K A F1 δ1 S1 σ1 H1) : ST K A F δ S σ H := ⟨st.fr, st1.a1.trans st.a1, st.a2, fun a h => by
  rcases st.a3 a h with z | z
  · exact st1.a3 a z
  · exact .inr z, st.nd, st.cell, st.foot, st.env, st.len⟩
theorem Walk.step {J : It} {xs : List X} (w : Walk K J F1 xs) (st : ST K (A.at F1) F δ S σ H) {i : Nat} {v : V} {H' : Hp} {x : X} (hx : xs[i]? = some x) (hy : J.yld i H v H') : ∃ F', ST K (A.at F1) F' δ S σ H' ∧ RepX K F' v x := by
  obtain ⟨F', h, r⟩ := w.yld i F H v H' x hx st.a1 st.fr hy
  rcases h with ⟨rfl, rfl⟩ | ⟨p, o, hp, rfl, rfl⟩
  · exact ⟨_, st, r⟩
  · exact ⟨_, (st.laid hp).1, r⟩
theorem rs_for {wi : TI} {wit : WI} {g : TG} {dg : DTg} {tb : TS} {wb : WS} {ws : List Nat} (hi : RI K W wi wit) (hg : RG K g dg ws) (hb : RS K W tb wb) : RS K W (tFor wi g tb) (wFor wit dg wb) := fun A F δ S σ H D Δ E st ld lk hw =>
  hi A F δ S σ H _ E _ st lk hw fun F1 S1 H1 xs J st1 _ wk q => by
    have lk' : Link K (A.at F1) W E := fun F δ S σ H cls d x s2 r e => lk F δ S σ H cls d x (s2.back st1) r e
    refine ⟨fun i m σ H => m = xs.length - i ∧ i ≤ xs.length ∧ ∃ F δ S, ST K (A.at F1) F δ S σ H ∧ loopD dg wb Δ E (xs.drop i) δ S, ⟨_, rfl, Nat.zero_le _, F1, δ, S1, st1.begin, q⟩, ?_⟩
    rintro i m σ2 H2 ⟨rfl, hle, F2, δ2, S2, st2, q2⟩
    by_cases hlt : i < xs.length
    · refine .inr ⟨wk.go i F2 H2 hlt st2.a1 st2.fr, fun σ' H' => ∃ F δ S, ST K (A.at F1) F δ S σ' H' ∧ loopD dg wb Δ E (xs.drop (i + 1)) δ S, fun σ' H' z => ⟨_, by omega, rfl, hlt, z⟩, fun v H' hy => ?_⟩
      have hx : xs[i]? = some xs[i] := List.getElem?_eq_getElem hlt
      obtain ⟨F3, st3, r3⟩ := wk.step st2 hx hy
      rw [List.drop_eq_getElem_cons hlt] at q2
      refine hg _ F3 δ2 S2 σ2 H' v _ _ _ st3 r3 q2 fun F4 δ4 S4 σ4 H4 st4 _ _ q4 => ?_
      refine hb _ F4 δ4 S4 σ4 H4 _ ⟨fun δ2 S2 => loopD dg wb Δ E (xs.drop (i + 1)) δ2 S2, Δ.rt, Δ.nx, fun δ2 S2 => loopD dg wb Δ E (xs.drop (i + 1)) δ2 S2⟩ E st4 ⟨fun F5 δ5 S5 σ5 H5 st5 q5 => ⟨F5, δ5, S5, st5, q5⟩, fun F5 δ5 S5 σ5 H5 v5 x5 st5 r5 q5 => ld.rt _ _ _ _ _ _ _ (st5.back st1) r5 q5, fun F5 δ5 S5 σ5 H5 st5 q5 => ld.nx _ _ _ _ _ (st5.back st1) q5, fun F5 δ5 S5 σ5 H5 st5 q5 => ⟨F5, δ5, S5, st5, q5⟩⟩ lk' q4
    · have e : i = xs.length := by omega
      subst e
      rw [List.drop_length] at q2
      exact .inl ⟨wk.stop F2 H2 st2.a1 st2.fr, ld.nx _ _ _ _ _ (st2.back st1) q2⟩
theorem rs_while {tt : TT} {wt : WT} {tb : TS} {wb : WS} (ht : RT K W tt wt) (hb : RS K W tb wb) : RS K W (tWhile tt tb) (wWhile wt wb) := fun A F δ S σ H D Δ E st ld lk hw => by
  obtain ⟨n, hw⟩ := hw
  refine ⟨fun m σ H => ∃ F δ S, ST K A F δ S σ H ∧ whileD wt wb Δ E m δ S, ⟨n, F, δ, S, st, hw⟩, ?_⟩
  rintro m σ2 H2 ⟨F2, δ2, S2, st2, q2⟩
  cases m with
  | zero => exact q2.elim
  | succ m =>
    refine ht A F2 δ2 S2 σ2 H2 _ E _ st2 lk q2 fun F3 S3 H3 b st3 _ q3 => ?_
    cases b with
    | true =>
      refine iteT ⟨fun σ' H' => ∃ F δ S, ST K A F δ S σ' H' ∧ whileD wt wb Δ E m δ S, fun σ' H' z => ⟨m, Nat.lt_succ_self m, z⟩, ?_⟩
      exact hb A F3 δ2 S3 σ2 H3 _ ⟨fun δ2 S2 => whileD wt wb Δ E m δ2 S2, Δ.rt, Δ.nx, fun δ2 S2 => whileD wt wb Δ E m δ2 S2⟩ E st3 ⟨fun F5 δ5 S5 σ5 H5 st5 q5 => ⟨F5, δ5, S5, st5, q5⟩, ld.rt, ld.nx, fun F5 δ5 S5 σ5 H5 st5 q5 => ⟨F5, δ5, S5, st5, q5⟩⟩ lk q3
    | false => exact iteF (ld.nx _ _ _ _ _ st3 q3)
end
section
variable {Y : Cx} {W : WX} {tg iter : Expr} {body : List Stmt} {wi : TI} {wit : WI} {g : TG} {dg : DTg} {tb : TS} {wb : WS} {pos : Pos}
theorem fs_for {ws : List Nat} (hp : PassesOwn (model Y.prog Y.w) Y.A Y.env Y.xe) (hc : Y.calm = true) (hi : FI Y W tg iter wi wit) (hg : FG Y tg g dg ws) (hb : FSs Y W body tb wb) (hs : ∀ x, foldedSetIterable iter Y.env x = pure x := by intro _; rfl) :
    FS Y W (.For tg iter body [] pos) (tFor wi g tb) (wFor wit dg wb) := ⟨ps_for hp hc hi.pi hg.pg hb.ps hs, rs_for hi.re hg.re hb.re⟩
theorem fs_while {c : Expr} {tc : TT} {wt : WT} (hp : PassesOwn (model Y.prog Y.w) Y.A Y.env Y.xe) (hc : FT Y W c tc wt) (hb : FSs Y W body tb wb) : FS Y W (.While c body [] pos) (tWhile tc tb) (wWhile wt wb) := ⟨ps_while hp hc.pt hb.ps, rs_while hc.re hb.re⟩
end
end DP

set_option Elab.async false
set_option linter.all false
set_option maxRecDepth 100000
set_option maxHeartbeats 1000000
namespace DP
open PySem PySem.Spec PyProof.Rows L2
open Evl (Ex ex_l ex_t ex_rd fresh_back)

/-! ### ints -/
abbrev dAdd : DR2 := dI (fun _ _ => True) fun i j => .int (i + j)
abbrev dSub : DR2 := dI (fun _ _ => True) fun i j => .int (i - j)
abbrev dMul : DR2 := dI CMulW fun i j => .int (i * j)
abbrev dFdiv : DR2 := dI CDiv fun i j => .int (i / j)
abbrev dMod : DR2 := dI (fun _ j => 0 < j) fun i j => .int (i % j)
abbrev dPow : DR2 := dI CPow fun i j => .int (i ^ j.toNat)
abbrev dLt : DR2 := dI (fun _ _ => True) fun i j => .bl (decide (i < j))
abbrev dLe : DR2 := dI (fun _ _ => True) fun i j => .bl (decide (i ≤ j))
abbrev dGt : DR2 := dI (fun _ _ => True) fun i j => .bl (decide (j < i))
abbrev dGe : DR2 := dI (fun _ _ => True) fun i j => .bl (decide (j ≤ i))
section
variable {Y : Cx} {W : WX} {a b : Expr} {pos : Pos} {ta tb : TE} {wa wb : WE} {K : PySem.W.Frag}
theorem rrI {C : Int → Int → Prop} {g : Int → Int → Int} : RR K (rI C fun i j => .int (g i j)) (dI C fun i j => .int (g i j)) := rr_I fun _ i j => .int (g i j)
theorem rrI0 {g : Int → Int → Int} : RR K (rI0 fun i j => .int (g i j)) (dI (fun _ _ => True) fun i j => .int (g i j)) := rr_I0 fun _ i j => .int (g i j)
theorem rrB0 {g : Int → Int → Bool} : RR K (rI0 fun i j => .bl (g i j)) (dI (fun _ _ => True) fun i j => .bl (g i j)) := rr_I0 fun _ i j => .bl (g i j)
theorem f_add (ha : FE Y W a ta wa) (hb : FE Y W b tb wb) : FE Y W (.BinOp a .Add b pos) (tOp (rI0 fun i j => .int (i + j)) ta tb) (wOp dAdd wa wb) := f_op op_add rrI0 ha hb
theorem f_subI (ha : FE Y W a ta wa) (hb : FE Y W b tb wb) : FE Y W (.BinOp a .Sub b pos) (tOp (rI0 fun i j => .int (i - j)) ta tb) (wOp dSub wa wb) := f_op op_sub rrI0 ha hb
theorem f_mul (ha : FE Y W a ta wa) (hb : FE Y W b tb wb) : FE Y W (.BinOp a .Mult b pos) (tOp (rI CMulW fun i j => .int (i * j)) ta tb) (wOp dMul wa wb) := f_op op_mulW rrI ha hb
theorem f_fdiv (ha : FE Y W a ta wa) (hb : FE Y W b tb wb) : FE Y W (.BinOp a .FloorDiv b pos) (tOp (rI CDiv fun i j => .int (i / j)) ta tb) (wOp dFdiv wa wb) := f_op op_fdiv rrI ha hb
theorem f_mod (ha : FE Y W a ta wa) (hb : FE Y W b tb wb) : FE Y W (.BinOp a .Mod b pos) (tOp (rI (fun _ j => 0 < j) fun i j => .int (i % j)) ta tb) (wOp dMod wa wb) := f_op op_mod rrI ha hb
theorem f_pow (ha : FE Y W a ta wa) (hb : FE Y W b tb wb) : FE Y W (.BinOp a .Pow b pos) (tOp (rI CPow fun i j => .int (i ^ j.toNat)) ta tb) (wOp dPow wa wb) := f_op op_pow rrI ha hb
theorem f_lt (ha : FE Y W a ta wa) (hb : FE Y W b tb wb) : FE Y W (.Compare a [.Lt] [b] pos) (tOp (rI0 fun i j => .bl (decide (i < j))) ta tb) (wOp dLt wa wb) := f_cmp op_lt rrB0 ha hb
theorem f_le (ha : FE Y W a ta wa) (hb : FE Y W b tb wb) : FE Y W (.Compare a [.LtE] [b] pos) (tOp (rI0 fun i j => .bl (decide (i ≤ j))) ta tb) (wOp dLe wa wb) := f_cmp op_le rrB0 ha hb
theorem f_gt (ha : FE Y W a ta wa) (hb : FE Y W b tb wb) : FE Y W (.Compare a [.Gt] [b] pos) (tOp (rI0 fun i j => .bl (decide (j < i))) ta tb) (wOp dGt wa wb) := f_cmp op_gt rrB0 ha hb
theorem f_ge (ha : FE Y W a ta wa) (hb : FE Y W b tb wb) : FE Y W (.Compare a [.GtE] [b] pos) (tOp (rI0 fun i j => .bl (decide (j ≤ i))) ta tb) (wOp dGe wa wb) := f_cmp op_ge rrB0 ha hb
theorem ft_lt (ha : FE Y W a ta wa) (hb : FE Y W b tb wb) : FT Y W (.Compare a [.Lt] [b] pos) (tTest (tOp (rI0 fun i j => .bl (decide (i < j))) ta tb)) (wTest (wOp dLt wa wb)) := ft_cmp op_lt rrB0 ha hb
theorem ft_le (ha : FE Y W a ta wa) (hb : FE Y W b tb wb) : FT Y W (.Compare a [.LtE] [b] pos) (tTest (tOp (rI0 fun i j => .bl (decide (i ≤ j))) ta tb)) (wTest (wOp dLe wa wb)) := ft_cmp op_le rrB0 ha hb
theorem ft_gt (ha : FE Y W a ta wa) (hb : FE Y W b tb wb) : FT Y W (.Compare a [.Gt] [b] pos) (tTest (tOp (rI0 fun i j => .bl (decide (j < i))) ta tb)) (wTest (wOp dGt wa wb)) := ft_cmp op_gt rrB0 ha hb
theorem ft_ge (ha : FE Y W a ta wa) (hb : FE Y W b tb wb) : FT Y W (.Compare a [.GtE] [b] pos) (tTest (tOp (rI0 fun i j => .bl (decide (j ≤ i))) ta tb)) (wTest (wOp dGe wa wb)) := ft_cmp op_ge rrB0 ha hb
def dNegI : DR1 := fun x S Q => match x with | .d (.int i) => Q (.d (.int (-i))) S | _ => False
theorem f_neg (ha : FE Y W a ta wa) : FE Y W (.UnaryOp .USub a pos) (tUn (rU fun i => .int (-i)) ta) (wUn dNegI wa) := ⟨pe_un un_neg ha.pe, re_un (fun A F δ S σ H v x Q Q' st r h k => by
  unfold dNegI at h
  split at h
  · exact ⟨_, repd_int r, go st k (x := .d _) (Rep.int _) h⟩
  · exact h.elim) ha.re⟩
end

/-! ### == of data -/
mutual
def D.py : D → Option PyData
  | .non => some .none
  | .bl b => some (.bool b)
  | .int i => some (.int i)
  | .str x => some (.str x)
  | .tup xs => (pys xs).map .tuple
  | .lst xs => (pys xs).map .list
  | .scr xs => (pys xs).map .list
  | _ => none
def pys : List D → Option (List PyData)
  | [] => some []
  | d :: r => match d.py, pys r with
    | some p, some ps => some (p :: ps)
    | _, _ => none
end
def dPy (x : X) (S : Store) (k : PyData → Prop) : Prop := match x with
  | .d d => ∃ p, d.py = some p ∧ k p
  | .h a => ∃ (i : Nat) (xs : List X) (ds : List D) (ps : List PyData), S[i]? = some (a, .lst xs) ∧ xdata xs = some ds ∧ pys ds = some ps ∧ k (.list ps)
  | .e _ _ _ _ => False
def dEq : DR2 := fun x y S Q => dPy x S fun p => dPy y S fun q => SeqAt.shaped p = true ∧ SeqAt.shaped q = true ∧ Q (.d (.bl (PyData.eqv p q))) S
def dNe : DR2 := fun x y S Q => dPy x S fun p => dPy y S fun q => SeqAt.shaped p = true ∧ SeqAt.shaped q = true ∧ Q (.d (.bl (!PyData.eqv p q))) S
section
variable {K : PySem.W.Frag} {A : Anc} {F H : Hp} {δ : Env} {S : Store} {σ : L2.St}
mutual
theorem Rep.dp (e : Ex F H) : ∀ {v : V} {d : D} {p : PyData}, Rep K F v d → d.py = some p → Dp K H v p
  | _, _, _, .non, h => by cases h; exact .non
  | _, _, _, .bl b, h => by cases h; exact .bl b
  | _, _, _, .int b, h => by cases h; exact .int b
  | _, _, _, .str b, h => by cases h; exact .str b
  | _, _, _, .ty b, h => by cases h
  | _, _, _, .glob b, h => by cases h
  | _, _, _, .tup q r, h => by
    simp only [D.py, Option.map_eq_some_iff] at h
    obtain ⟨ps, h1, rfl⟩ := h
    exact .tup (ex_t e q) (Reps.dp e r h1)
  | _, _, _, .lst q r, h => by
    simp only [D.py, Option.map_eq_some_iff] at h
    obtain ⟨ps, h1, rfl⟩ := h
    exact .lst (SqL.of (e _ _ q)) (Reps.dp e r h1)
  | _, _, _, .scr q r, h => by
    simp only [D.py, Option.map_eq_some_iff] at h
    obtain ⟨ps, h1, rfl⟩ := h
    exact .lst (ex_l e q) (Reps.dp e r h1)
  | _, _, _, .dct _ _, h => by cases h
  | _, _, _, .obj _ _, h => by cases h
theorem Reps.dp (e : Ex F H) : ∀ {v : List V} {d : List D} {p : List PyData}, Reps K F v d → pys d = some p → DpAll K H v p
  | _, _, _, .nil, h => by cases h; exact .nil
  | _, _, _, .cons (d := d) (ds := ds) r t, h => by
    unfold pys at h
    cases e1 : d.py with
    | none => rw [e1] at h; cases h
    | some p =>
      cases e2 : pys ds with
      | none => rw [e1, e2] at h; cases h
      | some ps =>
        rw [e1, e2] at h
        cases h
        exact .cons (Rep.dp e r e1) (Reps.dp e t e2)
end
theorem dPy.ok {x : X} {k : PyData → Prop} {v : V} (st : ST K A F δ S σ H) (r : RepX K F v x) (h : dPy x S k) : ∃ p, Dp K H v p ∧ k p := by
  unfold dPy at h
  split at h
  · obtain ⟨p, e, h⟩ := h
    exact ⟨p, Rep.dp st.fr r e, h⟩
  · obtain ⟨i, xs, ds, ps, e, e1, e2, h⟩ := h
    obtain ⟨_, vs, hp, rr⟩ := st.cell _ (List.mem_of_getElem? e)
    have r : v = .ref _ := r
    subst r
    exact ⟨_, .lst (SqL.of hp) (Reps.dp st.fr (Reps.of_xs rr e1) e2), h⟩
  · exact h.elim
theorem rr_eq : RR K (rEqD K) dEq := fun A F δ S σ H v u x y Q Q' st rx ry h k => by
  obtain ⟨p, hp, h⟩ := dPy.ok st rx h
  obtain ⟨q, hq, h1, h2, h⟩ := dPy.ok st ry h
  exact ⟨p, q, hp, hq, h1, h2, go st k (x := .d _) (Rep.bl _) h⟩
theorem rr_ne : RR K (rNeD K) dNe := fun A F δ S σ H v u x y Q Q' st rx ry h k => by
  obtain ⟨p, hp, h⟩ := dPy.ok st rx h
  obtain ⟨q, hq, h1, h2, h⟩ := dPy.ok st ry h
  exact ⟨p, q, hp, hq, h1, h2, go st k (x := .d _) (Rep.bl _) h⟩
/-- x in a list of data -/
def dInL : DR2 := fun x y S Q => dPy x S fun p => dPy y S fun q => match q with
  | .list ps => SeqAt.shaped p = true ∧ SeqAt.shaped (.list ps) = true ∧ Q (.d (.bl (ps.any fun z => PyData.eqv z p))) S
  | _ => False
def dNotInL : DR2 := fun x y S Q => dPy x S fun p => dPy y S fun q => match q with
  | .list ps => SeqAt.shaped p = true ∧ SeqAt.shaped (.list ps) = true ∧ Q (.d (.bl (!ps.any fun z => PyData.eqv z p))) S
  | _ => False
theorem rr_inL : RR K (rInD K) dInL := fun A F δ S σ H v u x y Q Q' st rx ry h k => by
  obtain ⟨p, hp, h⟩ := dPy.ok st rx h
  obtain ⟨q, hq, h⟩ := dPy.ok st ry h
  split at h
  · exact ⟨p, _, hp, hq, h.1, h.2.1, go st k (x := .d _) (Rep.bl _) h.2.2⟩
  · exact h.elim
theorem rr_notInL : RR K (rNotInD K) dNotInL := fun A F δ S σ H v u x y Q Q' st rx ry h k => by
  obtain ⟨p, hp, h⟩ := dPy.ok st rx h
  obtain ⟨q, hq, h⟩ := dPy.ok st ry h
  split at h
  · exact ⟨p, _, hp, hq, h.1, h.2.1, go st k (x := .d _) (Rep.bl _) h.2.2⟩
  · exact h.elim
end
section
variable {Y : Cx} {W : WX} {a b : Expr} {pos : Pos} {ta tb : TE} {wa wb : WE}
theorem f_eq {K0 : PySem.W.Frag} [hKK : HasK Y K0] (hu : Y.A.units + 64 < cLine) (ha : FE Y W a ta wa) (hb : FE Y W b tb wb) : FE Y W (.Compare a [.Eq] [b] pos) (tOp (rEqD K0) ta tb) (wOp dEq wa wb) := by
  obtain ⟨rfl⟩ := hKK
  exact f_cmp (op_eqD hu) rr_eq ha hb
theorem f_ne {K0 : PySem.W.Frag} [hKK : HasK Y K0] (hu : Y.A.units + 64 < cLine) (ha : FE Y W a ta wa) (hb : FE Y W b tb wb) : FE Y W (.Compare a [.NotEq] [b] pos) (tOp (rNeD K0) ta tb) (wOp dNe wa wb) := by
  obtain ⟨rfl⟩ := hKK
  exact f_cmp (op_neD hu) rr_ne ha hb
theorem ft_eq {K0 : PySem.W.Frag} [hKK : HasK Y K0] (hu : Y.A.units + 64 < cLine) (ha : FE Y W a ta wa) (hb : FE Y W b tb wb) : FT Y W (.Compare a [.Eq] [b] pos) (tTest (tOp (rEqD K0) ta tb)) (wTest (wOp dEq wa wb)) := by
  obtain ⟨rfl⟩ := hKK
  exact ft_cmp (op_eqD hu) rr_eq ha hb
theorem ft_ne {K0 : PySem.W.Frag} [hKK : HasK Y K0] (hu : Y.A.units + 64 < cLine) (ha : FE Y W a ta wa) (hb : FE Y W b tb wb) : FT Y W (.Compare a [.NotEq] [b] pos) (tTest (tOp (rNeD K0) ta tb)) (wTest (wOp dNe wa wb)) := by
  obtain ⟨rfl⟩ := hKK
  exact ft_cmp (op_neD hu) rr_ne ha hb
theorem f_inL {K0 : PySem.W.Frag} [hKK : HasK Y K0] (hu : Y.A.units + 65 < cLine) (ha : FE Y W a ta wa) (hb : FE Y W b tb wb) (hm : behindInMarks .In b = false := by rfl) : FE Y W (.Compare a [.In] [b] pos) (tOp (rInD K0) ta tb) (wOp dInL wa wb) := by
  obtain ⟨rfl⟩ := hKK
  exact f_cmp (op_inD hu) rr_inL ha hb hm
theorem ft_inL {K0 : PySem.W.Frag} [hKK : HasK Y K0] (hu : Y.A.units + 65 < cLine) (ha : FE Y W a ta wa) (hb : FE Y W b tb wb) (hm : behindInMarks .In b = false := by rfl) : FT Y W (.Compare a [.In] [b] pos) (tTest (tOp (rInD K0) ta tb)) (wTest (wOp dInL wa wb)) := by
  obtain ⟨rfl⟩ := hKK
  exact ft_cmp (op_inD hu) rr_inL ha hb hm
theorem f_notInL {K0 : PySem.W.Frag} [hKK : HasK Y K0] (hu : Y.A.units + 65 < cLine) (ha : FE Y W a ta wa) (hb : FE Y W b tb wb) (hm : behindInMarks .NotIn b = false := by rfl) : FE Y W (.Compare a [.NotIn] [b] pos) (tOp (rNotInD K0) ta tb) (wOp dNotInL wa wb) := by
  obtain ⟨rfl⟩ := hKK
  exact f_cmp (op_notInD hu) rr_notInL ha hb hm
theorem ft_notInL {K0 : PySem.W.Frag} [hKK : HasK Y K0] (hu : Y.A.units + 65 < cLine) (ha : FE Y W a ta wa) (hb : FE Y W b tb wb) (hm : behindInMarks .NotIn b = false := by rfl) : FT Y W (.Compare a [.NotIn] [b] pos) (tTest (tOp (rNotInD K0) ta tb)) (wTest (wOp dNotInL wa wb)) := by
  obtain ⟨rfl⟩ := hKK
  exact ft_cmp (op_notInD hu) rr_notInL ha hb hm
end

/-! ### is None -/
def dIsN (b : Bool) : DR1 := fun x S Q => match x with
  | .d .non => Q (.d (.bl b)) S
  | _ => Q (.d (.bl (!b))) S
def wIsN (b : Bool) (w : WE) : WE := fun δ S Q E => w δ S (fun x S1 => dIsN b x S1 Q) E
section
variable {K : PySem.W.Frag} {W : WX} {te : TE} {w : WE}
theorem notnone {F : Hp} {v : V} : ∀ {x : X}, RepX K F v x → decide (v = V.non) = (match x with | .d .non => true | _ => false)
  | .h a, r => by have r : v = .ref a := r; subst r; rfl
  | .e a _ _ _, r => by have r : v = .ref a := r.1; subst r; rfl
  | .d d, r => by
    cases r <;> rfl
theorem re_isN (h : RE K W te w) : RE K W (tIsN te) (wIsN true w) := fun A F δ S σ H Q E Q' st lk hw k =>
  h A F δ S σ H _ E _ st lk hw fun F1 S1 H1 v x st1 e1 r q => by
    rw [notnone r]
    unfold dIsN at q
    split at q
    · exact k _ _ _ _ (.d (.bl true)) st1 e1 (Rep.bl true) q
    · rename_i hx
      exact k _ _ _ _ (.d (.bl false)) st1 e1 (Rep.bl false) q
theorem re_notN (h : RE K W te w) : RE K W (tNotN te) (wIsN false w) := fun A F δ S σ H Q E Q' st lk hw k =>
  h A F δ S σ H _ E _ st lk hw fun F1 S1 H1 v x st1 e1 r q => by
    rw [notnone r]
    unfold dIsN at q
    split at q
    · exact k _ _ _ _ (.d (.bl false)) st1 e1 (Rep.bl false) q
    · rename_i hx
      exact k _ _ _ _ (.d (.bl true)) st1 e1 (Rep.bl true) q
end
section
variable {Y : Cx} {W : WX} {a : Expr} {pos : Pos} {ta : TE} {wa : WE}
theorem f_isN {j pos'} (ha : FE Y W a ta wa) : FE Y W (.Compare a [.Is] [.Constant .none j pos'] pos) (tIsN ta) (wIsN true wa) := ⟨pe_cmp (pc_isN ha.pe), re_isN ha.re⟩
theorem f_notN {j pos'} (ha : FE Y W a ta wa) : FE Y W (.Compare a [.IsNot] [.Constant .none j pos'] pos) (tNotN ta) (wIsN false wa) := ⟨pe_cmp (pc_notN ha.pe), re_notN ha.re⟩
theorem ft_isN {j pos'} (ha : FE Y W a ta wa) : FT Y W (.Compare a [.Is] [.Constant .none j pos'] pos) (tB (tIsN ta)) (wTest (wIsN true wa)) := ⟨pt_cmp (pc_isN ha.pe), rt_B (re_isN ha.re)⟩
theorem ft_notN {j pos'} (ha : FE Y W a ta wa) : FT Y W (.Compare a [.IsNot] [.Constant .none j pos'] pos) (tB (tNotN ta)) (wTest (wIsN false wa)) := ⟨pt_cmp (pc_notN ha.pe), rt_B (re_notN ha.re)⟩
end

/-! ### subscripts, slices -/
def dIx : DR2 := fun x y S Q => match y with
  | .d (.int i) => (match x with
    | .d (.str z) => z.length ≤ sizeLine ∧ ∃ c, atI z.cps.toList i = some c ∧ Q (.d (.str ⟨#[c]⟩)) S
    | x => dSeq x S fun xs => ∃ e, atI xs i = some e ∧ Q e S)
  | _ => False
def cutX (xs : List X) (lo hi : Option Int) : List X := (xs.drop (HT.sIx xs.length 0 lo)).take (HT.sIx xs.length xs.length hi - HT.sIx xs.length 0 lo)
section
variable {K : PySem.W.Frag} {W : WX}
theorem rr_ix : RR K (rIx K) dIx := fun A F δ S σ H v u x y Q Q' st rx ry h k => by
  unfold dIx at h
  split at h
  · rename_i i
    have hu := repd_int ry
    subst hu
    split at h
    · rename_i z
      obtain ⟨hz, c, hc, h⟩ := h
      have hv := repd_str rx
      subst hv
      exact .inr (.inr ⟨z, i, c, rfl, rfl, hz, hc, go st k (x := .d _) (Rep.str _) h⟩)
    · obtain ⟨p, vs, xs, rfl, hs, rr, e, he, h⟩ := dSeq.ok st rx h
      obtain ⟨w, hw, rw'⟩ := rr.atI he
      have fin := go st k rw' h
      rcases hs with hs | hs
      · exact .inl ⟨p, vs, i, w, rfl, rfl, hs, hw, fin⟩
      · exact .inr (.inl ⟨p, vs, i, w, rfl, rfl, hs, hw, fin⟩)
  · exact h.elim
/-- a part of a slice -/
abbrev WO := Env → Store → (Option Int → Store → Prop) → XR → Prop
def RO (K : PySem.W.Frag) (W : WX) (to : TO) (w : WO) : Prop := ∀ (A : Anc) (F : Hp) (δ : Env) (S : Store) (σ : L2.St) (H : Hp) (Q : Option Int → Store → Prop) (E : XR) (Q' : Option Int → Hp → Prop), ST K A F δ S σ H → Link K A W E → w δ S Q E →
  (∀ F' S' H' x, ST K A F' δ S' σ H' → Ex F F' → Q x S' → Q' x H') → to σ H Q'
structure FO (Y : Cx) (W : WX) (o : Option Expr) (to : TO) (w : WO) : Prop where
  po : PO Y o to
  re : RO Y.K W to w
def wNoPart : WO := fun _ S Q _ => Q none S
def wPart (w : WE) : WO := fun δ S Q E => w δ S (fun x S1 => match x with | .d (.int i) => Q (some i) S1 | _ => False) E
theorem ro_none : RO K W tNoPart wNoPart := fun A F δ S σ H Q E Q' st lk h k => k F S H none st (Ex.refl F) h
theorem ro_some {te : TE} {w : WE} (h : RE K W te w) : RO K W (tPart te) (wPart w) := fun A F δ S σ H Q E Q' st lk hw k =>
  h A F δ S σ H _ E _ st lk hw fun F1 S1 H1 v x st1 e1 r q => by
    split at q
    · exact ⟨_, repd_int r, k _ _ _ _ st1 e1 q⟩
    · exact q.elim
theorem cutV_rep {F : Hp} {vs : List V} {xs : List X} (r : RepXs K F vs xs) (lo hi : Option Int) : RepXs K F (cutV vs lo hi) (cutX xs lo hi) := by
  unfold cutV cutX
  rw [r.len]
  have hd : ∀ (n : Nat) {vs : List V} {xs : List X}, RepXs K F vs xs → RepXs K F (vs.drop n) (xs.drop n) := by
    intro n
    induction n with
    | zero => intro vs xs r; exact r
    | succ n ih => intro vs xs r; cases r with
      | nil => exact .nil
      | cons q t => exact ih t
  have ht : ∀ (n : Nat) {vs : List V} {xs : List X}, RepXs K F vs xs → RepXs K F (vs.take n) (xs.take n) := by
    intro n
    induction n with
    | zero => intro vs xs r; exact .nil
    | succ n ih => intro vs xs r; cases r with
      | nil => exact .nil
      | cons q t => exact .cons q (ih t)
  exact ht _ (hd _ r)
/-- xs[lo:hi] of a list -/
def dIsL (x : X) (S : Store) (k : List X → Prop) : Prop := match x with
  | .d (.lst ds) => k (ds.map X.d)
  | .d (.scr ds) => k (ds.map X.d)
  | .h a => ∃ (i : Nat) (xs : List X), S[i]? = some (a, .lst xs) ∧ k xs
  | _ => False
theorem dIsL.ok {A : Anc} {F H : Hp} {δ : Env} {S : Store} {σ : L2.St} {x : X} {k : List X → Prop} {v : V} (st : ST K A F δ S σ H) (r : RepX K F v x) (h : dIsL x S k) : ∃ p vs xs, v = .ref p ∧ SqL K H p vs ∧ RepXs K F vs xs ∧ k xs := by
  unfold dIsL at h
  split at h
  · cases r with | lst h1 h2 => exact ⟨_, _, _, rfl, SqL.of (st.fr _ _ h1), h2.xs, h⟩
  · cases r with | scr h1 h2 => exact ⟨_, _, _, rfl, ex_l st.fr h1, h2.xs, h⟩
  · obtain ⟨i, xs, e, h⟩ := h
    obtain ⟨_, vs, hp, rr⟩ := st.cell _ (List.mem_of_getElem? e)
    exact ⟨_, vs, xs, r, SqL.of hp, rr, h⟩
  · exact h.elim
def wSlL (w : WE) (lo hi : WO) : WE := fun δ S Q E => w δ S (fun x S1 => lo δ S1 (fun l S2 => hi δ S2 (fun u S3 => dIsL x S3 fun xs => ∀ p, Q (.h p) (S3 ++ [(p, .lst (cutX xs l u))])) E) E) E
theorem re_slL {te : TE} {tl th : TO} {w : WE} {lo hi : WO} (h : RE K W te w) (h1 : RO K W tl lo) (h2 : RO K W th hi) : RE K W (tSl (rSlL K) te tl th) (wSlL w lo hi) := fun A F δ S σ H Q E Q' st lk hw k =>
  h A F δ S σ H _ E _ st lk hw fun F1 S1 H1 v x st1 e1 r q => h1 A F1 δ S1 σ H1 _ E _ st1 lk q fun F2 S2 H2 l st2 e2 q2 => h2 A F2 δ S2 σ H2 _ E _ st2 lk q2 fun F3 S3 H3 u st3 e3 q3 => by
    obtain ⟨p, vs, xs, rfl, hs, rr, hq⟩ := dIsL.ok st3 (r.mono (e2.trans e3)) q3
    exact ⟨p, vs, rfl, hs, fun p' hp' => goL st3 (fun F' S' H' v x a b => k F' S' H' v x a (((e1.trans e2).trans e3).trans b)) hp' (cutV_rep rr l u) hq⟩
end
section
variable {Y : Cx} {W : WX} {a b : Expr} {pos : Pos} {ta tb : TE} {wa wb : WE}
theorem f_ix {K0 : PySem.W.Frag} [hKK : HasK Y K0] (ha : FE Y W a ta wa) (hb : FE Y W b tb wb) (hs : PlainIx b := by exact fun _ _ => rfl) : FE Y W (.Subscript a b pos) (tOp (rIx K0) ta tb) (wOp dIx wa wb) := by
  obtain ⟨rfl⟩ := hKK
  exact ⟨pe_ix ix_seq ha.pe hb.pe hs, re_op rr_ix ha.re hb.re⟩
theorem fo_none : FO Y W none tNoPart wNoPart := ⟨po_none, ro_none⟩
theorem fo_some (h : FE Y W a ta wa) : FO Y W (some a) (tPart ta) (wPart wa) := ⟨po_some h.pe, ro_some h.re⟩
theorem f_slL {K0 : PySem.W.Frag} [hKK : HasK Y K0] {lo hi : Option Expr} {tl th : TO} {wl wh : WO} {p2 : Pos} (ha : FE Y W a ta wa) (hl : FO Y W lo tl wl) (hh : FO Y W hi th wh) : FE Y W (.Subscript a (.Slice lo hi none p2) pos) (tSl (rSlL K0) ta tl th) (wSlL wa wl wh) := by
  obtain ⟨rfl⟩ := hKK
  exact ⟨pe_slice sl_list ha.pe hl.po hh.po, re_slL ha.re hl.re hh.re⟩
end
end DP

set_option Elab.async false
set_option linter.all false
set_option maxRecDepth 100000
set_option maxHeartbeats 1000000
namespace DP
open PySem PySem.Spec PyProof.Rows L2
open Evl (Ex ex_l ex_t ex_rd fresh_back)

/-! ### promises by data -/
/-- arguments, what may be changed, the wanted end, the wanted exception -/
abbrev DSp := List X → Store → XQ → (Exn → Store → Prop) → Prop
def lift (K : PySem.W.Frag) (ds : DSp) : Sp := fun vs H Q E => ∃ (F : Hp) (xs : List X) (S : Store) (Qd : XQ) (Ed : Exn → Store → Prop), ST K ⟨F, H, keys S⟩ F [] S [] H ∧ RepXs K F vs xs ∧ ds xs S Qd Ed ∧
  (∀ F' S' H' v r, ST K ⟨F, H, keys S⟩ F' [] S' [] H' → RepX K F' v r → Qd r S' → Q v H') ∧ ∀ F' S' H' cls d x, ST K ⟨F, H, keys S⟩ F' [] S' [] H' → RepE K F' cls d x → Ed x S' → E cls d H'

def pick (S : Store) : List Nat → Option Store
  | [] => some []
  | i :: is => match S[i]?, pick S is with
    | some p, some r => some (p :: r)
    | _, _ => none
def putBack (S : Store) : List Nat → Store → Store
  | i :: is, c :: cs => putBack (S.set i c) is cs
  | _, _ => S
theorem pick_set {S : Store} {i : Nat} {c : Addr × Cell} : ∀ {is : List Nat}, i ∉ is → pick (S.set i c) is = pick S is
  | [], _ => rfl
  | j :: is, h => by
    simp only [List.mem_cons, not_or] at h
    unfold pick
    rw [List.getElem?_set_ne h.1, pick_set h.2]
theorem pick_cons {S : Store} {i : Nat} {is : List Nat} {Sc : Store} (h : pick S (i :: is) = some Sc) : ∃ p r, S[i]? = some p ∧ pick S is = some r ∧ Sc = p :: r := by
  unfold pick at h
  split at h
  · rename_i p r e1 e2; cases h; exact ⟨p, r, e1, e2, rfl⟩
  · cases h
theorem pick_mem {S : Store} : ∀ {is : List Nat} {Sc : Store}, pick S is = some Sc → ∀ p ∈ Sc, ∃ i ∈ is, S[i]? = some p
  | [], _, h, p, hp => by cases h; cases hp
  | i :: is, _, h, p, hp => by
    obtain ⟨q, r, e1, e2, rfl⟩ := pick_cons h
    rcases List.mem_cons.mp hp with rfl | hp
    · exact ⟨i, List.mem_cons_self, e1⟩
    · obtain ⟨j, hj, e⟩ := pick_mem e2 p hp
      exact ⟨j, List.mem_cons_of_mem _ hj, e⟩
theorem key_ix {S : Store} (nd : (keys S).Nodup) {i j : Nat} {p q : Addr × Cell} (h1 : S[i]? = some p) (h2 : S[j]? = some q) (e : p.1 = q.1) : i = j := by
  have h1' : (keys S)[i]? = some p.1 := by unfold keys; rw [List.getElem?_map, h1]; rfl
  have h2' : (keys S)[j]? = some p.1 := by unfold keys; rw [List.getElem?_map, h2, e]; rfl
  obtain ⟨l1, e1⟩ := List.getElem?_eq_some_iff.mp h1'
  obtain ⟨l2, e2⟩ := List.getElem?_eq_some_iff.mp h2'
  exact (List.getElem_inj nd).mp (e1.trans e2.symm)
theorem pick_nodup {S : Store} (nd : (keys S).Nodup) : ∀ {is : List Nat} {Sc : Store}, is.Nodup → pick S is = some Sc → (keys Sc).Nodup
  | [], _, _, h => by cases h; simp [keys]
  | i :: is, _, hn, h => by
    obtain ⟨q, r, e1, e2, rfl⟩ := pick_cons h
    obtain ⟨hi, hn⟩ := List.nodup_cons.mp hn
    show (q.1 :: keys r).Nodup
    refine List.nodup_cons.mpr ⟨fun hm => ?_, pick_nodup nd hn e2⟩
    obtain ⟨p, hp, e⟩ := List.mem_map.mp hm
    obtain ⟨j, hj, ej⟩ := pick_mem e2 p hp
    exact hi (key_ix nd ej e1 e ▸ hj)
theorem putBack_keys : ∀ {is : List Nat} {S Sc Su : Store}, is.Nodup → pick S is = some Sc → keys Su = keys Sc → keys (putBack S is Su) = keys S
  | [], _, _, _, _, _, _ => by unfold putBack; rfl
  | i :: is, S, _, [], _, h, e => by unfold putBack; rfl
  | i :: is, S, _, c :: cs, hn, h, e => by
    obtain ⟨q, r, e1, e2, rfl⟩ := pick_cons h
    obtain ⟨hi, hn⟩ := List.nodup_cons.mp hn
    have e : c.1 :: keys cs = q.1 :: keys r := e
    injection e with ea eb
    have hc : c = (q.1, c.2) := by rw [← ea]
    have ek : keys (S.set i c) = keys S := by
      rw [hc]
      exact keys_set (c := q.2) e1
    unfold putBack
    exact (putBack_keys hn ((pick_set hi).trans e2) eb).trans ek
theorem putBack_mem : ∀ {is : List Nat} {S Sc Su : Store}, (keys S).Nodup → is.Nodup → pick S is = some Sc → keys Su = keys Sc → ∀ p ∈ putBack S is Su, p ∈ Su ∨ (p ∈ S ∧ p.1 ∉ keys Sc)
  | [], _, _, _, nd, _, h, e, p, hp => by
    cases h
    unfold putBack at hp
    exact .inr ⟨hp, by simp [keys]⟩
  | i :: is, S, _, [], nd, _, h, e, p, hp => by
    obtain ⟨q, r, e1, e2, rfl⟩ := pick_cons h
    cases e
  | i :: is, S, _, c :: cs, nd, hn, h, e, p, hp => by
    obtain ⟨q, r, e1, e2, rfl⟩ := pick_cons h
    obtain ⟨hi, hn⟩ := List.nodup_cons.mp hn
    have e : c.1 :: keys cs = q.1 :: keys r := e
    injection e with ea eb
    have hc : c = (q.1, c.2) := by rw [← ea]
    have ek : keys (S.set i c) = keys S := by
      rw [hc]
      exact keys_set (c := q.2) e1
    unfold putBack at hp
    rcases putBack_mem (S := S.set i c) (by rw [ek]; exact nd) hn ((pick_set hi).trans e2) eb p hp with z | ⟨z1, z2⟩
    · exact .inl (List.mem_cons_of_mem _ z)
    · obtain ⟨j, hj⟩ := List.getElem?_of_mem z1
      by_cases hij : i = j
      · subst hij
        rw [List.getElem?_set_self (List.getElem?_eq_some_iff.mp e1).1] at hj
        cases hj
        exact .inl List.mem_cons_self
      · rw [List.getElem?_set_ne hij] at hj
        refine .inr ⟨List.mem_of_getElem? hj, fun hm => ?_⟩
        have hm : p.1 ∈ q.1 :: keys r := hm
        rcases List.mem_cons.mp hm with z | z
        · exact hij (key_ix nd e1 hj z.symm)
        · exact z2 z
section
variable {K : PySem.W.Frag} {A : Anc} {F F' H H' : Hp} {δ : Env} {S S' : Store} {σ : L2.St}
/-- where a call begins -/
theorem ST.enter {idx : List Nat} {Sc : Store} (st : ST K A F δ S σ H) (hp : pick S idx = some Sc) (hn : idx.Nodup) : ST K ⟨F, H, keys Sc⟩ F [] Sc [] H :=
  ⟨st.fr, Ex.refl F, fun a o e _ => e, fun a e => .inl e, pick_nodup st.nd hn hp, fun p hm => by
    obtain ⟨i, _, e⟩ := pick_mem hp p hm
    exact st.cell p (List.mem_of_getElem? e), fun p hm => .inr (mem_keys hm), fun i x e => by simp at e, rfl⟩
/-- where it ends -/
theorem ST.leave {idx : List Nat} {Sc Su Se : Store} (st : ST K A F δ S σ H) (hp : pick S idx = some Sc) (hn : idx.Nodup) (en : ST K ⟨F, H, keys Sc⟩ F' [] (Su ++ Se) [] H') (hk : keys Su = keys Sc) : ST K A F' δ (putBack S idx Su ++ Se) σ H' := by
  have hin : ∀ p ∈ Sc, p ∈ S := fun p hm => by
    obtain ⟨i, _, e⟩ := pick_mem hp p hm
    exact List.mem_of_getElem? e
  have hSc : ∀ a ∈ keys Sc, A.H0 a = none ∨ a ∈ A.ft := fun a h => by
    obtain ⟨p, hm, rfl⟩ := List.mem_map.mp h
    exact st.foot p (hin p hm)
  have nd1 := en.nd
  have ek : keys (Su ++ Se) = keys Su ++ keys Se := by unfold keys; rw [List.map_append]
  rw [ek] at nd1
  obtain ⟨n1, n2, n3⟩ := List.nodup_append.mp nd1
  have hSe : ∀ p ∈ Se, H p.1 = none := fun p hm => by
    rcases en.foot p (List.mem_append_right _ hm) with z | z
    · exact z
    · have z : p.1 ∈ keys Sc := z
      rw [← hk] at z
      exact (n3 _ z _ (mem_keys hm) rfl).elim
  refine ⟨en.fr, st.a1.trans en.a1, fun a o e n => ?_, fun a e => ?_, ?_, fun p hm => ?_, fun p hm => ?_, fun i x e => ?_, st.len⟩
  · by_cases h : a ∈ keys Sc
    · rcases hSc a h with z | z
      · rw [e] at z; cases z
      · exact (n z).elim
    · exact en.a2 a o (st.a2 a o e n) h
  · rcases en.a3 a e with z | z | z
    · exact st.a3 a z
    · exact .inr (st.fresh0 z)
    · exact .inr (hSc a z)
  · unfold keys
    rw [List.map_append]
    show (keys (putBack S idx Su) ++ keys Se).Nodup
    rw [putBack_keys hn hp hk]
    refine List.nodup_append.mpr ⟨st.nd, n2, fun a ha b hb z => ?_⟩
    subst z
    obtain ⟨q, hq, rfl⟩ := List.mem_map.mp hb
    have := st.there ha
    rw [hSe q hq] at this; cases this
  · rcases List.mem_append.mp hm with hm | hm
    · rcases putBack_mem st.nd hn hp hk p hm with z | ⟨z1, z2⟩
      · exact en.cell p (List.mem_append_left _ z)
      · obtain ⟨o, ho⟩ := Option.isSome_iff_exists.mp (st.cell p z1).ok
        refine (st.cell p z1).move en.a1 ((en.a2 _ o ho z2).trans ho.symm) fun hf => ?_
        cases q : F' p.1 with
        | none => rfl
        | some u =>
          rcases en.a3 p.1 (by rw [q]; rfl) with y | y | y
          · have y : (F p.1).isSome = true := y
            rw [show F p.1 = none from hf] at y; cases y
          · have y : H p.1 = none := y
            rw [ho] at y; cases y
          · exact (z2 y).elim
    · exact en.cell p (List.mem_append_right _ hm)
  · rcases List.mem_append.mp hm with hm | hm
    · have : p.1 ∈ keys (putBack S idx Su) := mem_keys hm
      rw [putBack_keys hn hp hk] at this
      obtain ⟨r, hr, e⟩ := List.mem_map.mp this
      rw [← e]; exact st.foot r hr
    · exact st.fresh0 (hSe p hm)
  · obtain ⟨v, h1, h2⟩ := st.env i x e
    exact ⟨v, h1, h2.mono en.a1⟩
/-- what a caller gives and gets -/
def callD (ds : DSp) (idx : List Nat) (xs : List X) (S : Store) (Q : XQ) (E : Exn → Store → Prop) : Prop := ∃ Sc, pick S idx = some Sc ∧ idx.Nodup ∧
  ds xs Sc (fun r S' => ∃ Su Se, S' = Su ++ Se ∧ keys Su = keys Sc ∧ Q r (putBack S idx Su ++ Se)) (fun x S' => ∃ Su Se, S' = Su ++ Se ∧ keys Su = keys Sc ∧ E x (putBack S idx Su ++ Se))
theorem lift_call {ds : DSp} {idx : List Nat} {vs : List V} {xs : List X} {Q : XQ} {E : Exn → Store → Prop} {Q' : VK} {E' : XK} (st : ST K A F δ S σ H) (r : RepXs K F vs xs) (h : callD ds idx xs S Q E)
    (k : ∀ F' S' H' v x, ST K A F' δ S' σ H' → Ex F F' → RepX K F' v x → Q x S' → Q' v H') (ke : ∀ F' S' H' cls d x, ST K A F' δ S' σ H' → RepE K F' cls d x → E x S' → E' cls d H') : lift K ds vs H Q' E' := by
  obtain ⟨Sc, hp, hn, h⟩ := h
  refine ⟨F, xs, Sc, _, _, st.enter hp hn, r, h, fun F' S' H' v x en rx ⟨Su, Se, e, hk, q⟩ => ?_, fun F' S' H' cls d x en rx ⟨Su, Se, e, hk, q⟩ => ?_⟩
  · subst e
    exact k F' _ H' v x (st.leave hp hn en hk) en.a1 rx q
  · subst e
    exact ke F' _ H' cls d x (st.leave hp hn en hk) rx q
end

/-! ### calls of defs -/
def noE : Exn → Store → Prop := fun _ _ => False
/-- f(..), no exception leaves it; idx: the places of the things that it may change -/
def wCall (ds : DSp) (idx : List Nat) (dxs : List X) (wa : WA) : WE := fun δ S Q E => wa δ S (fun xs S1 => callD ds idx (xs ++ dxs) S1 Q noE) E
section
variable {K : PySem.W.Frag} {W : WX}
theorem re_call {ds : DSp} {idx : List Nat} {dvs : List V} {dxs : List X} {ta : TA} {wa : WA} (hd : ∀ F, RepXs K F dvs dxs) (h : RA K W ta wa) : RE K W (tCall (lift K ds) dvs E0 ta) (wCall ds idx dxs wa) := fun A F δ S σ H Q E Q' st lk hw k =>
  h A F δ S σ H _ E _ st lk hw fun F1 S1 H1 vs xs st1 e1 rs q => lift_call st1 (rs.app (hd F1)) q (fun F' S' H' v x a b => k F' S' H' v x a (e1.trans b)) fun _ _ _ _ _ _ _ _ z => z
/-- an instance of the class at C, without the attribute m -/
def objAt (o : X) (S : Store) (C : Addr) (m : Str) : Prop := match o with
  | .d (.obj C' fs) => C' = C ∧ fs.lookup m = none
  | .h a => ∃ (i : Nat) (fs : List (Str × X)), S[i]? = some (a, .obj C fs) ∧ fs.lookup m = none
  | _ => False
theorem objAt.ok {A : Anc} {F H : Hp} {δ : Env} {S : Store} {σ : L2.St} {o : X} {C : Addr} {m : Str} {v : V} (st : ST K A F δ S σ H) (r : RepX K F v o) (h : objAt o S C m) : ∃ a dx fs, v = .ref a ∧ H a = some (.ins C dx fs) ∧ fs.lookup m = none := by
  unfold objAt at h
  split at h
  · obtain ⟨rfl, h⟩ := h
    cases r with
    | obj h1 h2 => exact ⟨_, _, _, rfl, st.fr _ _ h1, h2.lookup_none h⟩
  · obtain ⟨i, fs, e, h⟩ := h
    obtain ⟨_, dx, ws, hp, rr⟩ := st.cell _ (List.mem_of_getElem? e)
    exact ⟨_, dx, ws, r, hp, RepXF.lookup_none rr h⟩
  · exact h.elim
/-- o.m(..) -/
def wMeth (C : Addr) (m : Str) (ds : DSp) (idx : List Nat) (dxs : List X) (wo : WE) (wa : WA) : WE := fun δ S Q E => wo δ S (fun o S1 => objAt o S1 C m ∧ wa δ S1 (fun xs S2 => callD ds idx (o :: (xs ++ dxs)) S2 Q noE) E) E
theorem re_meth {C : Addr} {m : Str} {ds : DSp} {idx : List Nat} {dvs : List V} {dxs : List X} {to : TE} {ta : TA} {wo : WE} {wa : WA} (hd : ∀ F, RepXs K F dvs dxs) (ho : RE K W to wo) (h : RA K W ta wa) : RE K W (tMeth C m (lift K ds) dvs E0 to ta) (wMeth C m ds idx dxs wo wa) := fun A F δ S σ H Q E Q' st lk hw k =>
  ho A F δ S σ H _ E _ st lk hw fun F1 S1 H1 v o st1 e1 ro ⟨q1, q2⟩ => by
    obtain ⟨a, dx, fs, ev, ha, hl⟩ := objAt.ok st1 ro q1
    exact ⟨a, dx, fs, ev, ha, hl, h A F1 δ S1 σ H1 _ E _ st1 lk q2 fun F2 S2 H2 vs xs st2 e2 rs q => lift_call st2 (Paired.cons (ro.mono e2) (RepXs.app rs (hd F2))) q (fun F' S' H' v x a b => k F' S' H' v x a ((e1.trans e2).trans b)) fun _ _ _ _ _ _ _ _ z => z⟩
/-- a new object that is not spoken of -/
theorem ST.junk {A : Anc} {F H : Hp} {δ : Env} {S : Store} {σ : L2.St} {p : Addr} {o : HO} (st : ST K A F δ S σ H) (hp : H p = none) : ST K A F δ S σ (upd H p o) := by
  have := (st.made (c := .dead) (o := o) hp (by show (upd H p o p).isSome = true; rw [upd_same]; rfl)).forget
  exact this
/-- C(..) -/
def wMake (C : Addr) (ds : DSp) (dxs : List X) (wa : WA) : WE := fun δ S Q E => wa δ S (fun xs S1 => ∀ x, callD ds [S1.length] (.h x :: (xs ++ dxs)) (S1 ++ [(x, .obj C [])]) (fun r S' => r = .d .non ∧ Q (.h x) S') noE) E
theorem re_make {C : Addr} {ds : DSp} {dvs : List V} {dxs : List X} {ta : TA} {wa : WA} (hd : ∀ F, RepXs K F dvs dxs) (h : RA K W ta wa) : RE K W (tMake C (lift K ds) dvs E0 ta) (wMake C ds dxs wa) := fun A F δ S σ H Q E Q' st lk hw k =>
  h A F δ S σ H _ E _ st lk hw fun F1 S1 H1 vs xs st1 e1 rs q => by
    intro x dx hx hdx hne
    have st2 : ST K A F1 δ S1 σ (upd H1 dx (.own x)) := st1.junk hdx
    have hx2 : upd H1 dx (.own x) x = none := by rw [upd_ne (Ne.symm hne)]; exact hx
    have st3 : ST K A F1 δ (S1 ++ [(x, .obj C [])]) σ (upd (upd H1 dx (.own x)) x (.ins C dx [])) := st2.made hx2 ⟨fresh_back st2.fr hx2, dx, [], upd_same, .nil⟩
    refine lift_call st3 (Paired.cons (show RepX K F1 (.ref x) (.h x) from rfl) (RepXs.app rs (hd F1))) (q x) ?_ fun _ _ _ _ _ _ _ _ z => z
    intro F' S' H' v r st4 e4 rr ⟨hr, hQ⟩
    subst hr
    cases rr
    exact ⟨rfl, k F' S' H' (.ref x) (.h x) st4 (e1.trans e4) rfl hQ⟩
end
section
variable {Y : Cx} {W : WX} {k : Nat} {f C : Addr} {fd : FuncData} {ps : List Str} {sp : DSp} {dvs : List V} {dxs : List X} {dsv : List Value} {x m : Str} {p pos apos : Pos} {e o : Expr} {es : List Expr} {to : TE} {ta : TA} {wo : WE} {wa : WA}
theorem f_call {K0 : PySem.W.Frag} [hKK : HasK Y K0] {idx : List Nat} (F : FnOk Y.prog Y.w K0 Y.mg Y.base CX0 k f fd ps (lift K0 sp)) (hr : Room k Y.A) (hm : Y.mg x = some (.ref f)) (hk : PySem.W.keepIn K0 (.ref f) = true) (hb : Binds K0 fd ps dsv) (hd : Vals dvs dsv) (hdx : ∀ F, RepXs K0 F dvs dxs)
    (ha : FA Y W (e :: es) ta wa) (hg : Gl Y x := by rfl) (hdb : (x == ("__debug__" : Str)) = false := by decide) (he : starEach (e :: es) Y.env = (false, eval e Y.env) :: starEach es Y.env := by rfl) (hpl : (backTo pos (starEach es Y.env)).any (·.1) = false := by rfl) :
    FE Y W (.Call (.Name x p) (e :: es) [] pos) (tCall (lift K0 sp) dvs E0 ta) (wCall sp idx dxs wa) := by
  obtain ⟨rfl⟩ := hKK
  exact ⟨pe_call F hr hg hm hk hb hd pass0 ha.pa hdb he hpl, re_call hdx ha.re⟩
theorem f_call0 {K0 : PySem.W.Frag} [hKK : HasK Y K0] {idx : List Nat} (F : FnOk Y.prog Y.w K0 Y.mg Y.base CX0 k f fd ps (lift K0 sp)) (hr : Room k Y.A) (hm : Y.mg x = some (.ref f)) (hk : PySem.W.keepIn K0 (.ref f) = true) (hb : Binds K0 fd ps dsv) (hd : Vals dvs dsv) (hdx : ∀ F, RepXs K0 F dvs dxs)
    (hg : Gl Y x := by rfl) (hdb : (x == ("__debug__" : Str)) = false := by decide) :
    FE Y W (.Call (.Name x p) [] [] pos) (tCall (lift K0 sp) dvs E0 tNil) (wCall sp idx dxs wNil) := by
  obtain ⟨rfl⟩ := hKK
  exact ⟨pe_call0 F hr hg hm hk hb hd pass0 hdb, re_call hdx ra_nil⟩
theorem f_meth {K0 : PySem.W.Frag} [hKK : HasK Y K0] {pl : Sem Bool} {idx : List Nat} (ho : FE Y W o to wo) (c : Cls K0 C) (hm : Meth K0 C m f) (F : FnOk Y.prog Y.w K0 Y.mg Y.base CX0 k f fd ps (lift K0 sp)) (hr : Room k Y.A) (hb : Binds K0 fd ps dsv) (hd : Vals dvs dsv) (hdx : ∀ F, RepXs K0 F dvs dxs)
    (ha : FA Y W (e :: es) ta wa) (hst : starEach (e :: es) Y.env = (false, eval e Y.env) :: starEach es Y.env := by rfl) (hpl : (backTo pos (starEach es Y.env)).any (·.1) = false := by rfl)
    (ht : eval (.Call (.Attribute o m apos) (e :: es) [] pos) Y.env = (do
      let ov ← eval o Y.env
      standAt apos.atName
      let (f, first) ← holding [ov] (getMethod ov m pl)
      callWith pos f first (backTo pos (starEach (e :: es) Y.env)) (backToKw pos (keywordEach [] Y.env))) := by rfl) :
    FE Y W (.Call (.Attribute o m apos) (e :: es) [] pos) (tMeth C m (lift K0 sp) dvs E0 to ta) (wMeth C m sp idx dxs wo wa) := by
  obtain ⟨rfl⟩ := hKK
  exact ⟨pe_meth ho.pe c hm F hr hb hd pass0 ha.pa hst hpl ht, re_meth hdx ho.re ha.re⟩
theorem f_meth0 {K0 : PySem.W.Frag} [hKK : HasK Y K0] {pl : Sem Bool} {idx : List Nat} (ho : FE Y W o to wo) (c : Cls K0 C) (hm : Meth K0 C m f) (F : FnOk Y.prog Y.w K0 Y.mg Y.base CX0 k f fd ps (lift K0 sp)) (hr : Room k Y.A) (hb : Binds K0 fd ps dsv) (hd : Vals dvs dsv) (hdx : ∀ F, RepXs K0 F dvs dxs)
    (ht : eval (.Call (.Attribute o m apos) [] [] pos) Y.env = (do
      let ov ← eval o Y.env
      standAt apos.atName
      let (f, first) ← holding [ov] (getMethod ov m pl)
      callWith pos f first (backTo pos (starEach [] Y.env)) (backToKw pos (keywordEach [] Y.env))) := by rfl) :
    FE Y W (.Call (.Attribute o m apos) [] [] pos) (tMeth C m (lift K0 sp) dvs E0 to tNil) (wMeth C m sp idx dxs wo wNil) := by
  obtain ⟨rfl⟩ := hKK
  exact ⟨pe_meth0 ho.pe c hm F hr hb hd pass0 ht, re_meth hdx ho.re ra_nil⟩
theorem f_make {K0 : PySem.W.Frag} [hKK : HasK Y K0] (M : Mk K0 C f) (F : FnOk Y.prog Y.w K0 Y.mg Y.base CX0 k f fd ps (lift K0 sp)) (hr : Room (k + 1) Y.A) (hm : Y.mg x = some (.ref C)) (hb : Binds K0 fd ps dsv) (hd : Vals dvs dsv) (hdx : ∀ F, RepXs K0 F dvs dxs)
    (ha : FA Y W (e :: es) ta wa) (hg : Gl Y x := by rfl) (hdb : (x == ("__debug__" : Str)) = false := by decide) (he : starEach (e :: es) Y.env = (false, eval e Y.env) :: starEach es Y.env := by rfl) (hpl : (backTo pos (starEach es Y.env)).any (·.1) = false := by rfl) :
    FE Y W (.Call (.Name x p) (e :: es) [] pos) (tMake C (lift K0 sp) dvs E0 ta) (wMake C sp dxs wa) := by
  obtain ⟨rfl⟩ := hKK
  exact ⟨pe_make M F hr hg hm hb hd pass0 ha.pa hdb he hpl, re_make hdx ha.re⟩
end

/-! ### a def's promise by its body -/
def startD (N : List Str) (xs : List X) : Env := xs.map some ++ List.replicate (N.length - xs.length) none
section
variable {P : Program} {w : World} {K : PySem.W.Frag} {mg : Str → Option Value} {base : Heap}
theorem ST.startD {A : Anc} {F H : Hp} {S : Store} {N : List Str} {vs : List V} {xs : List X} (st : ST K A F [] S [] H) (r : RepXs K F vs xs) : ST K A F (startD N xs) S (L2.start N vs) H := st.setEnv (fun i x e => by
    unfold DP.startD at e
    by_cases hi : i < xs.length
    · rw [List.getElem?_append_left (by simpa using hi), List.getElem?_map] at e
      cases q : xs[i]? with
      | none => rw [q] at e; cases e
      | some y =>
        rw [q] at e
        cases e
        obtain ⟨v, h1, h2⟩ := r.get q
        refine ⟨v, ?_, h2⟩
        unfold L2.start
        rw [List.getElem?_append_left (by simpa [r.len] using hi), List.getElem?_map, h1]; rfl
    · rw [List.getElem?_append_right (by simpa using hi), List.getElem?_replicate] at e
      split at e <;> cases e) (by unfold DP.startD L2.start; simp [r.len])
theorem link0 {A : Anc} : Link K A (fun _ _ _ _ => False) (fun _ _ _ => False) := fun _ _ _ _ _ _ _ _ _ _ h => h
/-- a def that lets no exception out -/
theorem dfn {x qual : Str} {st : Stmt} {f : Addr} {fd : FuncData} {N ps : List Str} {k : Nat} {sp : DSp} {ws : WS} (F : Fun K x qual st f fd) (sc : FnScope N ps (defScope st)) (len : ∀ xs S Q E, sp xs S Q E → xs.length = ps.length)
    (hbody : ∀ (cdv : Value) (A : Around) (outer : List PySem.Env) (s : Shared) (H : Hp) (E : XK), Room k (A.deeper (envOfC qual (defScope st) s.heap.objs.size f cdv)) →
      ∃ t, FSs (cxOf CX0 P w K mg base N qual (defScope st) f cdv A outer s H E).nox (fun _ _ _ _ => False) (defBody st) t ws)
    (hw : ∀ xs S Q E, sp xs S Q E → ws { nx := fun _ S' => Q (.d .non) S', rt := Q } (startD N xs) S (fun _ _ _ => False)) : FnOk P w K mg base CX0 (k + 1) f fd ps (lift K sp) := by
  refine F.ok sc (fun vs H Q E h => ?_) (fun cdv A outer s H vs Q E hr h => ?_)
  · obtain ⟨F, xs, S, Qd, Ed, _, r, h, _⟩ := h
    exact r.len.trans (len _ _ _ _ h)
  · obtain ⟨F, xs, S, Qd, Ed, st, r, h, k1, k2⟩ := h
    obtain ⟨t, ht⟩ := hbody cdv A outer s H E hr
    refine ⟨t, ht.ps, ht.re _ F _ S _ H _ _ _ (st.startD r) ⟨fun F' δ S' σ H' st' q => ?_, fun F' δ S' σ H' v y st' ry q => ?_, fun _ _ _ _ _ _ z => z, fun _ _ _ _ _ _ z => z⟩ link0 (hw _ _ _ _ h)⟩
    · exact k1 F' S' H' .non (.d .non) (st'.setEnv (fun i x e => by simp at e) rfl) Rep.non q
    · exact k1 F' S' H' v y (st'.setEnv (fun i x e => by simp at e) rfl) ry q
end
end DP

set_option Elab.async false
set_option linter.all false
set_option maxRecDepth 100000
set_option maxHeartbeats 1000000
namespace DP
open PySem PySem.Spec PyProof.Rows L2
open Evl (Ex ex_l ex_t ex_rd fresh_back)

/-! ### built-in calls -/
abbrev DRC := List X → Store → XQ → Prop
def RC (K : PySem.W.Frag) (r : List V → Hp → VK → Prop) (d : DRC) : Prop := ∀ (A : Anc) (F : Hp) (δ : Env) (S : Store) (σ : L2.St) (H : Hp) (vs : List V) (xs : List X) (Q : XQ) (Q' : VK), ST K A F δ S σ H → RepXs K F vs xs → d xs S Q →
  (∀ F' S' H' v x, ST K A F' δ S' σ H' → Ex F F' → RepX K F' v x → Q x S' → Q' v H') → r vs H Q'
def wCB (d : DRC) (wa : WA) : WE := fun δ S Q E => wa δ S (fun xs S1 => d xs S1 Q) E
section
variable {K : PySem.W.Frag} {W : WX}
theorem re_cb {r : List V → Hp → VK → Prop} {d : DRC} {ta : TA} {wa : WA} (hr : RC K r d) (h : RA K W ta wa) : RE K W (tCB r ta) (wCB d wa) := fun A F δ S σ H Q E Q' st lk hw k =>
  h A F δ S σ H _ E _ st lk hw fun F1 S1 H1 vs xs st1 e1 rs q => hr A F1 δ S1 σ H1 vs xs Q Q' st1 rs q fun F' S' H' v x a b => k F' S' H' v x a (e1.trans b)
end
section
variable {Y : Cx} {W : WX} {x : Str} {p pos : Pos} {e : Expr} {es : List Expr} {ta : TA} {wa : WA} {id T : String} {r : List V → Hp → VK → Prop} {d : DRC}
theorem f_callB (hc : CallR Y (.builtin id) r) (hr : RC Y.K r d) (hm : Y.mg x = none) (ha : FA Y W (e :: es) ta wa) (hv : bootBuiltins x = some (.builtin id) := by decide +kernel) (hg : Gl Y x := by rfl) (hn : x ≠ "__name__" := by decide) (hdb : (x == ("__debug__" : Str)) = false := by decide)
    (he : starEach (e :: es) Y.env = (false, eval e Y.env) :: starEach es Y.env := by rfl) (hpl : (backTo pos (starEach es Y.env)).any (·.1) = false := by rfl) : FE Y W (.Call (.Name x p) (e :: es) [] pos) (tCB r ta) (wCB d wa) := ⟨pe_callB hc hg hm hv ha.pa hn hdb he hpl, re_cb hr ha.re⟩
theorem f_callTy (hc : CallR Y (.type T) r) (hr : RC Y.K r d) (hm : Y.mg x = none) (ha : FA Y W (e :: es) ta wa) (hv : bootBuiltins x = some (.type T) := by decide +kernel) (hg : Gl Y x := by rfl) (hn : x ≠ "__name__" := by decide) (hdb : (x == ("__debug__" : Str)) = false := by decide)
    (he : starEach (e :: es) Y.env = (false, eval e Y.env) :: starEach es Y.env := by rfl) (hpl : (backTo pos (starEach es Y.env)).any (·.1) = false := by rfl) : FE Y W (.Call (.Name x p) (e :: es) [] pos) (tCB r ta) (wCB d wa) := ⟨pe_callTy hc hg hm hv ha.pa hn hdb he hpl, re_cb hr ha.re⟩
end
def dLen : DRC := fun xs S Q => match xs with
  | [.d (.str z)] => z.length ≤ sizeLine ∧ Q (.d (.int z.length)) S
  | [x] => dSeq x S fun ys => Q (.d (.int ys.length)) S
  | _ => False
def dAbs : DRC := fun xs S Q => match xs with
  | [.d (.int i)] => Q (.d (.int (if i < 0 then -i else i))) S
  | _ => False
def dInt : DRC := fun xs S Q => match xs with
  | [.d (.int i)] => Q (.d (.int i)) S
  | [.d (.bl b)] => Q (.d (.int (if b then 1 else 0))) S
  | _ => False
def dListOf : DRC := fun xs S Q => match xs with
  | [x] => dSeq x S fun ys => ∀ p, Q (.h p) (S ++ [(p, .lst ys)])
  | _ => False
def dTupleOf : DRC := fun xs S Q => match xs with
  | [.d (.tup ds)] => Q (.d (.tup ds)) S
  | [x] => dIsL x S fun ys => ∃ ds, xdata ys = some ds ∧ Q (.d (.tup ds)) S
  | _ => False
def dSortedI : DRC := fun xs S Q => match xs with
  | [x] => dIsL x S fun ys => ∃ ns : List Int, ys = ns.map (fun n => X.d (.int n)) ∧ ∀ ns' : List Int, ns'.Perm ns → ns'.Pairwise (· ≤ ·) → ∀ p, Q (.h p) (S ++ [(p, .lst (ns'.map fun n => X.d (.int n)))])
  | _ => False
def dAll : DRC := fun xs S Q => match xs with
  | [x] => dIsL x S fun ys => ∃ bs : List Bool, ys = bs.map (fun b => X.d (.bl b)) ∧ Q (.d (.bl (bs.all id))) S
  | _ => False
def dAny : DRC := fun xs S Q => match xs with
  | [x] => dIsL x S fun ys => ∃ bs : List Bool, ys = bs.map (fun b => X.d (.bl b)) ∧ Q (.d (.bl (bs.any id))) S
  | _ => False
section
variable {K : PySem.W.Frag}
theorem RepXs.one {F : Hp} {vs : List V} {x : X} (r : RepXs K F vs [x]) : ∃ v, vs = [v] ∧ RepX K F v x := by
  cases r with
  | cons r t => cases t; exact ⟨_, rfl, r⟩
theorem RepXs.ints {F : Hp} : ∀ {vs : List V} {ns : List Int}, RepXs K F vs (ns.map fun n => X.d (.int n)) → vs = ns.map V.int
  | _, [], .nil => rfl
  | _, n :: ns, .cons r t => by
    have r := repd_int r
    subst r
    rw [RepXs.ints t]; rfl
theorem RepXs.bools {F : Hp} : ∀ {vs : List V} {ns : List Bool}, RepXs K F vs (ns.map fun n => X.d (.bl n)) → vs = ns.map V.bl
  | _, [], .nil => rfl
  | _, n :: ns, .cons r t => by
    have r := repd_bl r
    subst r
    rw [RepXs.bools t]; rfl
theorem RepXs.of_ints {F : Hp} : ∀ (ns : List Int), RepXs K F (ns.map V.int) (ns.map fun n => X.d (.int n))
  | [] => .nil
  | n :: ns => .cons (show RepX K F (.int n) (.d (.int n)) from Rep.int n) (RepXs.of_ints ns)
theorem rc_len : RC K (fun xs H Q => ∃ x n, xs = [x] ∧ LenV K x H n ∧ Q (.int n) H) dLen := fun A F δ S σ H vs xs Q Q' st rs h k => by
  unfold dLen at h
  split at h
  · rename_i z
    obtain ⟨v, rfl, r⟩ := rs.one
    have r := repd_str r
    subst r
    exact ⟨_, z.length, rfl, ⟨h.1, rfl⟩, go st k (x := .d _) (Rep.int _) h.2⟩
  · obtain ⟨v, rfl, r⟩ := rs.one
    obtain ⟨p, ws, ys, rfl, hs, rr, q⟩ := dSeq.ok st r h
    refine ⟨.ref p, ws.length, rfl, ?_, go st k (x := .d _) (Rep.int _) (by rw [rr.len]; exact q)⟩
    rcases hs with hs | hs
    · exact .inl ⟨ws, hs, rfl⟩
    · exact .inr ⟨ws, hs, rfl⟩
  · exact h.elim
theorem rc_abs : RC K (fun xs H Q => ∃ i, xs = [.int i] ∧ Q (.int (if i < 0 then -i else i)) H) dAbs := fun A F δ S σ H vs xs Q Q' st rs h k => by
  unfold dAbs at h
  split at h
  · obtain ⟨v, rfl, r⟩ := rs.one
    exact ⟨_, by rw [repd_int r], go st k (x := .d _) (Rep.int _) h⟩
  · exact h.elim
theorem rc_int : RC K (fun xs H Q => (∃ i, xs = [.int i] ∧ Q (.int i) H) ∨ ∃ k, xs = [.bl k] ∧ Q (.int (if k then 1 else 0)) H) dInt := fun A F δ S σ H vs xs Q Q' st rs h k => by
  unfold dInt at h
  split at h
  · obtain ⟨v, rfl, r⟩ := rs.one
    exact .inl ⟨_, by rw [repd_int r], go st k (x := .d _) (Rep.int _) h⟩
  · obtain ⟨v, rfl, r⟩ := rs.one
    exact .inr ⟨_, by rw [repd_bl r], go st k (x := .d _) (Rep.int _) h⟩
  · exact h.elim
theorem rc_list : RC K (fun xs H Q => ∃ p ys, xs = [.ref p] ∧ (SqL K H p ys ∨ SqT K H p ys) ∧ ∀ l, H l = none → Q (.ref l) (upd H l (.lst ys))) dListOf := fun A F δ S σ H vs xs Q Q' st rs h k => by
  unfold dListOf at h
  split at h
  · obtain ⟨v, rfl, r⟩ := rs.one
    obtain ⟨p, ws, ys, rfl, hs, rr, q⟩ := dSeq.ok st r h
    exact ⟨p, ws, rfl, hs, fun l hl => goL st k hl rr q⟩
  · exact h.elim
theorem rc_tuple : RC K (fun xs H Q => ∃ p ys, xs = [.ref p] ∧ ((SqL K H p ys ∧ ∀ l, H l = none → Q (.ref l) (upd H l (.tup ys))) ∨ (SqT K H p ys ∧ Q (.ref p) H))) dTupleOf := fun A F δ S σ H vs xs Q Q' st rs h k => by
  unfold dTupleOf at h
  split at h
  · obtain ⟨v, rfl, r⟩ := rs.one
    cases r with
    | tup h1 h2 => exact ⟨_, _, rfl, .inr ⟨ex_t st.fr h1, go st k (x := .d (.tup _)) (Rep.tup h1 h2) h⟩⟩
  · obtain ⟨v, rfl, r⟩ := rs.one
    obtain ⟨p, ws, ys, rfl, hs, rr, ds, hd, q⟩ := dIsL.ok st r h
    exact ⟨p, ws, rfl, .inl ⟨hs, fun l hl => goT st k hl (Reps.of_xs rr hd) q⟩⟩
  · exact h.elim
theorem rc_sortedI : RC K (rSortedI K) dSortedI := fun A F δ S σ H vs xs Q Q' st rs h k => by
  unfold dSortedI at h
  split at h
  · obtain ⟨v, rfl, r⟩ := rs.one
    obtain ⟨p, ws, ys, rfl, hs, rr, ns, hn, q⟩ := dIsL.ok st r h
    subst hn
    rw [rr.ints] at hs
    exact ⟨p, ns, rfl, hs, fun ns' l h1 h2 hl => goL st k hl (RepXs.of_ints ns') (q ns' h1 h2)⟩
  · exact h.elim
theorem rc_all : RC K (rAll K) dAll := fun A F δ S σ H vs xs Q Q' st rs h k => by
  unfold dAll at h
  split at h
  · obtain ⟨v, rfl, r⟩ := rs.one
    obtain ⟨p, ws, ys, rfl, hs, rr, ns, hn, q⟩ := dIsL.ok st r h
    subst hn
    rw [rr.bools] at hs
    exact ⟨p, ns, rfl, hs, go st k (x := .d _) (Rep.bl _) q⟩
  · exact h.elim
theorem rc_any : RC K (rAny K) dAny := fun A F δ S σ H vs xs Q Q' st rs h k => by
  unfold dAny at h
  split at h
  · obtain ⟨v, rfl, r⟩ := rs.one
    obtain ⟨p, ws, ys, rfl, hs, rr, ns, hn, q⟩ := dIsL.ok st r h
    subst hn
    rw [rr.bools] at hs
    exact ⟨p, ns, rfl, hs, go st k (x := .d _) (Rep.bl _) q⟩
  · exact h.elim
end
section
variable {Y : Cx} {W : WX} {p pos : Pos} {e : Expr} {es : List Expr} {ta : TE} {wa : WE}
theorem fa1 (h : FE Y W e ta wa) (hs : starEach [e] Y.env = (false, eval e Y.env) :: starEach [] Y.env := by rfl) : FA Y W [e] (tCons ta tNil) (wCons wa wNil) := fa_cons h fa_nil hs
theorem f_len {K0 : PySem.W.Frag} [hKK : HasK Y K0] (hm : Y.mg "len" = none) (h : FE Y W e ta wa) (hg : Gl Y "len" := by rfl) (he : starEach [e] Y.env = (false, eval e Y.env) :: starEach [] Y.env := by rfl) : FE Y W (.Call (.Name "len" p) [e] [] pos) (tCB (fun xs H Q => ∃ x n, xs = [x] ∧ LenV K0 x H n ∧ Q (.int n) H) (tCons ta tNil)) (wCB dLen (wCons wa wNil)) := by
  obtain ⟨rfl⟩ := hKK
  exact f_callB call_len rc_len hm (fa1 h he) (hg := hg) (he := he)
theorem f_abs (hm : Y.mg "abs" = none) (h : FE Y W e ta wa) (hg : Gl Y "abs" := by rfl) (he : starEach [e] Y.env = (false, eval e Y.env) :: starEach [] Y.env := by rfl) : FE Y W (.Call (.Name "abs" p) [e] [] pos) (tCB (fun xs H Q => ∃ i, xs = [.int i] ∧ Q (.int (if i < 0 then -i else i)) H) (tCons ta tNil)) (wCB dAbs (wCons wa wNil)) :=
  f_callB call_abs rc_abs hm (fa1 h he) (hg := hg) (he := he)
theorem f_intc (hm : Y.mg "int" = none) (h : FE Y W e ta wa) (hg : Gl Y "int" := by rfl) (he : starEach [e] Y.env = (false, eval e Y.env) :: starEach [] Y.env := by rfl) : FE Y W (.Call (.Name "int" p) [e] [] pos) (tCB (fun xs H Q => (∃ i, xs = [.int i] ∧ Q (.int i) H) ∨ ∃ k, xs = [.bl k] ∧ Q (.int (if k then 1 else 0)) H) (tCons ta tNil)) (wCB dInt (wCons wa wNil)) :=
  f_callTy call_int1 rc_int hm (fa1 h he) (hg := hg) (he := he)
theorem f_listc {K0 : PySem.W.Frag} [hKK : HasK Y K0] (hm : Y.mg "list" = none) (h : FE Y W e ta wa) (hg : Gl Y "list" := by rfl) (he : starEach [e] Y.env = (false, eval e Y.env) :: starEach [] Y.env := by rfl) : FE Y W (.Call (.Name "list" p) [e] [] pos) (tCB (fun xs H Q => ∃ p ys, xs = [.ref p] ∧ (SqL K0 H p ys ∨ SqT K0 H p ys) ∧ ∀ l, H l = none → Q (.ref l) (upd H l (.lst ys))) (tCons ta tNil)) (wCB dListOf (wCons wa wNil)) := by
  obtain ⟨rfl⟩ := hKK
  exact f_callTy call_list_of rc_list hm (fa1 h he) (hg := hg) (he := he)
theorem f_tuplec {K0 : PySem.W.Frag} [hKK : HasK Y K0] (hm : Y.mg "tuple" = none) (h : FE Y W e ta wa) (hg : Gl Y "tuple" := by rfl) (he : starEach [e] Y.env = (false, eval e Y.env) :: starEach [] Y.env := by rfl) : FE Y W (.Call (.Name "tuple" p) [e] [] pos) (tCB (fun xs H Q => ∃ p ys, xs = [.ref p] ∧ ((SqL K0 H p ys ∧ ∀ l, H l = none → Q (.ref l) (upd H l (.tup ys))) ∨ (SqT K0 H p ys ∧ Q (.ref p) H))) (tCons ta tNil)) (wCB dTupleOf (wCons wa wNil)) := by
  obtain ⟨rfl⟩ := hKK
  exact f_callTy call_tuple_of rc_tuple hm (fa1 h he) (hg := hg) (he := he)
theorem f_sortedI {K0 : PySem.W.Frag} [hKK : HasK Y K0] (hm : Y.mg "sorted" = none) (h : FE Y W e ta wa) (hg : Gl Y "sorted" := by rfl) (he : starEach [e] Y.env = (false, eval e Y.env) :: starEach [] Y.env := by rfl) : FE Y W (.Call (.Name "sorted" p) [e] [] pos) (tCB (rSortedI K0) (tCons ta tNil)) (wCB dSortedI (wCons wa wNil)) := by
  obtain ⟨rfl⟩ := hKK
  exact f_callB cr_sortedI rc_sortedI hm (fa1 h he) (hg := hg) (he := he)
theorem f_all {K0 : PySem.W.Frag} [hKK : HasK Y K0] (hc : Y.calm = true) (hm : Y.mg "all" = none) (h : FE Y W e ta wa) (hg : Gl Y "all" := by rfl) (he : starEach [e] Y.env = (false, eval e Y.env) :: starEach [] Y.env := by rfl) : FE Y W (.Call (.Name "all" p) [e] [] pos) (tCB (rAll K0) (tCons ta tNil)) (wCB dAll (wCons wa wNil)) := by
  obtain ⟨rfl⟩ := hKK
  exact f_callB (cr_all hc) rc_all hm (fa1 h he) (hg := hg) (he := he)
theorem f_any {K0 : PySem.W.Frag} [hKK : HasK Y K0] (hc : Y.calm = true) (hm : Y.mg "any" = none) (h : FE Y W e ta wa) (hg : Gl Y "any" := by rfl) (he : starEach [e] Y.env = (false, eval e Y.env) :: starEach [] Y.env := by rfl) : FE Y W (.Call (.Name "any" p) [e] [] pos) (tCB (rAny K0) (tCons ta tNil)) (wCB dAny (wCons wa wNil)) := by
  obtain ⟨rfl⟩ := hKK
  exact f_callB (cr_any hc) rc_any hm (fa1 h he) (hg := hg) (he := he)
end

/-! ### methods of lists that may change -/
abbrev DRM := Addr → List X → Store → XQ → Prop
def RM (K : PySem.W.Frag) (r : V → List V → Hp → VK → Prop) (d : DRM) : Prop := ∀ (A : Anc) (F : Hp) (δ : Env) (S : Store) (σ : L2.St) (H : Hp) (a : Addr) (vs : List V) (xs : List X) (Q : XQ) (Q' : VK), ST K A F δ S σ H → RepXs K F vs xs → d a xs S Q →
  (∀ F' S' H' v x, ST K A F' δ S' σ H' → Ex F F' → RepX K F' v x → Q x S' → Q' v H') → r (.ref a) vs H Q'
def isLst (S : Store) (a : Addr) : Prop := ∃ (i : Nat) (ys : List X), S[i]? = some (a, .lst ys)
def wBM (d : DRM) (wo : WE) (wa : WA) : WE := fun δ S Q E => wo δ S (fun o S1 => match o with | .h a => isLst S1 a ∧ wa δ S1 (fun xs S2 => d a xs S2 Q) E | _ => False) E
def lstAt (S : Store) (a : Addr) (k : Nat → List X → Prop) : Prop := ∃ (i : Nat) (ys : List X), S[i]? = some (a, .lst ys) ∧ k i ys
def dAppend : DRM := fun a xs S Q => match xs with
  | [y] => lstAt S a fun i ys => ys.length < sizeLine ∧ Q (.d .non) (S.set i (a, .lst (ys ++ [y])))
  | _ => False
def dPop : DRM := fun a xs S Q => match xs with
  | [] => lstAt S a fun i ys => ∃ y, ys[ys.length - 1]? = some y ∧ Q y (S.set i (a, .lst ys.dropLast))
  | _ => False
def dPopAt : DRM := fun a xs S Q => match xs with
  | [.d (.int n)] => lstAt S a fun i ys => -(2 ^ 63) ≤ n ∧ n < 2 ^ 63 ∧ ∃ k y, seqIndex? n ys.length = some k ∧ ys[k]? = some y ∧ Q y (S.set i (a, .lst (ys.eraseIdx k)))
  | _ => False
def dExtend : DRM := fun a xs S Q => match xs with
  | [.d (.lst ds)] => lstAt S a fun i ys => ys.length + ds.length ≤ sizeLine ∧ Q (.d .non) (S.set i (a, .lst (ys ++ ds.map X.d)))
  | _ => False
section
variable {K : PySem.W.Frag} {W : WX} {A : Anc} {F H : Hp} {δ : Env} {S : Store} {σ : L2.St}
theorem lstAt.ok {a : Addr} {k : Nat → List X → Prop} (st : ST K A F δ S σ H) (h : lstAt S a k) : ∃ i ys vs, S[i]? = some (a, .lst ys) ∧ F a = none ∧ H a = some (.lst vs) ∧ RepXs K F vs ys ∧ k i ys := by
  obtain ⟨i, ys, e, h⟩ := h
  obtain ⟨hf, vs, hp, rr⟩ := st.cell _ (List.mem_of_getElem? e)
  exact ⟨i, ys, vs, e, hf, hp, rr, h⟩
/-- behind a change of a list -/
theorem goW {Q : XQ} {Q' : VK} {v : V} {x : X} {i : Nat} {a : Addr} {ys zs : List X} {vs : List V} (st : ST K A F δ S σ H) (k : ∀ F' S' H' v x, ST K A F' δ S' σ H' → Ex F F' → RepX K F' v x → Q x S' → Q' v H') (e : S[i]? = some (a, .lst ys)) (hf : F a = none)
    (rz : RepXs K F vs zs) (r : RepX K F v x) (q : Q x (S.set i (a, .lst zs))) : Q' v (upd H a (.lst vs)) := k F _ _ v x (st.write (c' := .lst zs) e hf ⟨hf, vs, upd_same, rz⟩) (Ex.refl F) r q
theorem RepXs.dropLast : ∀ {vs : List V} {xs : List X}, RepXs K F vs xs → RepXs K F vs.dropLast xs.dropLast
  | _, _, .nil => .nil
  | _, _, .cons _ .nil => .nil
  | _, _, .cons r (.cons q t) => .cons r (RepXs.dropLast (.cons q t))
theorem RepXs.eraseIdx : ∀ (i : Nat) {vs : List V} {xs : List X}, RepXs K F vs xs → RepXs K F (vs.eraseIdx i) (xs.eraseIdx i)
  | _, _, _, .nil => .nil
  | 0, _, _, .cons _ t => t
  | i + 1, _, _, .cons r t => .cons r (RepXs.eraseIdx i t)
theorem RepXs.set {v : V} {x : X} (rx : RepX K F v x) : ∀ (i : Nat) {vs : List V} {xs : List X}, RepXs K F vs xs → RepXs K F (vs.set i v) (xs.set i x)
  | _, _, _, .nil => .nil
  | 0, _, _, .cons _ t => .cons rx t
  | i + 1, _, _, .cons r t => .cons r (RepXs.set rx i t)
theorem rm_append : RM K rAppend dAppend := fun A F δ S σ H a vs xs Q Q' st rs h k => by
  unfold dAppend at h
  split at h
  · obtain ⟨v, rfl, r⟩ := rs.one
    obtain ⟨i, ys, ws, e, hf, hp, rr, hl, q⟩ := lstAt.ok st h
    exact ⟨a, ws, v, rfl, rfl, hp, by rw [rr.len]; exact hl, goW st k e hf (rr.app (.cons r .nil)) (x := .d .non) Rep.non q⟩
  · exact h.elim
theorem rm_pop : RM K rPop dPop := fun A F δ S σ H a vs xs Q Q' st rs h k => by
  unfold dPop at h
  split at h
  · cases rs
    obtain ⟨i, ys, ws, e, hf, hp, rr, y, hy, q⟩ := lstAt.ok st h
    obtain ⟨v, hv, rv⟩ := rr.get hy
    exact ⟨a, ws, v, rfl, rfl, hp, by rw [rr.len]; exact hv, goW st k e hf rr.dropLast rv q⟩
  · exact h.elim
theorem rm_popAt : RM K rPopAt dPopAt := fun A F δ S σ H a vs xs Q Q' st rs h k => by
  unfold dPopAt at h
  split at h
  · rename_i n
    obtain ⟨v, rfl, r⟩ := rs.one
    obtain ⟨i, ys, ws, e, hf, hp, rr, h1, h2, j, y, hj, hy, q⟩ := lstAt.ok st h
    obtain ⟨w, hw, rv⟩ := rr.get hy
    exact ⟨a, ws, n, j, w, rfl, by rw [repd_int r], hp, h1, h2, by rw [rr.len]; exact hj, hw, goW st k e hf (rr.eraseIdx j) rv q⟩
  · exact h.elim
theorem rm_extend : RM K rExtend dExtend := fun A F δ S σ H a vs xs Q Q' st rs h k => by
  unfold dExtend at h
  split at h
  · obtain ⟨v, rfl, r⟩ := rs.one
    obtain ⟨i, ys, ws, e, hf, hp, rr, hl, q⟩ := lstAt.ok st h
    cases r with
    | lst h1 h2 => exact ⟨a, _, ws, _, rfl, rfl, hp, st.fr _ _ h1, by rw [rr.len, h2.len]; exact hl, goW st k e hf (rr.app h2.xs) (x := .d .non) Rep.non q⟩
  · exact h.elim
theorem re_bm {r : V → List V → Hp → VK → Prop} {d : DRM} {to : TE} {ta : TA} {wo : WE} {wa : WA} (hr : RM K r d) (ho : RE K W to wo) (h : RA K W ta wa) : RE K W (tBM K "list" r to ta) (wBM d wo wa) := fun A F δ S σ H Q E Q' st lk hw k =>
  ho A F δ S σ H _ E _ st lk hw fun F1 S1 H1 v o st1 e1 ro q => by
    split at q
    · rename_i a
      obtain ⟨⟨i, ys, e⟩, q⟩ := q
      have ro : v = .ref a := ro
      subst ro
      obtain ⟨hf, vs, hp, rr⟩ := st1.cell _ (List.mem_of_getElem? e)
      exact ⟨.inl ⟨rfl, vs, SqL.of hp⟩, h A F1 δ S1 σ H1 _ E _ st1 lk q fun F2 S2 H2 ws xs st2 e2 rs q2 => hr A F2 δ S2 σ H2 a ws xs Q Q' st2 rs q2 fun F' S' H' v x a b => k F' S' H' v x a ((e1.trans e2).trans b)⟩
    · exact q.elim
theorem re_bm0 {r : V → List V → Hp → VK → Prop} {d : DRM} {to : TE} {wo : WE} (hr : RM K r d) (ho : RE K W to wo) : RE K W (tBM0 K "list" r to) (wBM d wo wNil) := fun A F δ S σ H Q E Q' st lk hw k =>
  ho A F δ S σ H _ E _ st lk hw fun F1 S1 H1 v o st1 e1 ro q => by
    split at q
    · rename_i a
      obtain ⟨⟨i, ys, e⟩, q⟩ := q
      have ro : v = .ref a := ro
      subst ro
      obtain ⟨hf, vs, hp, rr⟩ := st1.cell _ (List.mem_of_getElem? e)
      exact ⟨.inl ⟨rfl, vs, SqL.of hp⟩, hr A F1 δ S1 σ H1 a [] [] Q Q' st1 .nil q fun F' S' H' v x a b => k F' S' H' v x a (e1.trans b)⟩
    · exact q.elim
def dSetL : DSet := fun o i x S Q => match o, i with
  | .h a, .d (.int n) => lstAt S a fun k ys => ∃ j, ixN ys.length n = some j ∧ Q (S.set k (a, .lst (ys.set j x)))
  | _, _ => False
theorem rset_l : RSet K rSetL dSetL := fun A F δ S σ H vo vi v o i x Q Q' st ro ri rx h k => by
  unfold dSetL at h
  split at h
  · rename_i a n
    obtain ⟨m, ys, ws, e, hf, hp, rr, j, hj, q⟩ := lstAt.ok st h
    exact ⟨a, ws, n, j, ro, repd_int ri, hp, by rw [rr.len]; exact hj, k F _ _ (st.write (c' := .lst (ys.set j x)) e hf ⟨hf, _, upd_same, rr.set rx j⟩) (Ex.refl F) q⟩
  · exact h.elim
/-- a + b, two lists -/
def dL0 (x : X) (S : Store) (k : List X → Prop) : Prop := match x with
  | .d (.lst ds) => k (ds.map X.d)
  | .h a => lstAt S a fun _ ys => k ys
  | _ => False
theorem dL0.ok {x : X} {k : List X → Prop} {v : V} (st : ST K A F δ S σ H) (r : RepX K F v x) (h : dL0 x S k) : ∃ p vs xs, v = .ref p ∧ H p = some (.lst vs) ∧ RepXs K F vs xs ∧ k xs := by
  unfold dL0 at h
  split at h
  · cases r with | lst h1 h2 => exact ⟨_, _, _, rfl, st.fr _ _ h1, h2.xs, h⟩
  · obtain ⟨i, ys, vs, e, hf, hp, rr, q⟩ := lstAt.ok st h
    exact ⟨_, vs, ys, r, hp, rr, q⟩
  · exact h.elim
def dCat : DR2 := fun x y S Q => dL0 x S fun xs => dL0 y S fun ys => xs.length + ys.length ≤ sizeLine ∧ ∀ p, Q (.h p) (S ++ [(p, .lst (xs ++ ys))])
theorem rr_cat : RR K rCat dCat := fun A F δ S σ H v u x y Q Q' st rx ry h k => by
  obtain ⟨p, vs, xs, rfl, hp, rr, h⟩ := dL0.ok st rx h
  obtain ⟨q, ws, ys, rfl, hq, rs, hl, h⟩ := dL0.ok st ry h
  exact ⟨p, q, vs, ws, rfl, rfl, hp, hq, by rw [rr.len, rs.len]; exact hl, fun l hl' => goL st k hl' (rr.app rs) h⟩
end
section
variable {Y : Cx} {W : WX} {pos cpos apos : Pos} {o a b e : Expr} {to ta tb : TE} {wo wa wb : WE}
theorem f_append {K0 : PySem.W.Frag} [hKK : HasK Y K0] (ho : FE Y W o to wo) (h : FE Y W e ta wa) (hbase : attributeBase o "append" Y.env (eval o Y.env) = eval o Y.env := by rfl)
    (hfew : ((backTo cpos (starEach [e] Y.env)).all (fun x => !x.1) && (backToKw cpos (keywordEach [] Y.env)).all (fun x => x.1.isSome) && decide ([e].length + ([] : List Keyword).length + (if ([] : List Keyword).isEmpty then 0 else 1) < 30)) = true := by rfl)
    (hline : (apos.endLine == cpos.line) = true := by rfl) (hs : starEach [e] Y.env = (false, eval e Y.env) :: starEach [] Y.env := by rfl) (hp : (backTo cpos (starEach [] Y.env)).any (·.1) = false := by rfl) :
    FE Y W (.Call (.Attribute o "append" apos) [e] [] cpos) (tBM K0 "list" rAppend to (tCons ta tNil)) (wBM dAppend wo (wCons wa wNil)) := by
  obtain ⟨rfl⟩ := hKK
  exact ⟨pe_bm PySem.F.plainAttrs_list PySem.F.slot_list_append PySem.F.type_list_append mt_append ho.pe (fa1 h hs).pa hbase hfew hline hs hp, re_bm rm_append ho.re (fa1 h hs).re⟩
theorem f_extend {K0 : PySem.W.Frag} [hKK : HasK Y K0] (ho : FE Y W o to wo) (h : FE Y W e ta wa) (hbase : attributeBase o "extend" Y.env (eval o Y.env) = eval o Y.env := by rfl)
    (hfew : ((backTo cpos (starEach [e] Y.env)).all (fun x => !x.1) && (backToKw cpos (keywordEach [] Y.env)).all (fun x => x.1.isSome) && decide ([e].length + ([] : List Keyword).length + (if ([] : List Keyword).isEmpty then 0 else 1) < 30)) = true := by rfl)
    (hline : (apos.endLine == cpos.line) = true := by rfl) (hs : starEach [e] Y.env = (false, eval e Y.env) :: starEach [] Y.env := by rfl) (hp : (backTo cpos (starEach [] Y.env)).any (·.1) = false := by rfl) :
    FE Y W (.Call (.Attribute o "extend" apos) [e] [] cpos) (tBM K0 "list" rExtend to (tCons ta tNil)) (wBM dExtend wo (wCons wa wNil)) := by
  obtain ⟨rfl⟩ := hKK
  exact ⟨pe_bm PySem.F.plainAttrs_list PySem.F.slot_list_extend PySem.F.type_list_extend mt_extend ho.pe (fa1 h hs).pa hbase hfew hline hs hp, re_bm rm_extend ho.re (fa1 h hs).re⟩
theorem f_popAt {K0 : PySem.W.Frag} [hKK : HasK Y K0] (ho : FE Y W o to wo) (h : FE Y W e ta wa) (hbase : attributeBase o "pop" Y.env (eval o Y.env) = eval o Y.env := by rfl)
    (hfew : ((backTo cpos (starEach [e] Y.env)).all (fun x => !x.1) && (backToKw cpos (keywordEach [] Y.env)).all (fun x => x.1.isSome) && decide ([e].length + ([] : List Keyword).length + (if ([] : List Keyword).isEmpty then 0 else 1) < 30)) = true := by rfl)
    (hline : (apos.endLine == cpos.line) = true := by rfl) (hs : starEach [e] Y.env = (false, eval e Y.env) :: starEach [] Y.env := by rfl) (hp : (backTo cpos (starEach [] Y.env)).any (·.1) = false := by rfl) :
    FE Y W (.Call (.Attribute o "pop" apos) [e] [] cpos) (tBM K0 "list" rPopAt to (tCons ta tNil)) (wBM dPopAt wo (wCons wa wNil)) := by
  obtain ⟨rfl⟩ := hKK
  exact ⟨pe_bm PySem.F.plainAttrs_list PySem.F.slot_list_pop PySem.F.type_list_pop mt_popAt ho.pe (fa1 h hs).pa hbase hfew hline hs hp, re_bm rm_popAt ho.re (fa1 h hs).re⟩
theorem f_pop {K0 : PySem.W.Frag} [hKK : HasK Y K0] (ho : FE Y W o to wo) (hbase : attributeBase o "pop" Y.env (eval o Y.env) = eval o Y.env := by rfl) (hline : (apos.endLine == cpos.line) = true := by rfl) :
    FE Y W (.Call (.Attribute o "pop" apos) [] [] cpos) (tBM0 K0 "list" rPop to) (wBM dPop wo wNil) := by
  obtain ⟨rfl⟩ := hKK
  exact ⟨pe_bm0 PySem.F.plainAttrs_list PySem.F.slot_list_pop PySem.F.type_list_pop mt_pop ho.pe hbase hline, re_bm0 rm_pop ho.re⟩
theorem f_cat (ha : FE Y W a ta wa) (hb : FE Y W b tb wb) : FE Y W (.BinOp a .Add b pos) (tOp rCat ta tb) (wOp dCat wa wb) := f_op op_cat rr_cat ha hb
end

/-! ### attributes -/
def wFld (C : Addr) (f : Str) (w : WE) : WE := fun δ S Q E => w δ S (fun x S1 => match x with
  | .d (.obj C' fs) => C' = C ∧ ∃ d, fs.lookup f = some d ∧ Q (.d d) S1
  | .h a => ∃ (i : Nat) (fs : List (Str × X)) (y : X), S1[i]? = some (a, .obj C fs) ∧ fs.lookup f = some y ∧ Q y S1
  | _ => False) E
def putX (f : Str) (v : X) : List (Str × X) → List (Str × X)
  | [] => [(f, v)]
  | (k, w) :: r => if k = f then (f, v) :: r else (k, w) :: putX f v r
def wSFld (C : Addr) (f : Str) (wv wo : WE) : WS := fun Δ δ S E => wv δ S (fun y S1 => wo δ S1 (fun o S2 => match o with
  | .h a => ∃ (i : Nat) (fs : List (Str × X)), S2[i]? = some (a, .obj C fs) ∧ fs.length < 1000 ∧ Δ.nx δ (S2.set i (a, .obj C (putX f y fs)))
  | _ => False) E) E
section
variable {K : PySem.W.Frag} {W : WX} {C : Addr} {f : Str}
theorem re_fld {te : TE} {w : WE} (cl : Cls K C) (na : NoAttr K C f) (h : RE K W te w) : RE K W (tFld K te f) (wFld C f w) := fun A F δ S σ H Q E Q' st lk hw k =>
  h A F δ S σ H _ E _ st lk hw fun F1 S1 H1 v x st1 e1 r q => by
    split at q
    · obtain ⟨rfl, d, hd, q⟩ := q
      cases r with
      | obj h1 h2 =>
        obtain ⟨u, hu, ru⟩ := h2.lookup hd
        exact ⟨_, _, _, _, u, rfl, st1.fr _ _ h1, cl, na, hu, k F1 S1 H1 u (.d d) st1 e1 ru q⟩
    · rename_i a
      obtain ⟨i, fs, y, e, hy, q⟩ := q
      obtain ⟨hf, dx, ws, hp, rr⟩ := st1.cell _ (List.mem_of_getElem? e)
      obtain ⟨u, hu, ru⟩ := RepXF.lookup rr hy
      exact ⟨a, C, dx, ws, u, r, hp, cl, na, hu, k F1 S1 H1 u y st1 e1 ru q⟩
    · exact q.elim
theorem putX_rep {F : Hp} {v : V} {x : X} (r : RepX K F v x) : ∀ {ws : List (Str × V)} {fs : List (Str × X)}, RepXF K F ws fs → RepXF K F (putF f v ws) (putX f x fs)
  | _, _, .nil => .cons ⟨rfl, r⟩ .nil
  | (k, w) :: ws, (k', y) :: fs, .cons q t => by
    obtain ⟨q1, q2⟩ := q
    have q1 : k = k' := q1
    subst q1
    unfold putF putX
    by_cases e : k = f
    · rw [if_pos e, if_pos e]; exact .cons ⟨e, r⟩ t
    · rw [if_neg e, if_neg e]; exact .cons ⟨rfl, q2⟩ (putX_rep r t)
theorem rs_sfld {to tv : TE} {wo wv : WE} (cl : Cls K C) (na : NoAttr K C f) (ho : RE K W to wo) (hv : RE K W tv wv) : RS K W (sFld K to tv f) (wSFld C f wv wo) := fun A F δ S σ H D Δ E st ld lk hw =>
  hv A F δ S σ H _ E _ st lk hw fun F1 S1 H1 v y st1 e1 ry q => ho A F1 δ S1 σ H1 _ E _ st1 lk q fun F2 S2 H2 u o st2 e2 ro q2 => by
    split at q2
    · rename_i a
      obtain ⟨i, fs, e, hl, q2⟩ := q2
      obtain ⟨hf, dx, ws, hp, rr⟩ := st2.cell _ (List.mem_of_getElem? e)
      have hlen : ws.length = fs.length := Paired.length rr
      exact ⟨a, C, dx, ws, ro, hp, cl, na, by rw [hlen]; exact hl, ld.nx _ _ _ _ _ (st2.write (c' := .obj C (putX f y fs)) e hf ⟨hf, dx, _, upd_same, putX_rep (ry.mono e2) rr⟩) q2⟩
    · exact q2.elim
end
section
variable {Y : Cx} {W : WX} {C : Addr} {f : Str} {o e value : Expr} {pos pos' : Pos} {ta tv : TE} {wa wv : WE}
theorem f_fld {K0 : PySem.W.Frag} [hKK : HasK Y K0] (cl : Cls K0 C) (na : NoAttr K0 C f) (h : FE Y W e ta wa) (hb : attributeBase e f Y.env (eval e Y.env) = eval e Y.env := by rfl) : FE Y W (.Attribute e f pos) (tFld K0 ta f) (wFld C f wa) := by
  obtain ⟨rfl⟩ := hKK
  exact ⟨pe_fld h.pe hb, re_fld cl na h.re⟩
theorem fs_fld {K0 : PySem.W.Frag} [hKK : HasK Y K0] (cl : Cls K0 C) (na : NoAttr K0 C f) (ho : FE Y W o ta wa) (hv : FE Y W value tv wv) (hs : swapsWith value (some (.Attribute o f pos')) pos.line Y.env = pure false := by rfl) :
    FS Y W (.Assign [.Attribute o f pos'] value pos) (sFld K0 ta tv f) (wSFld C f wv wa) := by
  obtain ⟨rfl⟩ := hKK
  exact ⟨ps_fld ho.pe hv.pe hs, rs_sfld cl na ho.re hv.re⟩
end

/-! ### what is walked -/
def wIL (w : WE) : WI := fun δ S R E => w δ S (fun x S1 => match x with
  | .d (.lst ds) => R (ds.map X.d) S1
  | .d (.scr ds) => R (ds.map X.d) S1
  | _ => False) E
def wITu (w : WE) : WI := fun δ S R E => w δ S (fun x S1 => match x with
  | .d (.tup ds) => R (ds.map X.d) S1
  | _ => False) E
def rgX (lo : Int) (n : Nat) : List X := (List.range n).map fun i => X.d (.int (lo + (i : Nat)))
def wIR1 (wa : WA) : WI := fun δ S R E => wa δ S (fun xs S1 => match xs with
  | [.d (.int j)] => -(2 ^ 62) ≤ j ∧ j < 2 ^ 62 ∧ R (rgX 0 j.toNat) S1
  | _ => False) E
def wIR2 (wa : WA) : WI := fun δ S R E => wa δ S (fun xs S1 => match xs with
  | [.d (.int i), .d (.int j)] => (-(2 ^ 62) ≤ i ∧ i < 2 ^ 62 ∧ -(2 ^ 62) ≤ j ∧ j < 2 ^ 62) ∧ R (rgX i (j - i).toNat) S1
  | _ => False) E
section
variable {K : PySem.W.Frag} {W : WX}
theorem walk_l {F1 : Hp} {p : Addr} {vs : List V} {ds : List D} (hs : ∀ H, Ex F1 H → SqL K H p vs) (r : Reps K F1 vs ds) : Walk K (Itl K p) F1 (ds.map X.d) where
  go := fun i F H hi e1 e2 => by
    rw [List.length_map] at hi
    obtain ⟨v, hv, _⟩ := r.get (List.getElem?_eq_getElem hi)
    exact ⟨vs, v, hs H (e1.trans e2), hv⟩
  yld := fun i F H v H' x hx e1 e2 hy => by
    obtain ⟨rfl, hy⟩ := hy
    have hv := hy vs (hs _ (e1.trans e2))
    obtain ⟨d, hd, rd⟩ := r.get' hv
    rw [List.getElem?_map, hd] at hx
    cases hx
    exact ⟨F, .inl ⟨rfl, rfl⟩, rd.mono e1⟩
  stop := fun F H e1 e2 => ⟨vs, hs H (e1.trans e2), by rw [List.length_map, r.len]; exact Nat.le_refl _⟩
theorem walk_t {F1 : Hp} {p : Addr} {vs : List V} {ds : List D} (hs : ∀ H, Ex F1 H → SqT K H p vs) (r : Reps K F1 vs ds) : Walk K (Itt K p) F1 (ds.map X.d) where
  go := fun i F H hi e1 e2 => by
    rw [List.length_map] at hi
    obtain ⟨v, hv, _⟩ := r.get (List.getElem?_eq_getElem hi)
    exact ⟨vs, v, hs H (e1.trans e2), hv⟩
  yld := fun i F H v H' x hx e1 e2 hy => by
    obtain ⟨rfl, hy⟩ := hy
    have hv := hy vs (hs _ (e1.trans e2))
    obtain ⟨d, hd, rd⟩ := r.get' hv
    rw [List.getElem?_map, hd] at hx
    cases hx
    exact ⟨F, .inl ⟨rfl, rfl⟩, rd.mono e1⟩
  stop := fun F H e1 e2 => ⟨vs, hs H (e1.trans e2), by rw [List.length_map, r.len]; exact Nat.le_refl _⟩
theorem walk_r {F1 : Hp} {lo : Int} {n : Nat} : Walk K (Itr lo n) F1 (rgX lo n) where
  go := fun i F H hi e1 e2 => by
    simp only [rgX, List.length_map, List.length_range] at hi
    exact hi
  yld := fun i F H v H' x hx e1 e2 hy => by
    obtain ⟨rfl, rfl⟩ := hy
    simp only [rgX, List.getElem?_map] at hx
    cases q : (List.range n)[i]? with
    | none => rw [q] at hx; cases hx
    | some j =>
      rw [q] at hx
      cases hx
      obtain ⟨h1, h2⟩ := List.getElem?_eq_some_iff.mp q
      simp at h2
      subst h2
      exact ⟨F, .inl ⟨rfl, rfl⟩, Rep.int _⟩
  stop := fun F H e1 e2 => by
    show n ≤ (rgX lo n).length
    simp [rgX]
theorem ri_list {te : TE} {w : WE} (h : RE K W te w) : RI K W (iList K te) (wIL w) := fun A F δ S σ H R E R' st lk hw k =>
  h A F δ S σ H _ E _ st lk hw fun F1 S1 H1 v x st1 e1 r q => by
    split at q
    · cases r with
      | lst h1 h2 => exact ⟨_, rfl, ⟨_, SqL.of (st1.fr _ _ h1)⟩, k F1 S1 H1 _ _ st1 e1 (walk_l (fun H e => SqL.of (e _ _ h1)) h2) q⟩
    · cases r with
      | scr h1 h2 => exact ⟨_, rfl, ⟨_, ex_l st1.fr h1⟩, k F1 S1 H1 _ _ st1 e1 (walk_l (fun H e => ex_l e h1) h2) q⟩
    · exact q.elim
theorem ri_tup {te : TE} {w : WE} (h : RE K W te w) : RI K W (iTup K te) (wITu w) := fun A F δ S σ H R E R' st lk hw k =>
  h A F δ S σ H _ E _ st lk hw fun F1 S1 H1 v x st1 e1 r q => by
    split at q
    · cases r with
      | tup h1 h2 => exact ⟨_, rfl, ⟨_, ex_t st1.fr h1⟩, k F1 S1 H1 _ _ st1 e1 (walk_t (fun H e => ex_t e h1) h2) q⟩
    · exact q.elim
theorem ri_range1 {ta : TA} {wa : WA} (h : RA K W ta wa) : RI K W (iRng1 ta) (wIR1 wa) := fun A F δ S σ H R E R' st lk hw k =>
  h A F δ S σ H _ E _ st lk hw fun F1 S1 H1 vs xs st1 e1 rs q => by
    split at q
    · obtain ⟨v, rfl, r⟩ := rs.one
      exact ⟨_, by rw [repd_int r], q.1, q.2.1, k F1 S1 H1 _ _ st1 e1 walk_r q.2.2⟩
    · exact q.elim
theorem ri_range2 {ta : TA} {wa : WA} (h : RA K W ta wa) : RI K W (iRng2 ta) (wIR2 wa) := fun A F δ S σ H R E R' st lk hw k =>
  h A F δ S σ H _ E _ st lk hw fun F1 S1 H1 vs xs st1 e1 rs q => by
    split at q
    · cases rs with
      | cons r1 rs =>
        obtain ⟨v, rfl, r2⟩ := RepXs.one rs
        exact ⟨_, _, by rw [repd_int r1, repd_int r2], q.1, k F1 S1 H1 _ _ st1 e1 walk_r q.2⟩
    · exact q.elim
end
end DP

set_option Elab.async false
set_option linter.all false
set_option maxRecDepth 100000
set_option maxHeartbeats 1000000
namespace DP
open PySem PySem.Spec PyProof.Rows L2
open Evl (Ex ex_l ex_t ex_rd fresh_back)

abbrev W0 : WX := fun _ _ _ _ => False
abbrev E0' : XR := fun _ _ _ => False
structure FTs (Y : Cx) (ifs : List Expr) (tt : TT) (wt : WT) : Prop where
  pt : PTs Y ifs tt
  re : RT Y.K W0 tt wt
def wYes : WT := fun _ S Q _ => Q true S
theorem rt_yes {K : PySem.W.Frag} {W : WX} : RT K W tYes wYes := fun A F δ S σ H Q E Q' st lk h k => k F S H true st (Ex.refl F) h
theorem fts_nil {Y : Cx} : FTs Y [] tYes wYes := ⟨pts_nil, rt_yes⟩
theorem fts_one {Y : Cx} {c : Expr} {t : TT} {w : WT} (h : FT Y W0 c t w) : FTs Y [c] t w := ⟨pts_one h.pt, h.re⟩

def wipeD (δ : Env) : List Nat → Env
  | [] => δ
  | v :: vs => (wipeD δ vs).set v none
theorem wipeD_len (δ : Env) : ∀ vs : List Nat, (wipeD δ vs).length = δ.length
  | [] => rfl
  | v :: vs => by unfold wipeD; rw [List.length_set, wipeD_len δ vs]
theorem wipeD_some {δ : Env} {i : Nat} {x : X} : ∀ {vs : List Nat}, (wipeD δ vs)[i]? = some (some x) → δ[i]? = some (some x) ∧ i ∉ vs
  | [], h => ⟨h, by simp⟩
  | v :: vs, h => by
    unfold wipeD at h
    by_cases hi : v = i
    · subst hi
      by_cases hv : v < (wipeD δ vs).length
      · rw [List.getElem?_set_self hv] at h; cases h
      · rw [List.getElem?_eq_none (by simpa using hv)] at h; cases h
    · rw [List.getElem?_set_ne hi] at h
      obtain ⟨h1, h2⟩ := wipeD_some h
      exact ⟨h1, by simp only [List.mem_cons, not_or]; exact ⟨fun e => hi e.symm, h2⟩⟩
section
variable {K : PySem.W.Frag} {A : Anc} {F F' H H' : Hp} {δ δ' : Env} {S S' : Store} {σ σ' : L2.St}
theorem ST.wiped (st : ST K A F δ S σ H) (vs : List Nat) : ST K A F (wipeD δ vs) S (wipe σ vs) H := st.setEnv (fun i x e => by
  obtain ⟨h1, h2⟩ := wipeD_some e
  obtain ⟨v, hv, r⟩ := st.env i x h1
  exact ⟨v, by rw [wipe_get, if_neg h2]; exact hv, r⟩) (by rw [wipeD_len, wipe_length]; exact st.len)
/-- the names as they were -/
theorem ST.envOf (st : ST K A F δ' S σ' H) {A0 : Anc} {F0 H0 : Hp} {S0 : Store} (st0 : ST K A0 F0 δ S0 σ H0) (e : Ex F0 F) : ST K A F δ S σ H := st.setEnv (fun i x h => by
  obtain ⟨v, hv, r⟩ := st0.env i x h
  exact ⟨v, hv, r.mono e⟩) st0.len
end

/-! ### list comprehensions -/
def lcD (dg : DTg) (wt : WT) (we : WE) (n : Nat) (D : Addr) (Q : XQ) (δ0 : Env) : List X → Store → Prop
  | [], S => Q (.h D) S
  | x :: xs, S => dg x δ0 S fun δ2 S2 => wt δ2 S2 (fun b S3 => if b = true then we δ2 S3 (fun y S4 => ∃ acc, S4[n]? = some (D, .lst acc) ∧ acc.length < sizeLine ∧ lcD dg wt we n D Q δ0 xs (S4.set n (D, .lst (acc ++ [y])))) E0'
      else lcD dg wt we n D Q δ0 xs S3) E0'
def wLc (wi : WI) (dg : DTg) (wt : WT) (we : WE) (vs : List Nat) : WE := fun δ S Q E => wi δ S (fun xs S1 => ∀ D, lcD dg wt we S1.length D Q (wipeD δ vs) xs (S1 ++ [(D, .lst [])])) E
section
variable {K : PySem.W.Frag} {W : WX}
theorem re_lc {wi : TI} {wit : WI} {g : TG} {dg : DTg} {ws vs : List Nat} {tt : TT} {wt : WT} {te : TE} {we : WE} (hi : RI K W wi wit) (hg : RG K g dg ws) (hws : ∀ i ∈ ws, i ∈ vs) (ht : RT K W0 tt wt) (he : RE K W0 te we) : RE K W (tLc wi g tt te vs) (wLc wit dg wt we vs) :=
  fun A F δ S σ H Q E Q' st lk hw k => hi A F δ S σ H _ E _ st lk hw fun F1 S1 H1 xs J st1 e1 wk q => by
    intro D hD
    have st2 : ST K A F1 δ (S1 ++ [(D, .lst [])]) σ (upd H1 D (.lst [])) := st1.made (c := .lst []) hD ⟨fresh_back st1.fr hD, [], upd_same, .nil⟩
    generalize hn : S1.length = n at q
    refine ⟨fun i m H => m = xs.length - i ∧ i ≤ xs.length ∧ ∃ F S, ST K (A.at F1) F (wipeD δ vs) S (wipe σ vs) H ∧ lcD dg wt we n D Q (wipeD δ vs) (xs.drop i) S, ⟨_, rfl, Nat.zero_le _, F1, _, (st2.begin).wiped vs, q D⟩, ?_⟩
    rintro i m H2 ⟨rfl, hle, F2, S2, s2, q2⟩
    by_cases hlt : i < xs.length
    · refine .inr ⟨wk.go i F2 H2 hlt s2.a1 s2.fr, fun H' => ∃ F S, ST K (A.at F1) F (wipeD δ vs) S (wipe σ vs) H' ∧ lcD dg wt we n D Q (wipeD δ vs) (xs.drop (i + 1)) S, fun H' z => ⟨_, by omega, rfl, hlt, z⟩, fun v H' hy => ?_⟩
      obtain ⟨F3, s3, r3⟩ := wk.step s2 (List.getElem?_eq_getElem hlt) hy
      rw [List.drop_eq_getElem_cons hlt] at q2
      refine hg _ F3 (wipeD δ vs) S2 (wipe σ vs) H' v _ _ _ s3 r3 q2 fun F4 δ4 S4 σ4 H4 s4 _ wr q4 => ⟨(wr vs hws).trans (wipe_wipe σ vs), ?_⟩
      refine ht _ F4 δ4 S4 σ4 H4 _ E0' _ s4 link0 q4 fun F5 S5 H5 b s5 _ q5 => ?_
      cases b with
      | true =>
        refine iteT (he _ F5 δ4 S5 σ4 H5 _ E0' _ s5 link0 q5 fun F6 S6 H6 y x s6 _ r6 ⟨acc, ha, hl, q6⟩ => ?_)
        obtain ⟨hf, us, hp, rr⟩ := s6.cell _ (List.mem_of_getElem? ha)
        refine ⟨us, hp, by rw [rr.len]; exact hl, F6, _, ?_, q6⟩
        exact (s6.write (c' := .lst (acc ++ [x])) ha hf ⟨hf, _, upd_same, rr.app (.cons r6 .nil)⟩).envOf (st1.wiped vs) s6.a1
      | false => exact iteF ⟨F5, S5, s5.envOf (st1.wiped vs) s5.a1, q5⟩
    · have e : i = xs.length := by omega
      subst e
      rw [List.drop_length] at q2
      exact .inl ⟨wk.stop F2 H2 s2.a1 s2.fr, k F2 S2 H2 (.ref D) (.h D) ((s2.back (st1.wiped vs)).envOf st1 s2.a1) (e1.trans s2.a1) rfl q2⟩
/-- two for clauses -/
def lc2In (dg : DTg) (wt : WT) (we : WE) (n : Nat) (D : Addr) (k : Store → Prop) (δ0 : Env) : List X → Store → Prop
  | [], S => k S
  | x :: xs, S => dg x δ0 S fun δ2 S2 => wt δ2 S2 (fun b S3 => if b = true then we δ2 S3 (fun y S4 => ∃ acc, S4[n]? = some (D, .lst acc) ∧ acc.length < sizeLine ∧ lc2In dg wt we n D k δ0 xs (S4.set n (D, .lst (acc ++ [y])))) E0'
      else lc2In dg wt we n D k δ0 xs S3) E0'
def lc2D (dg : DTg) (wt : WT) (wi1 : WI) (dg1 : DTg) (wt1 : WT) (we : WE) (vs1 : List Nat) (n : Nat) (D : Addr) (Q : XQ) (δ0 : Env) : List X → Store → Prop
  | [], S => Q (.h D) S
  | x :: xs, S => dg x δ0 S fun δ2 S2 => wt δ2 S2 (fun b S3 => if b = true then wi1 δ2 S3 (fun ys S4 => lc2In dg1 wt1 we n D (fun S5 => lc2D dg wt wi1 dg1 wt1 we vs1 n D Q δ0 xs S5) (wipeD δ2 vs1) ys S4) E0'
      else lc2D dg wt wi1 dg1 wt1 we vs1 n D Q δ0 xs S3) E0'
def wLc2 (wi : WI) (dg : DTg) (wt : WT) (wi1 : WI) (dg1 : DTg) (wt1 : WT) (we : WE) (vs vs1 : List Nat) : WE := fun δ S Q E => wi δ S (fun xs S1 => ∀ D, lc2D dg wt wi1 dg1 wt1 we vs1 S1.length D Q (wipeD δ vs) xs (S1 ++ [(D, .lst [])])) E
theorem re_lc2 {wi wi1 : TI} {wit wit1 : WI} {g g1 : TG} {dg dg1 : DTg} {ws ws1 vs vs1 : List Nat} {tt tt1 : TT} {wt wt1 : WT} {te : TE} {we : WE} (hi : RI K W wi wit) (hg : RG K g dg ws) (hws : ∀ i ∈ ws, i ∈ vs) (ht : RT K W0 tt wt)
    (hi1 : RI K W0 wi1 wit1) (hg1 : RG K g1 dg1 ws1) (hws1 : ∀ i ∈ ws1, i ∈ vs1) (ht1 : RT K W0 tt1 wt1) (he : RE K W0 te we) : RE K W (tLc2 wi g tt wi1 g1 tt1 te vs vs1) (wLc2 wit dg wt wit1 dg1 wt1 we vs vs1) :=
  fun A F δ S σ H Q E Q' st lk hw k => hi A F δ S σ H _ E _ st lk hw fun F1 S1 H1 xs J st1 e1 wk q => by
    intro D hD
    have st2 : ST K A F1 δ (S1 ++ [(D, .lst [])]) σ (upd H1 D (.lst [])) := st1.made (c := .lst []) hD ⟨fresh_back st1.fr hD, [], upd_same, .nil⟩
    generalize hn : S1.length = n at q
    refine ⟨fun i m H => m = xs.length - i ∧ i ≤ xs.length ∧ ∃ F S, ST K (A.at F1) F (wipeD δ vs) S (wipe σ vs) H ∧ lc2D dg wt wit1 dg1 wt1 we vs1 n D Q (wipeD δ vs) (xs.drop i) S, ⟨_, rfl, Nat.zero_le _, F1, _, (st2.begin).wiped vs, q D⟩, ?_⟩
    rintro i m H2 ⟨rfl, hle, F2, S2, s2, q2⟩
    by_cases hlt : i < xs.length
    · refine .inr ⟨wk.go i F2 H2 hlt s2.a1 s2.fr, fun H' => ∃ F S, ST K (A.at F1) F (wipeD δ vs) S (wipe σ vs) H' ∧ lc2D dg wt wit1 dg1 wt1 we vs1 n D Q (wipeD δ vs) (xs.drop (i + 1)) S, fun H' z => ⟨_, by omega, rfl, hlt, z⟩, fun v H' hy => ?_⟩
      obtain ⟨F3, s3, r3⟩ := wk.step s2 (List.getElem?_eq_getElem hlt) hy
      rw [List.drop_eq_getElem_cons hlt] at q2
      refine hg _ F3 (wipeD δ vs) S2 (wipe σ vs) H' v _ _ _ s3 r3 q2 fun F4 δ4 S4 σ4 H4 s4 _ wr q4 => ⟨(wr vs hws).trans (wipe_wipe σ vs), ?_⟩
      refine ht _ F4 δ4 S4 σ4 H4 _ E0' _ s4 link0 q4 fun F5 S5 H5 b s5 _ q5 => ?_
      cases b with
      | false => exact iteF ⟨F5, S5, s5.envOf (st1.wiped vs) s5.a1, q5⟩
      | true =>
        refine iteT (hi1 _ F5 δ4 S5 σ4 H5 _ E0' _ s5 link0 q5 fun F6 S6 H6 ys J1 s6 _ wk1 q6 => ?_)
        refine ⟨fun j m H => m = ys.length - j ∧ j ≤ ys.length ∧ ∃ F S, ST K ((A.at F1).at F6) F (wipeD δ4 vs1) S (wipe σ4 vs1) H ∧ lc2In dg1 wt1 we n D (fun S5 => lc2D dg wt wit1 dg1 wt1 we vs1 n D Q (wipeD δ vs) (xs.drop (i + 1)) S5) (wipeD δ4 vs1) (ys.drop j) S,
          ⟨_, rfl, Nat.zero_le _, F6, _, (s6.begin).wiped vs1, q6⟩, ?_⟩
        rintro j m H7 ⟨rfl, hle7, F7, S7, s7, q7⟩
        by_cases hlt7 : j < ys.length
        · refine .inr ⟨wk1.go j F7 H7 hlt7 s7.a1 s7.fr, fun H' => ∃ F S, ST K ((A.at F1).at F6) F (wipeD δ4 vs1) S (wipe σ4 vs1) H' ∧ lc2In dg1 wt1 we n D (fun S5 => lc2D dg wt wit1 dg1 wt1 we vs1 n D Q (wipeD δ vs) (xs.drop (i + 1)) S5) (wipeD δ4 vs1) (ys.drop (j + 1)) S, fun H' z => ⟨_, by omega, rfl, hlt7, z⟩, fun v8 H8 hy8 => ?_⟩
          obtain ⟨F8, s8, r8⟩ := wk1.step s7 (List.getElem?_eq_getElem hlt7) hy8
          rw [List.drop_eq_getElem_cons hlt7] at q7
          refine hg1 _ F8 (wipeD δ4 vs1) S7 (wipe σ4 vs1) H8 v8 _ _ _ s8 r8 q7 fun F9 δ9 S9 σ9 H9 s9 _ wr9 q9 => ⟨(wr9 vs1 hws1).trans (wipe_wipe σ4 vs1), ?_⟩
          refine ht1 _ F9 δ9 S9 σ9 H9 _ E0' _ s9 link0 q9 fun Fa Sa Ha b sa _ qa => ?_
          cases b with
          | true =>
            refine iteT (he _ Fa δ9 Sa σ9 Ha _ E0' _ sa link0 qa fun Fb Sb Hb y x sb _ rb ⟨acc, ha, hl, qb⟩ => ?_)
            obtain ⟨hf, us, hp, rr⟩ := sb.cell _ (List.mem_of_getElem? ha)
            refine ⟨us, hp, by rw [rr.len]; exact hl, Fb, _, ?_, qb⟩
            exact (sb.write (c' := .lst (acc ++ [x])) ha hf ⟨hf, _, upd_same, rr.app (.cons rb .nil)⟩).envOf (s6.wiped vs1) sb.a1
          | false => exact iteF ⟨Fa, Sa, sa.envOf (s6.wiped vs1) sa.a1, qa⟩
        · have e : j = ys.length := by omega
          subst e
          rw [List.drop_length] at q7
          have s7' : ST K (A.at F1) F7 (wipeD δ4 vs1) S7 (wipe σ4 vs1) H7 := s7.back (s6.wiped vs1)
          exact .inl ⟨wk1.stop F7 H7 s7.a1 s7.fr, F7, S7, s7'.envOf (st1.wiped vs) s7'.a1, q7⟩
    · have e : i = xs.length := by omega
      subst e
      rw [List.drop_length] at q2
      exact .inl ⟨wk.stop F2 H2 s2.a1 s2.fr, k F2 S2 H2 (.ref D) (.h D) ((s2.back (st1.wiped vs)).envOf st1 s2.a1) (e1.trans s2.a1) rfl q2⟩
end
section
variable {Y : Cx} {W : WX} {elt tg iter tg1 iter1 : Expr} {ifs ifs1 : List Expr} {scope : Scope} {pos spos : Pos} {wi wi1 : TI} {wit wit1 : WI} {g g1 : TG} {dg dg1 : DTg} {ws ws1 : List Nat} {tt tt1 : TT} {wt wt1 : WT} {te : TE} {we : WE}
theorem f_lc {own : List (Str × Nat)} (hc : Y.calm = true) (hN : Y.N.Nodup) (ok : blkC Y.N Y.env.scope scope own = true) (hi : FI Y W tg iter wi wit)
    (hg : ∀ (s : Shared) (H : Hp) (C : Addr) (cl : List (Str × Addr)) (fp : List Addr), FG (Y.blk s H scope (compEnvC scope cl C Y.env) fp) tg g dg ws) (ht : ∀ (s : Shared) (H : Hp) (C : Addr) (cl : List (Str × Addr)) (fp : List Addr), FTs (Y.blk s H scope (compEnvC scope cl C Y.env) fp) ifs tt wt)
    (he : ∀ (s : Shared) (H : Hp) (C : Addr) (cl : List (Str × Addr)) (fp : List Addr), FE (Y.blk s H scope (compEnvC scope cl C Y.env) fp) W0 elt te we) (hws : ∀ i ∈ ws, i ∈ own.map (·.2) := by decide) (hs : ∀ x, foldedSetIterable iter Y.env x = pure x := by intro _; rfl) :
    FE Y W (.ListComp elt [⟨tg, iter, ifs, 0⟩] scope pos) (tLc wi g tt te (own.map (·.2))) (wLc wit dg wt we (own.map (·.2))) :=
  ⟨pe_lc hc hN hi.pi (blkOk_by ok) (fun s H C cl fp => (hg s H C cl fp).pg) (fun s H C cl fp => (ht s H C cl fp).pt) (fun s H C cl fp => (he s H C cl fp).pe) hs,
    re_lc hi.re (hg ({} : Shared) (fun _ => none) 0 [] []).re hws (ht ({} : Shared) (fun _ => none) 0 [] []).re (he ({} : Shared) (fun _ => none) 0 [] []).re⟩
theorem fs_setLc {i : Nat} {y : Str} {py : Pos} {own : List (Str × Nat)} (hc : Y.calm = true) (hN : Y.N.Nodup) (ok : blkC Y.N Y.env.scope scope own = true) (hi : FI Y W tg iter wi wit)
    (hg : ∀ (s : Shared) (H : Hp) (C : Addr) (cl : List (Str × Addr)) (fp : List Addr), FG (Y.blk s H scope (compEnvC scope cl C Y.env) fp) tg g dg ws) (ht : ∀ (s : Shared) (H : Hp) (C : Addr) (cl : List (Str × Addr)) (fp : List Addr), FTs (Y.blk s H scope (compEnvC scope cl C Y.env) fp) ifs tt wt)
    (he : ∀ (s : Shared) (H : Hp) (C : Addr) (cl : List (Str × Addr)) (fp : List Addr), FE (Y.blk s H scope (compEnvC scope cl C Y.env) fp) W0 elt te we)
    (hy : Y.N[i]? = some y := by rfl) (hyl : Y.env.scope.names.lookup y = some .local := by rfl)
    (hsw : swapsWith (.ListComp elt [⟨tg, iter, ifs, 0⟩] scope pos) (some (.Name y py)) spos.line Y.env = pure true := by exact sw_true rfl rfl rfl (by decide +kernel))
    (hws : ∀ i ∈ ws, i ∈ own.map (·.2) := by decide) (hs : ∀ x, foldedSetIterable iter Y.env x = pure x := by intro _; rfl) :
    FS Y W (.Assign [.Name y py] (.ListComp elt [⟨tg, iter, ifs, 0⟩] scope pos) spos) (tAsg (tLc wi g tt te (own.map (·.2))) (gName i)) (wAsg (wLc wit dg wt we (own.map (·.2))) (dName i)) :=
  ⟨ps_setLc hc hN hy hyl hsw hi.pi (blkOk_by ok) (fun s H C cl fp => (hg s H C cl fp).pg) (fun s H C cl fp => (ht s H C cl fp).pt) (fun s H C cl fp => (he s H C cl fp).pe) hs,
    rs_asg (re_lc hi.re (hg ({} : Shared) (fun _ => none) 0 [] []).re hws (ht ({} : Shared) (fun _ => none) 0 [] []).re (he ({} : Shared) (fun _ => none) 0 [] []).re) rg_name⟩
theorem f_lc2 {own : List (Str × Nat)} {vs1 : List Nat} (hc : Y.calm = true) (hN : Y.N.Nodup) (ok : blkC Y.N Y.env.scope scope own = true) (hi : FI Y W tg iter wi wit)
    (hg : ∀ (s : Shared) (H : Hp) (C : Addr) (cl : List (Str × Addr)) (fp : List Addr), FG (Y.blk s H scope (compEnvC scope cl C Y.env) fp) tg g dg ws) (ht : ∀ (s : Shared) (H : Hp) (C : Addr) (cl : List (Str × Addr)) (fp : List Addr), FTs (Y.blk s H scope (compEnvC scope cl C Y.env) fp) ifs tt wt)
    (hi1 : ∀ (s : Shared) (H : Hp) (C : Addr) (cl : List (Str × Addr)) (fp : List Addr), FI (Y.blk s H scope (compEnvC scope cl C Y.env) fp) W0 tg1 iter1 wi1 wit1)
    (hg1 : ∀ (s : Shared) (H : Hp) (C : Addr) (cl : List (Str × Addr)) (fp : List Addr), FG (Y.blk s H scope (compEnvC scope cl C Y.env) fp) tg1 g1 dg1 ws1) (ht1 : ∀ (s : Shared) (H : Hp) (C : Addr) (cl : List (Str × Addr)) (fp : List Addr), FTs (Y.blk s H scope (compEnvC scope cl C Y.env) fp) ifs1 tt1 wt1)
    (he : ∀ (s : Shared) (H : Hp) (C : Addr) (cl : List (Str × Addr)) (fp : List Addr), FE (Y.blk s H scope (compEnvC scope cl C Y.env) fp) W0 elt te we)
    (hv : ∀ i ∈ vs1, i ∈ own.map (·.2) := by decide) (hws : ∀ i ∈ ws, i ∈ own.map (·.2) := by decide) (hws1 : ∀ i ∈ ws1, i ∈ vs1 := by decide) (hs : ∀ x, foldedSetIterable iter Y.env x = pure x := by intro _; rfl)
    (hs1 : ∀ env x, foldedSetIterable iter1 env x = pure x := by intro _ _; rfl) :
    FE Y W (.ListComp elt [⟨tg, iter, ifs, 0⟩, ⟨tg1, iter1, ifs1, 0⟩] scope pos) (tLc2 wi g tt wi1 g1 tt1 te (own.map (·.2)) vs1) (wLc2 wit dg wt wit1 dg1 wt1 we (own.map (·.2)) vs1) :=
  ⟨pe_lc2 hc hN hi.pi (blkOk_by ok) hv (fun s H C cl fp => (hg s H C cl fp).pg) (fun s H C cl fp => (ht s H C cl fp).pt) (fun s H C cl fp => (hi1 s H C cl fp).pi) (fun s H C cl fp => (hg1 s H C cl fp).pg) (fun s H C cl fp => (ht1 s H C cl fp).pt) (fun s H C cl fp => (he s H C cl fp).pe) hs hs1,
    re_lc2 hi.re (hg ({} : Shared) (fun _ => none) 0 [] []).re hws (ht ({} : Shared) (fun _ => none) 0 [] []).re (hi1 ({} : Shared) (fun _ => none) 0 [] []).re (hg1 ({} : Shared) (fun _ => none) 0 [] []).re hws1 (ht1 ({} : Shared) (fun _ => none) 0 [] []).re (he ({} : Shared) (fun _ => none) 0 [] []).re⟩
end
end DP

set_option Elab.async false
set_option linter.all false
set_option maxRecDepth 100000
set_option maxHeartbeats 1000000
namespace DP
open PySem PySem.Spec PyProof.Rows L2
open Evl (Ex ex_l ex_t ex_rd fresh_back)

/-! ### defs that are run where no repr is under way -/
structure FnG (P : Program) (w : World) (K : PySem.W.Frag) (mg : Str → Option Value) (base : Heap) (CX : CXT) (k : Nat) (f : Addr) (fd : FuncData) (ps : List Str) (sp : Sp) : Prop where
  len : ∀ vs H Q E, sp vs H Q E → vs.length = ps.length
  run : ∀ (A : Around), A.guards = some [] → ∀ (outer : List PySem.Env) (s : Shared) (H : Hp) (args : Args) (us : List Value) (vs : List V) (Q : VK) (E : XK), Room k A → Env0 P w K mg base A outer s H → BindsTo s fd args (ps.zip us) → Vals vs us → sp vs H Q E →
    codeAny (model P w) A (.call (.ref f) args) (CR CX outer P w H s Q E) s
section
variable {P : Program} {w : World} {K : PySem.W.Frag} {mg : Str → Option Value} {base : Heap} {CX : CXT} {k : Nat} {f : Addr} {fd : FuncData} {ps : List Str} {sp : Sp}
theorem FnG.of (F : FnOk P w K mg base CX k f fd ps sp) : FnG P w K mg base CX k f fd ps sp := ⟨F.len, fun A _ => F.run A⟩
/-- the body's end is the call's end -/
theorem end_of {N : List Str} {qual : Str} {sc : Scope} {cdv : Value} {A : Around} {outer : List PySem.Env} {s s' : Shared} {H : Hp} {Q : VK} {E : XK} : ∀ {fl : Flow},
    SP (cxOf CX P w K mg base N qual sc f cdv A outer s H E) [] { nx := fun _ H' => Q .non H', rt := Q } fl s' → ∃ u, CE outer P w H s Q u s' ∧ (fl = .ret u ∨ (fl = .next ∧ u = .none))
  | .ret u, ⟨v, σ', H', J, rv, q⟩ => ⟨u, ⟨v, H', J.os, J.bare, J.base, J.hok, rv, q⟩, .inl rfl⟩
  | .next, ⟨σ', H', J, q⟩ => ⟨.none, ⟨.non, H', J.os, J.bare, J.base, J.hok, rfl, q⟩, .inr ⟨rfl, rfl⟩⟩
  | .brk, ⟨_, _, _, q⟩ => q.elim
  | .cont, ⟨_, _, _, q⟩ => q.elim
/-- a def by its body, guards told -/
theorem Fun.okG {x qual : Str} {st : Stmt} {N : List Str} (F : Fun K x qual st f fd) (S : FnScope N ps (defScope st)) (len : ∀ vs H Q E, sp vs H Q E → vs.length = ps.length)
    (hbody : ∀ (cdv : Value) (A : Around) (outer : List PySem.Env) (s : Shared) (H : Hp) (vs : List V) (Q : VK) (E : XK), A.guards = some [] → Room k (A.deeper (envOfC qual (defScope st) s.heap.objs.size f cdv)) → sp vs H Q E →
      ∃ t, PSs (cxOf CX P w K mg base N qual (defScope st) f cdv A outer s H E) (defBody st) t ∧ t { nx := fun _ H' => Q .non H', rt := Q } (L2.start N vs) H) : FnG P w K mg base CX (k + 1) f fd ps sp := by
  obtain ⟨oc, od, kV, doc, pm, an, cdv, ct, osl, rfl, lk, hcd⟩ := F.ex
  refine ⟨len, fun A hg outer s H args us vs Q E hr e0 hb rv hsp => ?_⟩
  have base_in : ∀ b o, base.get? b = some o → s.heap.get? b = some o := fun b o e => (e0.bs b o e).1
  have KX : K.In s.heap := e0.mod.kin.keeps base_in
  have kinds : ∀ y ∈ ps.zip us, (defScope st).names.lookup y.1 = some .local ∨ ((defScope st).names.lookup y.1 = some .cell ∧ ((cellsFrom (s.heap.objs.size + 1) (defScope st).names []).lookup y.1).isSome = true) := by
    rintro ⟨n, v⟩ hy
    exact (S.par n (List.of_mem_zip hy).1).imp id fun q => ⟨q, PySem.W.cellsFrom_some _ _ _ (.inl q)⟩
  refine codeAny_call_function hr.depth (KX _ _ lk) rfl S.co S.gen rfl (PySem.W.codeRec_of KX hcd) (hb _ _ _ _ (wpAny_newFunctionEnv_cells S.kind kinds fun env he s1 x => ?_))
  subst he
  refine ⟨(e0.mod.nolimit.keeps base_in).keeps x.toInCall.keep, codeAny_func ?_⟩
  obtain ⟨t, ht, hq⟩ := hbody cdv A outer s H vs Q E hg (hr.deeper _) hsp
  have I0 := inv_start (CX := CX) (f := f) (cd := cdv) (qual := qual) (E := E) S hr.hd e0 (len _ _ _ _ hsp) rv x
  refine wpAny_mono (ht.run [] s1 (L2.start N vs) H _ I0 hq) (fun fl s' hs => ?_) fun e s' hs => hs
  obtain ⟨u, hu, rfl | ⟨rfl, rfl⟩⟩ := end_of hs
  · exact hu
  · exact hu
end
section
variable {X : Cx} {CX : CXT} {k : Nat} {f : Addr} {fd : FuncData} {ps : List Str} {sp : Sp} {dvs : List V} {ds : List Value} {E : XK} {x : Str} {p pos : Pos} {e : Expr} {es : List Expr} {t : TA}
theorem run_G {pins : List (Addr × Obj)} {σ : L2.St} {H : Hp} {s : Shared} {Q : VK} {us : List Value} {vs : List V} (hgd : X.A.guards = some []) (F : FnG X.prog X.w X.K X.mg X.base CX k f fd ps sp) (hr : Room k X.A) (hb : Binds X.K fd ps ds) (hd : Vals dvs ds) (hx : Passes CX X E)
    (I : Inv X pins σ H s) (r : Vals vs us) (h : sp (vs ++ dvs) H Q E) : wpAny (model X.prog X.w) X.A (call (.ref f) us) (EP X pins σ Q) X.xe s := by
  have rr := r.append hd
  have hl := F.len _ _ _ _ h
  rw [rr.length] at hl
  refine wpAny_call (codeAny_mono (F.run X.A hgd X.stack s H ⟨us, []⟩ (us ++ ds) (vs ++ dvs) Q E hr I.env0 (hb s us I.kIn hl) rr h) fun q s' hq => ?_)
  match q, hq with
  | .error e, hq => exact hx pins σ H s e s' I hq
  | .ok (.ret u), hq => exact I.after hq
theorem pe_callG (hgd : X.A.guards = some []) (F : FnG X.prog X.w X.K X.mg X.base CX k f fd ps sp) (hr : Room k X.A) (hg : Gl X x) (hm : X.mg x = some (.ref f)) (hk : PySem.W.keepIn X.K (.ref f) = true) (hb : Binds X.K fd ps ds) (hd : Vals dvs ds) (hx : Passes CX X E)
    (ha : PA X (e :: es) t) (hdb : (x == ("__debug__" : Str)) = false := by decide) (he : starEach (e :: es) X.env = (false, eval e X.env) :: starEach es X.env := by rfl) (hpl : (backTo pos (starEach es X.env)).any (·.1) = false := by rfl) :
    PE X (.Call (.Name x p) (e :: es) [] pos) (tCall sp dvs E t) := ⟨fun pins s σ H Q I h => wpAny_Call_Name_kw (ld_glob I hg hm (PySem.W.callWith_K (h₀ := X.base) I.ok.mod.kin hk
      (thn (ha.run pos pins s σ H _ I h) fun us s1 ⟨vs, H1, I1, rv, q⟩ => ⟨I1.kIn, run_G hgd F hr hb hd hx I1 rv q⟩) he hpl) hdb)⟩
end

/-! ### the law's own call -/
theorem law_callG {P : Program} {w : World} {K : PySem.W.Frag} {mg mb : Str → Option Value} {CX : CXT} {k : Nat} {fa a : Addr} {fd : FuncData} {x : Str} {sp : Sp} {s₁ : Shared} {vs : List Value} {ns : List Int}
    (KX : K.In s₁.heap) (hns : s₁.heap.Ns mainGlobals mg) (hb : s₁.heap.Ns builtinsNs mb) (hbb : ∀ x : Str, x ≠ "__name__" → mb x = bootBuiltins x) (hlim : s₁.heap.NoLimit) (hg : s₁.gens = #[])
    (ha : s₁.heap.get? a = some { cls := .type "list", data := .seq vs.toArray }) (hi : IntsAre vs ns) (hl : ns.length ≤ sizeLine) (hr : Room k callerA)
    (F : ∀ base : Heap, K.In base → base.Ns mainGlobals mg → FnG P w K mg base CX k fa fd [x] sp) (hbind : ∀ (s : Shared) (u : Value), BindsTo s fd ⟨[u], []⟩ [(x, u)])
    (hsp : ∀ H : Hp, Only H → SqL K H a (ns.map V.int) → sp [.ref a] H (fun v _ => v = .bl true) fun _ _ _ => False)
    (hCX : ∀ H e s', CX [] H s₁ (fun _ _ _ => False) e s' → False) :
    codeAny (model P w) callerA (.call (.ref fa) ⟨[.ref a], []⟩) (fun r s' => r = .ok (.ret (.bool true)) ∧ OldK s₁.heap s'.heap ∧ s'.os = s₁.os ∧ AllBare s'.gens) s₁ := by
  -- what is tracked at the entry: the script, unless it is the written part's own
  have main : ∀ H : Hp, Only H → SqL K H a (ns.map V.int) → HOk P w H s₁.heap → (∀ b u, H b = some u → b = a ∧ K.lookup a = none) →
      codeAny (model P w) callerA (.call (.ref fa) ⟨[.ref a], []⟩) (fun r s' => r = .ok (.ret (.bool true)) ∧ OldK s₁.heap s'.heap ∧ s'.os = s₁.os ∧ AllBare s'.gens) s₁ := fun H hO hS hok hA => by
    have lone : ∀ b o, s₁.heap.get? b = some o → (b = a → o.data = .seq vs.toArray) := fun b o e z => by
      subst z; rw [ha] at e; cases e; rfl
    have freeDict : ∀ b o es ep, s₁.heap.get? b = some o → o.data = .dict es ep → H b = none := fun b o es ep e d => by
      cases q : H b with
      | none => rfl
      | some u => have := lone b o e (hA b u q).1; rw [d] at this; cases this
    have nsAt : ∀ b m, s₁.heap.Ns b m → (hidT s₁.heap H).Ns b m := fun b m ⟨o, es, ep, e, d, r⟩ => ⟨o, es, ep, hidT_get e (freeDict b o es ep e d), d, r⟩
    have kinH : K.In (hidT s₁.heap H) := fun b o e => hidT_get (KX b o e) (by
      cases q : H b with
      | none => rfl
      | some u =>
        obtain ⟨rfl, z⟩ := hA b u q
        rw [z] at e; cases e)
    have modH : Mod K mg (hidT s₁.heap H) := ⟨kinH, nsAt _ _ hns, ⟨mb, nsAt _ _ hb, hbb⟩, hlim.imp fun mc z => ⟨nsAt _ _ z.1, z.2⟩⟩
    have env : Env0 P w K mg (hidT s₁.heap H) callerA [] s₁ H := { frames := rfl, mod := modH, bs := fun b o e => of_hidT e, bsz := Nat.le_of_eq (hidT_size _ _), funs := trivial, frf := fun b hb => by simp [frs] at hb, hok := hok, bare := .of_eq hg }
    refine codeAny_mono ((F _ kinH (nsAt _ _ hns)).run callerA rfl [] s₁ H ⟨[.ref a], []⟩ [.ref a] [.ref a] _ _ hr env (hbind s₁ (.ref a)) (.cons rfl .nil) (hsp H hO hS)) fun r s' h => ?_
    match r, h with
    | .error e, h => exact (hCX H e s' h).elim
    | .ok (.ret u), ⟨v, H', os, bare, un, hok', rv, q⟩ =>
      have q : v = .bl true := q
      subst q
      have rv : u = Value.bool true := rv
      subst rv
      refine ⟨rfl, OldK.of_keep fun b o e => ?_, os, bare⟩
      rcases hO b with z | ⟨ob, xs, z⟩
      · exact un.keep b o e z (by simp [frs]) (by simp)
      · have e1 := (hok b _ z).1
        have e2 := (hok' b _ (un.frzs b ob _ z)).1
        rw [e] at e1; cases e1
        exact e2
  have vrel := vals_ints hi
  cases hk : K.lookup a with
  | some o =>
    have e := KX a o hk
    rw [ha] at e
    cases e
    exact main (fun _ => none) (fun _ => .inl rfl) (.inr ⟨_, vs.toArray, _, hk, rfl, rfl, rfl, by rw [List.size_toArray, hi.length]; exact hl, by simpa using vrel⟩) (fun b u z => by cases z) fun b u z => by cases z
  | none =>
    let ob : Obj := { cls := .type "list", data := .seq vs.toArray }
    have hsome : ∀ b u, (if b = a then some (HO.frz ob (.lst (ns.map V.int))) else none) = some u → b = a ∧ u = .frz ob (.lst (ns.map V.int)) := fun b u z => by
      split at z
      · rename_i hb; cases z; exact ⟨hb, rfl⟩
      · cases z
    refine main (fun b => if b = a then some (.frz ob (.lst (ns.map V.int))) else none) (fun b => ?_) (.inl (.inr ⟨ob, if_pos rfl⟩)) (fun b u z => ?_) fun b u z => ⟨(hsome b u z).1, hk⟩
    · by_cases hb : b = a
      · exact .inr ⟨ob, _, if_pos hb⟩
      · exact .inl (if_neg hb)
    · obtain ⟨rfl, rfl⟩ := hsome b u z
      exact ⟨ha, by rw [List.length_map]; exact hl, vs, _, vrel, ha⟩
theorem walkG {l : PySem.W.OpenLaw} {n k : Nat} {q : Program} {loose : List Str} {XP : (Str → Option Value) → Heap → Prop} {YP : World → Heap → Prop} {d : DefRec} {K : Params → PySem.W.Frag} {sp : PySem.W.Frag → Sp} {x : Str}
    (hn : l.most = some n) (hn2 : n ≤ sizeLine) (hdf : d.params.defaults = []) (hr : Room k callerA) (hY : ∀ (w : World) (h : Heap), YP w h → (K w.params).In h)
    (F : ∀ (w : World) (mg : Str → Option Value) (fa : Addr) (h : Heap), (K w.params).In h → h.Ns mainGlobals mg → mg d.name = some (.ref fa) →
      ∃ fd : FuncData, (∀ (s : Shared) (u : Value), BindsTo s fd ⟨[u], []⟩ [(x, u)]) ∧ ∀ base : Heap, (K w.params).In base → base.Ns mainGlobals mg → FnG l.prog w (K w.params) mg base CX0 k fa fd [x] (sp (K w.params)))
    (hsp : ∀ (K : PySem.W.Frag) (H : Hp) (a : Addr) (ns : List Int), ns.length ≤ n → Only H → SqL K H a (ns.map V.int) → sp K [.ref a] H (fun v _ => v = .bl true) fun _ _ _ => False) :
    PySem.W.WalkO q loose XP YP l.row.toRowW d [] (fun f vs => PySem.call f vs) :=
  Att.attach_call hn hdf fun w s₀ s₁ mg mb fa o pm cd doc a vs ns G Y ho hd hcd hmg hobj hints hlen hg => by
    obtain ⟨fd, hb, hF⟩ := F w mg fa _ (hY w _ Y) G.T.g hmg
    exact law_callG (hY w _ Y) G.T.g G.T.b G.T.builtins G.T.nolimit hg hobj hints (Nat.le_trans hlen hn2) hr hF hb (fun H hO hS => hsp _ H a ns hlen hO hS) fun H e s' z => z

/-! ### repr of data -/
mutual
theorem D.nodict : ∀ (d : D) (p : PyData), d.py = some p → p.hasDict = false
  | .non, p, h => by cases h; rfl
  | .bl _, p, h => by cases h; rfl
  | .int _, p, h => by cases h; rfl
  | .str _, p, h => by cases h; rfl
  | .ty _, p, h => by cases h
  | .glob _, p, h => by cases h
  | .tup xs, p, h => by
    simp only [D.py, Option.map_eq_some_iff] at h
    obtain ⟨ps, e, rfl⟩ := h
    unfold PyData.hasDict
    exact D.nodicts xs ps e
  | .lst xs, p, h => by
    simp only [D.py, Option.map_eq_some_iff] at h
    obtain ⟨ps, e, rfl⟩ := h
    unfold PyData.hasDict
    exact D.nodicts xs ps e
  | .scr xs, p, h => by
    simp only [D.py, Option.map_eq_some_iff] at h
    obtain ⟨ps, e, rfl⟩ := h
    unfold PyData.hasDict
    exact D.nodicts xs ps e
  | .dct _, p, h => by cases h
  | .obj _ _, p, h => by cases h
theorem D.nodicts : ∀ (ds : List D) (ps : List PyData), pys ds = some ps → PyData.hasDictAll ps = false
  | [], ps, h => by cases h; rfl
  | d :: ds, ps, h => by
    unfold pys at h
    cases e1 : d.py with
    | none => rw [e1] at h; cases h
    | some p =>
      cases e2 : pys ds with
      | none => rw [e1, e2] at h; cases h
      | some qs =>
        rw [e1, e2] at h
        cases h
        unfold PyData.hasDictAll
        rw [D.nodict d p e1, D.nodicts ds qs e2]
        rfl
end
end DP

set_option Elab.async false
set_option linter.all false
set_option maxRecDepth 100000
set_option maxHeartbeats 1000000
namespace DP
open PySem PySem.Spec PyProof.Rows L2
open Evl (Ex ex_l ex_t ex_rd fresh_back)

/-! ### repr -/
def rRepr (K : PySem.W.Frag) : List V → Hp → VK → Prop := fun xs H Q => ∃ x p, xs = [x] ∧ Dp K H x p ∧ p.showable = true ∧ p.hasDict = false ∧ p.shown.length ≤ sizeLine ∧ SeqAt.shaped p = true ∧ Q (.str p.shown) H
theorem call_repr {Y : Cx} (hg : Y.A.guards = some []) (hu : Y.A.units + 66 < cLine) : CallR Y (.builtin "repr") (rRepr Y.K) := by
  intro pins s σ H xs us Q I r h
  obtain ⟨x, p, rfl, hp, hs, hd, hl, hsh, q⟩ := h
  obtain ⟨u, rfl, rx⟩ := vals1 r
  cases hp with
  | non => cases (show u = Value.none from rx); exact PySem.P.repr_of_none ⟨.str _, H, I.tok _, ⟨_, rfl⟩, q⟩
  | bl b => cases (show u = Value.bool b from rx); exact PySem.P.repr_of_bool ⟨.str _, H, I.tok _, ⟨_, rfl⟩, q⟩
  | int i =>
    obtain ⟨t, rfl⟩ := (show ∃ t, u = Value.int i t from rx)
    exact PySem.P.repr_of_int (by simpa [PyData.showable] using hs) ⟨.str _, H, I.tok _, ⟨_, rfl⟩, q⟩
  | str y =>
    obtain ⟨t, rfl⟩ := (show ∃ t, u = Value.str y t from rx)
    exact PySem.P.repr_of_str ⟨.str _, H, I.tok _, ⟨_, rfl⟩, q⟩ hl
  | lst h1 h2 =>
    obtain ⟨as, rd⟩ := Dp.reads I _ _ _ (Dp.lst h1 h2) rx
    cases rx
    refine repr_of_reads' rd hs (fun z => by rw [hd] at z; cases z) hg (by have := SeqAt.depth_of_shaped hsh; omega) (fun b o e => e) (fun h' v tk k => ?_) hl
    exact ⟨.str _, H, I.kept (t' := tk) k, ⟨_, rfl⟩, q⟩
  | tup h1 h2 =>
    obtain ⟨as, rd⟩ := Dp.reads I _ _ _ (Dp.tup h1 h2) rx
    cases rx
    refine repr_of_reads' rd hs (fun z => by rw [hd] at z; cases z) hg (by have := SeqAt.depth_of_shaped hsh; omega) (fun b o e => e) (fun h' v tk k => ?_) hl
    exact ⟨.str _, H, I.kept (t' := tk) k, ⟨_, rfl⟩, q⟩
def dRepr : DRC := fun xs S Q => match xs with
  | [x] => dPy x S fun p => p.showable = true ∧ p.shown.length ≤ sizeLine ∧ SeqAt.shaped p = true ∧ Q (.d (.str p.shown)) S
  | _ => False
section
variable {K : PySem.W.Frag} {A : Anc} {F H : Hp} {δ : Env} {S : Store} {σ : L2.St}
theorem dPy.okd {x : X} {k : PyData → Prop} {v : V} (st : ST K A F δ S σ H) (r : RepX K F v x) (h : dPy x S k) : ∃ p, Dp K H v p ∧ p.hasDict = false ∧ k p := by
  unfold dPy at h
  split at h
  · obtain ⟨p, e, h⟩ := h
    exact ⟨p, Rep.dp st.fr r e, D.nodict _ _ e, h⟩
  · obtain ⟨i, xs, ds, ps, e, e1, e2, h⟩ := h
    obtain ⟨_, vs, hp, rr⟩ := st.cell _ (List.mem_of_getElem? e)
    have r : v = .ref _ := r
    subst r
    exact ⟨_, .lst (SqL.of hp) (Reps.dp st.fr (Reps.of_xs rr e1) e2), by unfold PyData.hasDict; exact D.nodicts ds ps e2, h⟩
  · exact h.elim
theorem rc_repr : RC K (rRepr K) dRepr := fun A F δ S σ H vs xs Q Q' st rs h k => by
  unfold dRepr at h
  split at h
  · obtain ⟨v, rfl, r⟩ := rs.one
    obtain ⟨p, hp, hd, h1, h2, h3, q⟩ := dPy.okd st r h
    exact ⟨v, p, rfl, hp, h1, hd, h2, h3, go st k (x := .d _) (Rep.str _) q⟩
  · exact h.elim
end

/-! ### isinstance -/
/-- an own class as isinstance sees it -/
structure OwnC (K : PySem.W.Frag) (C : Addr) : Prop where
  cl : Cls K C
  ha : PySem.W.findIn K (.ref C) "__class__" = some (some (.builtin "object.__class__"))
  hn : PySem.W.specialIn K (.builtin "object.__class__") "__get__" = some (some (.builtin "getset_descriptor.__get__"))
  htk : PySem.W.takesIn K (.builtin "object.__class__") = some true
  hm : PySem.W.mroIn K C (.type "object") = some true
def tyD : D → Option String
  | .non => some "NoneType"
  | .bl _ => some "bool"
  | .int _ => some "int"
  | .str _ => some "str"
  | .tup _ => some "tuple"
  | .lst _ => some "list"
  | .scr _ => some "list"
  | .dct _ => some "dict"
  | _ => none
def TyD (K : PySem.W.Frag) (S : Store) (x : X) (k : Value → Prop) : Prop := match x with
  | .d (.obj C _) => OwnC K C ∧ k (.ref C)
  | .d d => (match tyD d with | some n => k (.type n) | none => False)
  | .h a => ∃ (i : Nat) (c : Cell), S[i]? = some (a, c) ∧ (match c with | .lst _ => k (.type "list") | .dct _ => k (.type "dict") | .obj C _ => OwnC K C ∧ k (.ref C) | .dead => False)
  | .e _ _ _ _ => False
section
variable {K : PySem.W.Frag} {A : Anc} {F H : Hp} {δ : Env} {S : Store} {σ : L2.St}
theorem TyD.ok {x : X} {k : Value → Prop} {v : V} (st : ST K A F δ S σ H) (r : RepX K F v x) (h : TyD K S x k) : ∃ t, TyX K H v t ∧ k t := by
  unfold TyD at h
  split at h
  · obtain ⟨o, h⟩ := h
    cases r with
    | obj h1 h2 => exact ⟨_, .base (.ins (st.fr _ _ h1) o.cl o.ha o.hn o.htk o.hm), h⟩
  · rename_i d _
    have r : Rep K F v d := r
    split at h
    · rename_i n e
      cases r with
      | non => cases e; exact ⟨_, .base .non, h⟩
      | bl b => cases e; exact ⟨_, .base (.bl b), h⟩
      | int i => cases e; exact ⟨_, .base (.int i), h⟩
      | str i => cases e; exact ⟨_, .base (.str i), h⟩
      | tup h1 h2 =>
        cases e
        rcases ex_t st.fr h1 with (h1 | ⟨o, h1⟩) | ⟨o, its, m, h1, h3, _⟩
        · exact ⟨_, .base (.tup h1), h⟩
        · exact ⟨_, .fTuple h1, h⟩
        · exact ⟨_, .kTuple h1 h3, h⟩
      | lst h1 h2 => cases e; exact ⟨_, .base (.lst (st.fr _ _ h1)), h⟩
      | scr h1 h2 =>
        cases e
        rcases ex_l st.fr h1 with (h1 | ⟨o, h1⟩) | ⟨o, its, m, h1, h3, _⟩
        · exact ⟨_, .base (.lst h1), h⟩
        · exact ⟨_, .base (.frz h1), h⟩
        · exact ⟨_, .kList h1 h3, h⟩
      | dct h1 h2 => cases e; exact ⟨_, .fDict (st.fr _ _ h1), h⟩
      | _ => cases e
    · exact h.elim
  · rename_i a
    have r : v = .ref a := r
    subst r
    obtain ⟨i, c, e, h⟩ := h
    have hc := st.cell _ (List.mem_of_getElem? e)
    cases c with
    | dead => exact h.elim
    | lst xs => obtain ⟨_, vs, hp, _⟩ := hc; exact ⟨_, .base (.lst hp), h⟩
    | dct xs => obtain ⟨_, vs, hp, _⟩ := hc; exact ⟨_, .base (.dK hp), h⟩
    | obj C xs => obtain ⟨_, dx, vs, hp, _⟩ := hc; exact ⟨_, .base (.ins hp h.1.cl h.1.ha h.1.hn h.1.htk h.1.hm), h.2⟩
  · exact h.elim
def clsOf : X → Option Value
  | .d (.ty n) => some (.type n)
  | .d (.glob C) => some (.ref C)
  | _ => none
theorem clsOf.ok {x : X} {u : Value} {v : V} (r : RepX K F v x) (h : clsOf x = some u) : ClsV v u := by
  unfold clsOf at h
  split at h
  · cases h; cases r; exact .ty _
  · cases h; cases r; exact .own _
  · cases h
def clsAll : List X → Option (List Value)
  | [] => some []
  | x :: r => match clsOf x, clsAll r with
    | some u, some us => some (u :: us)
    | _, _ => none
theorem clsAll.ok : ∀ {xs : List X} {us : List Value} {vs : List V}, RepXs K F vs xs → clsAll xs = some us → Paired ClsV vs us
  | [], _, _, .nil, h => by cases h; exact .nil
  | x :: xs, _, _, .cons r t, h => by
    unfold clsAll at h
    cases e1 : clsOf x with
    | none => rw [e1] at h; cases h
    | some p =>
      cases e2 : clsAll xs with
      | none => rw [e1, e2] at h; cases h
      | some ps =>
        rw [e1, e2] at h
        cases h
        exact .cons (clsOf.ok r e1) (clsAll.ok t e2)
def dIsi (K : PySem.W.Frag) : DRC := fun xs S Q => match xs with
  | [x, c] => TyD K S x fun t => ∃ u b, clsOf c = some u ∧ PySem.W.kitOne K t u = some b ∧ Q (.d (.bl b)) S
  | _ => False
theorem rc_isi : RC K (rIsi K) (dIsi K) := fun A F δ S σ H vs xs Q Q' st rs h k => by
  unfold dIsi at h
  split at h
  · cases rs with
    | cons r1 rs =>
      obtain ⟨v2, rfl, r2⟩ := RepXs.one rs
      obtain ⟨t, ty, u, b, hu, hb, q⟩ := TyD.ok st r1 h
      exact ⟨_, v2, t, u, b, rfl, clsOf.ok r2 hu, ty, hb, go st k (x := .d _) (Rep.bl _) q⟩
  · exact h.elim
/-- isinstance(x, (T1, T2)) -/
def wIsiT (K : PySem.W.Frag) (we : WE) (wa : WA) : WE := fun δ S Q E => we δ S (fun x S1 => wa δ S1 (fun cs S2 => cs.length ≤ sizeLine ∧ TyD K S2 x fun t => ∃ us b, clsAll cs = some us ∧ PySem.W.kitAny K t us = some b ∧ Q (.d (.bl b)) S2) E) E
theorem re_isiT {W : WX} {te : TE} {ta : TA} {we : WE} {wa : WA} (h1 : RE K W te we) (h2 : RA K W ta wa) : RE K W (tCB (rIsiT K) (tCons te (tCons (tTup ta) tNil))) (wIsiT K we wa) := fun A F δ S σ H Q E Q' st lk hw k =>
  h1 A F δ S σ H _ E _ st lk hw fun F1 S1 H1 v x st1 e1 r1 q1 => h2 A F1 δ S1 σ H1 _ E _ st1 lk q1 fun F2 S2 H2 vs cs st2 e2 rs ⟨hl, q2⟩ => ⟨by rw [rs.len]; exact hl, fun p hp => by
    have st3 : ST K A F2 δ S2 σ (upd H2 p (.tup vs)) := st2.junk hp
    obtain ⟨t, ty, us, b, hu, hb, q⟩ := TyD.ok st3 (r1.mono e2) q2
    exact ⟨v, p, vs, t, us, b, rfl, upd_same, clsAll.ok rs hu, ty, hb, k F2 S2 _ _ (.d (.bl b)) st3 (e1.trans e2) (Rep.bl _) q⟩⟩
end
end DP

set_option Elab.async false
set_option linter.all false
set_option maxRecDepth 100000
set_option maxHeartbeats 1000000
namespace DP
open PySem PySem.Spec PyProof.Rows L2
open Evl (Ex ex_l ex_t ex_rd fresh_back)

section
variable {Y : Cx} {W : WX} {p pos tpos : Pos} {e c : Expr} {es : List Expr} {te tc : TE} {we wc : WE} {ta : TA} {wa : WA}
theorem f_repr {K0 : PySem.W.Frag} [hKK : HasK Y K0] (hgd : Y.A.guards = some []) (hu : Y.A.units + 66 < cLine) (hm : Y.mg "repr" = none) (h : FE Y W e te we) (hg : Gl Y "repr" := by rfl) (he : starEach [e] Y.env = (false, eval e Y.env) :: starEach [] Y.env := by rfl) :
    FE Y W (.Call (.Name "repr" p) [e] [] pos) (tCB (rRepr K0) (tCons te tNil)) (wCB dRepr (wCons we wNil)) := by
  obtain ⟨rfl⟩ := hKK
  exact f_callB (call_repr hgd hu) rc_repr hm (fa1 h he) (hg := hg) (he := he)
theorem f_isi {K0 : PySem.W.Frag} [hKK : HasK Y K0] (hm : Y.mg "isinstance" = none) (h : FE Y W e te we) (h2 : FE Y W c tc wc) (hg : Gl Y "isinstance" := by rfl) (he : starEach [e, c] Y.env = (false, eval e Y.env) :: starEach [c] Y.env := by rfl) (he2 : starEach [c] Y.env = (false, eval c Y.env) :: starEach [] Y.env := by rfl)
    (hpl : (backTo pos (starEach [c] Y.env)).any (·.1) = false := by rfl) :
    FE Y W (.Call (.Name "isinstance" p) [e, c] [] pos) (tCB (rIsi K0) (tCons te (tCons tc tNil))) (wCB (dIsi K0) (wCons we (wCons wc wNil))) := by
  obtain ⟨rfl⟩ := hKK
  exact f_callB call_isi rc_isi hm (fa_cons h (fa_cons h2 fa_nil he2) he) (hg := hg) (he := he) (hpl := hpl)
theorem f_isiT {K0 : PySem.W.Frag} [hKK : HasK Y K0] {x1} (hm : Y.mg "isinstance" = none) (h : FE Y W e te we) (h2 : FA Y W es ta wa) (hg : Gl Y "isinstance" := by rfl) (he : starEach [e, .Tuple es x1 tpos] Y.env = (false, eval e Y.env) :: starEach [.Tuple es x1 tpos] Y.env := by rfl)
    (he2 : starEach [.Tuple es x1 tpos] Y.env = (false, eval (.Tuple es x1 tpos) Y.env) :: starEach [] Y.env := by rfl) (hpl : (backTo pos (starEach [.Tuple es x1 tpos] Y.env)).any (·.1) = false := by rfl) :
    FE Y W (.Call (.Name "isinstance" p) [e, .Tuple es x1 tpos] [] pos) (tCB (rIsiT K0) (tCons te (tCons (tTup ta) tNil))) (wIsiT K0 we wa) := by
  obtain ⟨rfl⟩ := hKK
  exact ⟨pe_callB call_isiT hg hm (by decide +kernel) (pa_cons h.pe (pa_cons (pe_tup h2.pa) pa_nil he2) he) (by decide) (by decide) he hpl, re_isiT h.re h2.re⟩
/-- a star in a display -/
def wStar (w : WE) (r : WA) : WA := fun δ S Q E => w δ S (fun x S1 => dSeq x S1 fun xs => r δ S1 (fun ys S2 => Q (xs ++ ys) S2) E) E
theorem ra_star {K : PySem.W.Frag} (h1 : RE K W te we) (h2 : RA K W ta wa) : RA K W (StX.tStar K te ta) (wStar we wa) := fun A F δ S σ H Q E Q' st lk h k =>
  h1 A F δ S σ H _ E _ st lk h fun F1 S1 H1 v x st1 e1 rx q1 => by
    obtain ⟨p, vs, xs, rfl, hs, rr, q1⟩ := dSeq.ok st1 rx q1
    exact ⟨p, vs, rfl, hs.symm, h2 A F1 δ S1 σ H1 _ E _ st1 lk q1 fun F2 S2 H2 ws ys st2 e2 rs q2 => k F2 S2 H2 (vs ++ ws) (xs ++ ys) st2 (e1.trans e2) (RepXs.app (RepXs.mono e2 rr) rs) q2⟩
theorem fa_star {K0 : PySem.W.Frag} [hKK : HasK Y K0] (h1 : FE Y W e te we) (h2 : FA Y W es ta wa) (hs : starEach (.Starred e p :: es) Y.env = (true, eval e Y.env) :: starEach es Y.env := by rfl) : FA Y W (.Starred e p :: es) (StX.tStar K0 te ta) (wStar we wa) := by
  obtain ⟨rfl⟩ := hKK
  exact ⟨StX.pa_star h1.pe h2.pa hs, ra_star h1.re h2.re⟩
end

/-! ### == of flat data, in -/
def scalD : D → D → Option Bool
  | .non, .non => some true
  | .int i, .int j => some (decide (i = j))
  | .bl i, .bl j => some (decide (i = j))
  | .str i, .str j => some (decide (i = j))
  | .non, .int _ => some false
  | .int _, .non => some false
  | .non, .bl _ => some false
  | .bl _, .non => some false
  | .non, .str _ => some false
  | .str _, .non => some false
  | .int _, .str _ => some false
  | .str _, .int _ => some false
  | .bl _, .str _ => some false
  | .str _, .bl _ => some false
  | _, _ => none
def dEqS : DR2 := fun x y S Q => match x, y with
  | .d a, .d b => ∃ c, scalD a b = some c ∧ Q (.d (.bl c)) S
  | _, _ => False
def dNeS : DR2 := fun x y S Q => match x, y with
  | .d a, .d b => ∃ c, scalD a b = some c ∧ Q (.d (.bl (!c))) S
  | _, _ => False
def flatD : D → Bool
  | .non => true
  | .bl _ => true
  | .int _ => true
  | .str _ => true
  | _ => false
def eqD : D → D → Bool
  | .non, .non => true
  | .bl a, .bl b => a == b
  | .bl a, .int b => (if a then 1 else 0) == b
  | .int a, .bl b => a == (if b then 1 else 0)
  | .int a, .int b => a == b
  | .str a, .str b => a == b
  | _, _ => false
def dIn (neg : Bool) : DR2 := fun x y S Q => match x with
  | .d a => flatD a = true ∧ dSeq y S fun ys => ∃ ds, xdata ys = some ds ∧ ds.all flatD = true ∧ Q (.d (.bl (if neg then !(ds.any fun b => eqD b a) else ds.any fun b => eqD b a))) S
  | _ => False
section
variable {K : PySem.W.Frag} {W : WX} {A : Anc} {F H : Hp} {δ : Env} {S : Store} {σ : L2.St}
theorem scal_rep {v u : V} {a b : D} {c : Bool} (r : Rep K F v a) (q : Rep K F u b) (h : scalD a b = some c) : scal v u = true ∧ decide (v = u) = c := by
  cases r <;> cases q <;> first
    | (cases h; done)
    | (simp only [scalD, Option.some.injEq] at h; subst h; refine ⟨rfl, ?_⟩; simp)
theorem rr_eqS : RR K rEq dEqS := fun A F δ S σ H v u x y Q Q' st rx ry h k => by
  unfold dEqS at h
  split at h
  · obtain ⟨c, hc, q⟩ := h
    obtain ⟨h1, h2⟩ := scal_rep rx ry hc
    exact ⟨h1, by rw [h2]; exact go st k (x := .d _) (Rep.bl _) q⟩
  · exact h.elim
theorem rr_neS : RR K rNe dNeS := fun A F δ S σ H v u x y Q Q' st rx ry h k => by
  unfold dNeS at h
  split at h
  · obtain ⟨c, hc, q⟩ := h
    obtain ⟨h1, h2⟩ := scal_rep rx ry hc
    exact ⟨h1, by rw [h2]; exact go st k (x := .d _) (Rep.bl _) q⟩
  · exact h.elim
theorem flat_rep {v : V} {a : D} (r : Rep K F v a) (h : flatD a = true) : flatV v = true := by
  cases r <;> first | rfl | (cases h; done)
theorem eq_rep {v u : V} {a b : D} (r : Rep K F v a) (q : Rep K F u b) (h1 : flatD a = true) (h2 : flatD b = true) : eqV v u = eqD a b := by
  cases r <;> first
    | (cases h1; done)
    | (cases q <;> first | rfl | (cases h2; done))
theorem flats_rep : ∀ {vs : List V} {ds : List D}, Reps K F vs ds → ds.all flatD = true → vs.all flatV = true
  | _, _, .nil, _ => rfl
  | _, _, .cons r t, h => by
    rw [List.all_cons, Bool.and_eq_true] at h ⊢
    exact ⟨flat_rep r h.1, flats_rep t h.2⟩
theorem in_rep {v : V} {a : D} (r : Rep K F v a) (h1 : flatD a = true) : ∀ {vs : List V} {ds : List D}, Reps K F vs ds → ds.all flatD = true → inV v vs = ds.any fun b => eqD b a
  | _, _, .nil, _ => rfl
  | _, _, .cons q t, h => by
    rw [List.all_cons, Bool.and_eq_true] at h
    show (eqV _ v || inV v _) = _
    rw [eq_rep q r h.1 h1, in_rep r h1 t h.2]
    rfl
theorem rr_in {neg : Bool} : RR K (rIn K neg) (dIn neg) := fun A F δ S σ H v u x y Q Q' st rx ry h k => by
  unfold dIn at h
  split at h
  · obtain ⟨hf, h⟩ := h
    obtain ⟨p, vs, ys, rfl, hs, rr, ds, hd, hall, q⟩ := dSeq.ok st ry h
    have rs := Reps.of_xs rr hd
    have rx : Rep K F v _ := rx
    refine ⟨p, vs, rfl, hs, flat_rep rx hf, flats_rep rs hall, ?_⟩
    rw [in_rep rx hf rs hall]
    exact go st k (x := .d _) (Rep.bl _) q
  · exact h.elim
end
section
variable {Y : Cx} {W : WX} {a b : Expr} {pos : Pos} {ta tb : TE} {wa wb : WE}
theorem f_eqS (ha : FE Y W a ta wa) (hb : FE Y W b tb wb) : FE Y W (.Compare a [.Eq] [b] pos) (tOp rEq ta tb) (wOp dEqS wa wb) := f_cmp op_eq rr_eqS ha hb
theorem f_neS (ha : FE Y W a ta wa) (hb : FE Y W b tb wb) : FE Y W (.Compare a [.NotEq] [b] pos) (tOp rNe ta tb) (wOp dNeS wa wb) := f_cmp op_ne rr_neS ha hb
theorem ft_eqS (ha : FE Y W a ta wa) (hb : FE Y W b tb wb) : FT Y W (.Compare a [.Eq] [b] pos) (tTest (tOp rEq ta tb)) (wTest (wOp dEqS wa wb)) := ft_cmp op_eq rr_eqS ha hb
theorem ft_neS (ha : FE Y W a ta wa) (hb : FE Y W b tb wb) : FT Y W (.Compare a [.NotEq] [b] pos) (tTest (tOp rNe ta tb)) (wTest (wOp dNeS wa wb)) := ft_cmp op_ne rr_neS ha hb
theorem f_in {K0 : PySem.W.Frag} [hKK : HasK Y K0] (ha : FE Y W a ta wa) (hb : FE Y W b tb wb) (hm : behindInMarks .In b = false := by rfl) : FE Y W (.Compare a [.In] [b] pos) (tOp (rIn K0 false) ta tb) (wOp (dIn false) wa wb) := by
  obtain ⟨rfl⟩ := hKK
  exact f_cmp op_in_seq rr_in ha hb hm
theorem ft_in {K0 : PySem.W.Frag} [hKK : HasK Y K0] (ha : FE Y W a ta wa) (hb : FE Y W b tb wb) (hm : behindInMarks .In b = false := by rfl) : FT Y W (.Compare a [.In] [b] pos) (tTest (tOp (rIn K0 false) ta tb)) (wTest (wOp (dIn false) wa wb)) := by
  obtain ⟨rfl⟩ := hKK
  exact ft_cmp op_in_seq rr_in ha hb hm
theorem f_notIn {K0 : PySem.W.Frag} [hKK : HasK Y K0] (ha : FE Y W a ta wa) (hb : FE Y W b tb wb) (hm : behindInMarks .NotIn b = false := by rfl) : FE Y W (.Compare a [.NotIn] [b] pos) (tOp (rIn K0 true) ta tb) (wOp (dIn true) wa wb) := by
  obtain ⟨rfl⟩ := hKK
  exact f_cmp op_notIn_seq rr_in ha hb hm
theorem ft_notIn {K0 : PySem.W.Frag} [hKK : HasK Y K0] (ha : FE Y W a ta wa) (hb : FE Y W b tb wb) (hm : behindInMarks .NotIn b = false := by rfl) : FT Y W (.Compare a [.NotIn] [b] pos) (tTest (tOp (rIn K0 true) ta tb)) (wTest (wOp (dIn true) wa wb)) := by
  obtain ⟨rfl⟩ := hKK
  exact ft_cmp op_notIn_seq rr_in ha hb hm
end

/-! ### walks of any sequence -/
def iSeq (K : PySem.W.Frag) (tl : TE) : TI := fun σ H R => tl σ H fun x H1 => ∃ a, x = .ref a ∧ (((∃ xs, SqL K H1 a xs) ∧ R (Itl K a) H1) ∨ ((∃ xs, SqT K H1 a xs) ∧ R (Itt K a) H1))
def wISeq (w : WE) : WI := fun δ S R E => w δ S (fun x S1 => match x with
  | .d d => (match seqD d with | some (_, ds) => R (ds.map X.d) S1 | none => False)
  | _ => False) E
theorem pi_seq {Y : Cx} {tg l : Expr} {tl : TE} (hl : PE Y l tl) : PI Y tg l (iSeq Y.K tl) := ⟨fun pins s σ H R I h => thn (hl.run pins s σ H _ I h) fun v s1 ⟨x, H1, I1, r1, a, e, q⟩ => by
  subst e
  have r1 : v = .ref a := r1
  subst r1
  have fp : ∀ {it : Addr}, it = s1.heap.objs.size → ∀ b ∈ [it], FpOk Y pins H1 b := fun {it} z b hb => by
    have e : b = it := by simpa using hb
    subst e; subst z
    exact I1.fpOk (Nat.le_refl _) (I1.hok.fresh (Nat.le_refl _))
  rcases q with ⟨⟨xs, hq⟩, q⟩ | ⟨⟨xs, hq⟩, q⟩
  · obtain ⟨its, rv, p, hz⟩ := I1.list hq
    exact wpAny_pyIter_list p.isList ⟨_, [_], _, _, H1, rfl, I1.kept (t' := s1.toks) fun b o e => Heap.get?_push_of_some _ e, turn_list a _, ⟨_, Heap.get?_push_size _ rfl, rfl, rfl⟩, fp rfl, q⟩
  · obtain ⟨its, rv, p, hz⟩ := I1.tuple hq
    exact wpAny_pyIter_tuple (show s1.heap.IsTuple a its.toArray from p) ⟨_, [_], _, _, H1, rfl, I1.kept (t' := s1.toks) fun b o e => Heap.get?_push_of_some _ e, turn_tuple a _, ⟨_, Heap.get?_push_size _ rfl, rfl, rfl⟩, fp rfl, q⟩⟩
section
variable {K : PySem.W.Frag} {W : WX}
theorem ri_seq {te : TE} {w : WE} (h : RE K W te w) : RI K W (iSeq K te) (wISeq w) := fun A F δ S σ H R E R' st lk hw k =>
  h A F δ S σ H _ E _ st lk hw fun F1 S1 H1 v x st1 e1 r q => by
    split at q
    · rename_i d
      have r : Rep K F1 v d := r
      split at q
      · rename_i b ds e
        cases r with
        | tup h1 h2 => cases e; exact ⟨_, rfl, .inr ⟨⟨_, ex_t st1.fr h1⟩, k F1 S1 H1 _ _ st1 e1 (walk_t (fun H e => ex_t e h1) h2) q⟩⟩
        | lst h1 h2 => cases e; exact ⟨_, rfl, .inl ⟨⟨_, SqL.of (st1.fr _ _ h1)⟩, k F1 S1 H1 _ _ st1 e1 (walk_l (fun H e => SqL.of (e _ _ h1)) h2) q⟩⟩
        | scr h1 h2 => cases e; exact ⟨_, rfl, .inl ⟨⟨_, ex_l st1.fr h1⟩, k F1 S1 H1 _ _ st1 e1 (walk_l (fun H e => ex_l e h1) h2) q⟩⟩
        | _ => cases e
      · exact q.elim
    · exact q.elim
end
section
variable {Y : Cx} {W : WX} {tg a b l : Expr} {p pos : Pos} {te tb : TE} {w wb : WE}
theorem fi_seq {K0 : PySem.W.Frag} [hKK : HasK Y K0] (h : FE Y W l te w) : FI Y W tg l (iSeq K0 te) (wISeq w) := by
  obtain ⟨rfl⟩ := hKK
  exact ⟨pi_seq h.pe, ri_seq h.re⟩
theorem fi_range1 (hm : Y.mg "range" = none) (h : FE Y W a te w) (hg : Gl Y "range" := by rfl) (hs : starEach [a] Y.env = [(false, eval a Y.env)] := by rfl) : FI Y W tg (.Call (.Name "range" p) [a] [] pos) (iRng1 (tCons te tNil)) (wIR1 (wCons w wNil)) :=
  ⟨pi_range1 hg hm (fa1 h hs).pa hs, ri_range1 (fa1 h hs).re⟩
theorem fi_range2 (hm : Y.mg "range" = none) (h : FE Y W a te w) (h2 : FE Y W b tb wb) (hg : Gl Y "range" := by rfl) (hs : starEach [a, b] Y.env = [(false, eval a Y.env), (false, eval b Y.env)] := by rfl) (hs2 : starEach [b] Y.env = [(false, eval b Y.env)] := by rfl) :
    FI Y W tg (.Call (.Name "range" p) [a, b] [] pos) (iRng2 (tCons te (tCons tb tNil))) (wIR2 (wCons w (wCons wb wNil))) :=
  have hc : starEach [a, b] Y.env = (false, eval a Y.env) :: starEach [b] Y.env := by rw [hs, hs2]
  ⟨pi_range2 hg hm (fa_cons h (fa_cons h2 fa_nil hs2) hc).pa hs hs2, ri_range2 (fa_cons h (fa_cons h2 fa_nil hs2) hc).re⟩
end

/-! ### ranges as lists, as tuples -/
def wRg1 (w : WE) : Env → Store → (Int → Int → Store → Prop) → XR → Prop := fun δ S R E => w δ S (fun x S1 => match x with | .d (.int n) => R 0 n S1 | _ => False) E
def wLstRg (w : Env → Store → (Int → Int → Store → Prop) → XR → Prop) : WE := fun δ S Q E => w δ S (fun a b S1 => RgOk a b ∧ ∀ p, Q (.h p) (S1 ++ [(p, .lst (rgX a (b - a).toNat))])) E
def wTupRg (w : Env → Store → (Int → Int → Store → Prop) → XR → Prop) : WE := fun δ S Q E => w δ S (fun a b S1 => RgOk a b ∧ Q (.d (.tup ((List.range (b - a).toNat).map fun i => D.int (a + (i : Nat))))) S1) E
section
variable {K : PySem.W.Frag} {W : WX} {F : Hp}
theorem rg_reps (a : Int) : ∀ (l : List Nat), Reps K F (l.map fun i => V.int (a + (i : Nat))) (l.map fun i => D.int (a + (i : Nat)))
  | [] => .nil
  | i :: l => .cons (.int _) (rg_reps a l)
theorem re_lstRg1 {te : TE} {w : WE} (h : RE K W te w) : RE K W (tLstRg (tRg1 te)) (wLstRg (wRg1 w)) := fun A F δ S σ H Q E Q' st lk hw k =>
  h A F δ S σ H _ E _ st lk hw fun F1 S1 H1 v x st1 e1 r q => by
    split at q
    · rename_i n
      refine ⟨_, repd_int r, q.1, fun p hp => ?_⟩
      have rr := (rg_reps (K := K) (F := F1) 0 (List.range (n - 0 : Int).toNat)).xs
      rw [List.map_map] at rr
      exact goL st1 (fun F' S' H' v x a b => k F' S' H' v x a (e1.trans b)) hp rr q.2
    · exact q.elim
theorem re_tupRg1 {te : TE} {w : WE} (h : RE K W te w) : RE K W (tTupRg (tRg1 te)) (wTupRg (wRg1 w)) := fun A F δ S σ H Q E Q' st lk hw k =>
  h A F δ S σ H _ E _ st lk hw fun F1 S1 H1 v x st1 e1 r q => by
    split at q
    · exact ⟨_, repd_int r, q.1, fun p hp => goT st1 (fun F' S' H' v x a b => k F' S' H' v x a (e1.trans b)) hp (rg_reps 0 _) q.2⟩
    · exact q.elim
end
section
variable {Y : Cx} {W : WX} {a : Expr} {p p2 pos pos2 : Pos} {te : TE} {w : WE}
theorem f_lstRg1 (hc : Y.calm = true) (hm : Y.mg "list" = none) (hm2 : Y.mg "range" = none) (h : FE Y W a te w) (hg : Gl Y "list" := by rfl) (hg2 : Gl Y "range" := by rfl) (na : starEach [a] Y.env = (false, eval a Y.env) :: starEach [] Y.env := by rfl)
    (nb : starEach [Expr.Call (.Name "range" p2) [a] [] pos2] Y.env = (false, eval (.Call (.Name "range" p2) [a] [] pos2) Y.env) :: starEach [] Y.env := by rfl) :
    FE Y W (.Call (.Name "list" p) [.Call (.Name "range" p2) [a] [] pos2] [] pos) (tLstRg (tRg1 te)) (wLstRg (wRg1 w)) := ⟨pe_listRg hc hg hm (prg_1 hg2 hm2 h.pe na) nb, re_lstRg1 h.re⟩
theorem f_tupRg1 (hc : Y.calm = true) (hm : Y.mg "tuple" = none) (hm2 : Y.mg "range" = none) (h : FE Y W a te w) (hg : Gl Y "tuple" := by rfl) (hg2 : Gl Y "range" := by rfl) (na : starEach [a] Y.env = (false, eval a Y.env) :: starEach [] Y.env := by rfl)
    (nb : starEach [Expr.Call (.Name "range" p2) [a] [] pos2] Y.env = (false, eval (.Call (.Name "range" p2) [a] [] pos2) Y.env) :: starEach [] Y.env := by rfl) :
    FE Y W (.Call (.Name "tuple" p) [.Call (.Name "range" p2) [a] [] pos2] [] pos) (tTupRg (tRg1 te)) (wTupRg (wRg1 w)) := ⟨pe_tupRg hc hg hm (prg_1 hg2 hm2 h.pe na) nb, re_tupRg1 h.re⟩
end
end DP

set_option Elab.async false
set_option linter.all false
set_option maxRecDepth 100000
set_option maxHeartbeats 1000000
namespace DP
open PySem PySem.Spec PyProof.Rows L2
open Evl (Ex ex_l ex_t ex_rd fresh_back)

/-! ### dicts -/
def keyX : X → Option Key
  | .d (.int i) => some (.inl i)
  | .d (.str x) => some (.inr x)
  | _ => none
def kD : Key → D
  | .inl i => .int i
  | .inr x => .str x
def putKD (kvs : List (Key × D)) (k : Key) (v : D) : List (Key × D) := if (kvs.any fun kv => decide (kv.1 = k)) = true then kvs.map (fun kv => if kv.1 = k then (kv.1, v) else kv) else kvs ++ [(k, v)]
def valKD (kvs : List (Key × D)) (k : Key) : Option D := (kvs.find? fun kv => decide (kv.1 = k)).map (·.2)
section
variable {K : PySem.W.Frag} {F : Hp}
theorem keyX.ok {x : X} {k : Key} {v : V} (r : RepX K F v x) (h : keyX x = some k) : v = kV k := by
  unfold keyX at h
  split at h
  · cases h; exact repd_int r
  · cases h; exact repd_str r
  · cases h
theorem kD_rep (k : Key) : Rep K F (kV k) (kD k) := by
  cases k with
  | inl i => exact .int i
  | inr x => exact .str x
theorem RepK.len : ∀ {ws : List (Key × V)} {kvs : List (Key × D)}, RepK K F ws kvs → ws.length = kvs.length
  | _, _, .nil => rfl
  | _, _, .cons _ t => by simp [RepK.len t]
theorem RepK.anyk (k : Key) : ∀ {ws : List (Key × V)} {kvs : List (Key × D)}, RepK K F ws kvs → (ws.any fun kv => decide (kv.1 = k)) = kvs.any fun kv => decide (kv.1 = k)
  | _, _, .nil => rfl
  | _, _, .cons _ t => by simp only [List.any_cons]; rw [RepK.anyk k t]
theorem RepK.repl {k : Key} {v : V} {d : D} (r : Rep K F v d) : ∀ {ws : List (Key × V)} {kvs : List (Key × D)}, RepK K F ws kvs → RepK K F (ws.map fun kv => if kv.1 = k then (kv.1, v) else kv) (kvs.map fun kv => if kv.1 = k then (kv.1, d) else kv)
  | _, _, .nil => .nil
  | _, _, .cons (k := j) q t => by
    simp only [List.map_cons]
    by_cases h : j = k
    · rw [if_pos h, if_pos h]; exact .cons r (RepK.repl r t)
    · rw [if_neg h, if_neg h]; exact .cons q (RepK.repl r t)
theorem RepK.app1 {k : Key} {v : V} {d : D} (r : Rep K F v d) : ∀ {ws : List (Key × V)} {kvs : List (Key × D)}, RepK K F ws kvs → RepK K F (ws ++ [(k, v)]) (kvs ++ [(k, d)])
  | _, _, .nil => .cons r .nil
  | _, _, .cons q t => .cons q (RepK.app1 r t)
theorem RepK.put {k : Key} {v : V} {d : D} {ws : List (Key × V)} {kvs : List (Key × D)} (t : RepK K F ws kvs) (r : Rep K F v d) : RepK K F (putK ws k v) (putKD kvs k d) := by
  unfold putK putKD
  rw [RepK.anyk k t]
  split
  · exact RepK.repl r t
  · exact RepK.app1 r t
theorem RepK.val (k : Key) : ∀ {ws : List (Key × V)} {kvs : List (Key × D)}, RepK K F ws kvs → (valKD kvs k = none ∧ valV ws k = none) ∨ ∃ v d, valKD kvs k = some d ∧ valV ws k = some v ∧ Rep K F v d
  | _, _, .nil => .inl ⟨rfl, rfl⟩
  | _, _, .cons (k := j) (v := v) (d := d) (vs := vs) (ds := ds) q t => by
    by_cases h : j = k
    · refine .inr ⟨v, d, ?_, ?_, q⟩
      · unfold valKD; simp [List.find?_cons, h]
      · exact valV_pos (p := (j, v)) h
    · have e1 : valKD ((j, d) :: ds) k = valKD ds k := by unfold valKD; simp [List.find?_cons, h]
      have e2 : valV ((j, v) :: vs) k = valV vs k := by unfold valV; simp [List.find?_cons, h]
      rw [e1, e2]
      exact RepK.val k t
theorem RepK.get {i : Nat} {kv : Key × D} : ∀ {ws : List (Key × V)} {kvs : List (Key × D)}, RepK K F ws kvs → ws.map (·.1) = kvs.map (·.1)
  | _, _, .nil => rfl
  | _, _, .cons _ t => by simp only [List.map_cons]; rw [RepK.get (i := i) (kv := kv) t]
end
def dDct (x : X) (S : Store) (k : List (Key × D) → Prop) : Prop := match x with
  | .d (.dct kvs) => k kvs
  | .h a => ∃ (i : Nat) (kvs : List (Key × D)), S[i]? = some (a, .dct kvs) ∧ k kvs
  | _ => False
def wDNew : WE := fun _ S Q _ => ∀ p, Q (.h p) (S ++ [(p, .dct [])])
def wDGet (wd wy : WE) : WE := fun δ S Q E => wd δ S (fun x S1 => wy δ S1 (fun y S2 => ∃ k, keyX y = some k ∧ dDct x S2 fun kvs => ∃ d, valKD kvs k = some d ∧ Q (.d d) S2) E) E
def wDIn (neg : Bool) (wy wd : WE) : WE := fun δ S Q E => wy δ S (fun y S1 => wd δ S1 (fun x S2 => ∃ k, keyX y = some k ∧ dDct x S2 fun kvs => Q (.d (.bl (if neg then !(valKD kvs k).isSome else (valKD kvs k).isSome))) S2) E) E
def wDPut (wd wy wv : WE) : WS := fun Δ δ S E => wv δ S (fun v S1 => wd δ S1 (fun x S2 => wy δ S2 (fun y S3 => match x, v with
  | .h a, .d d => ∃ (i : Nat) (kvs : List (Key × D)) (k : Key), S3[i]? = some (a, .dct kvs) ∧ keyX y = some k ∧ kvs.length < sizeLine ∧ Δ.nx δ (S3.set i (a, .dct (putKD kvs k d)))
  | _, _ => False) E) E) E
section
variable {K : PySem.W.Frag} {W : WX} {A : Anc} {F H : Hp} {δ : Env} {S : Store} {σ : L2.St} {td ty tv : TE} {wd wy wv : WE}
theorem dDct.ok {x : X} {k : List (Key × D) → Prop} {v : V} (st : ST K A F δ S σ H) (r : RepX K F v x) (h : dDct x S k) : ∃ a ws kvs, v = .ref a ∧ Rd H a (.dK ws) ∧ RepK K F ws kvs ∧ k kvs := by
  unfold dDct at h
  split at h
  · cases r with | dct h1 h2 => exact ⟨_, _, _, rfl, .inr ⟨_, st.fr _ _ h1⟩, h2, h⟩
  · obtain ⟨i, kvs, e, h⟩ := h
    obtain ⟨_, ws, hp, rr⟩ := st.cell _ (List.mem_of_getElem? e)
    exact ⟨_, ws, kvs, r, .inl hp, rr, h⟩
  · exact h.elim
theorem re_dnew : RE K W tDNewK wDNew := fun A F δ S σ H Q E Q' st lk h k => fun p hp => k F _ _ _ (.h p) (st.made (c := .dct []) hp ⟨fresh_back st.fr hp, [], upd_same, .nil⟩) (Ex.refl F) rfl (h p)
theorem re_dget (hd : RE K W td wd) (hy : RE K W ty wy) : RE K W (tDGet td ty) (wDGet wd wy) := fun A F δ S σ H Q E Q' st lk h k =>
  hd A F δ S σ H _ E _ st lk h fun F1 S1 H1 v x st1 e1 rx q1 => hy A F1 δ S1 σ H1 _ E _ st1 lk q1 fun F2 S2 H2 u y st2 e2 ry ⟨kk, hk, q2⟩ => by
    obtain ⟨a, ws, kvs, rfl, hr, rr, d, hd, q⟩ := dDct.ok st2 (rx.mono e2) q2
    rcases RepK.val kk rr with ⟨z, _⟩ | ⟨w, d', z1, z2, rw'⟩
    · rw [hd] at z; cases z
    · rw [hd] at z1; cases z1
      exact ⟨a, w, rfl, .inl ⟨ws, kk, hr, keyX.ok ry hk, z2.symm⟩, k F2 S2 H2 w (.d d) st2 (e1.trans e2) rw' q⟩
theorem valKD_iff {kk : Key} {ws : List (Key × V)} {kvs : List (Key × D)} (rr : RepK K F ws kvs) : (valV ws kk).isSome = (valKD kvs kk).isSome := by
  rcases RepK.val kk rr with ⟨z1, z2⟩ | ⟨w, d', z1, z2, _⟩ <;> rw [z1, z2] <;> rfl
theorem re_din (hy : RE K W ty wy) (hd : RE K W td wd) : RE K W (tDIn ty td) (wDIn false wy wd) := fun A F δ S σ H Q E Q' st lk h k =>
  hy A F δ S σ H _ E _ st lk h fun F1 S1 H1 u y st1 e1 ry q1 => hd A F1 δ S1 σ H1 _ E _ st1 lk q1 fun F2 S2 H2 v x st2 e2 rx ⟨kk, hk, q2⟩ => by
    obtain ⟨a, ws, kvs, rfl, hr, rr, q⟩ := dDct.ok st2 rx q2
    refine ⟨a, _, rfl, .inl ⟨ws, kk, hr, keyX.ok ry hk, rfl⟩, ?_⟩
    rw [valKD_iff rr]
    exact k F2 S2 H2 _ (.d (.bl _)) st2 (e1.trans e2) (Rep.bl _) q
theorem re_dnotin (hy : RE K W ty wy) (hd : RE K W td wd) : RE K W (tDNotIn ty td) (wDIn true wy wd) := fun A F δ S σ H Q E Q' st lk h k =>
  hy A F δ S σ H _ E _ st lk h fun F1 S1 H1 u y st1 e1 ry q1 => hd A F1 δ S1 σ H1 _ E _ st1 lk q1 fun F2 S2 H2 v x st2 e2 rx ⟨kk, hk, q2⟩ => by
    obtain ⟨a, ws, kvs, rfl, hr, rr, q⟩ := dDct.ok st2 rx q2
    refine ⟨a, _, rfl, .inl ⟨ws, kk, hr, keyX.ok ry hk, rfl⟩, ?_⟩
    rw [valKD_iff rr]
    exact k F2 S2 H2 _ (.d (.bl _)) st2 (e1.trans e2) (Rep.bl _) q
theorem rs_dput (hd : RE K W td wd) (hy : RE K W ty wy) (hv : RE K W tv wv) : RS K W (sDPut td ty tv) (wDPut wd wy wv) := fun A F δ S σ H D Δ E st ld lk hw =>
  hv A F δ S σ H _ E _ st lk hw fun F1 S1 H1 v vx st1 e1 rv q1 => hd A F1 δ S1 σ H1 _ E _ st1 lk q1 fun F2 S2 H2 u x st2 e2 rx q2 => hy A F2 δ S2 σ H2 _ E _ st2 lk q2 fun F3 S3 H3 w y st3 e3 ry q3 => by
    split at q3
    · rename_i a d
      obtain ⟨i, kvs, kk, e, hk, hl, q⟩ := q3
      obtain ⟨hf, ws, hp, rr⟩ := st3.cell _ (List.mem_of_getElem? e)
      have rx : u = .ref a := rx
      refine ⟨a, _, rx, .inl ⟨ws, kk, hp, keyX.ok ry hk, by rw [rr.len]; exact hl, rfl⟩, ld.nx _ _ _ _ _ (st3.write (c' := .dct (putKD kvs kk d)) e hf ⟨hf, _, upd_same, rr.put (Rep.mono (e2.trans e3) rv)⟩) q⟩
    · exact q3.elim
/-- over the keys of a dict that is a datum -/
def wIK (w : WE) : WI := fun δ S R E => w δ S (fun x S1 => match x with | .d (.dct kvs) => R (kvs.map fun kv => X.d (kD kv.1)) S1 | _ => False) E
theorem ri_keys {te : TE} {w : WE} (h : RE K W te w) : RI K W (iKeys te) (wIK w) := fun A F δ S σ H R E R' st lk hw k =>
  h A F δ S σ H _ E _ st lk hw fun F1 S1 H1 v x st1 e1 r q => by
    split at q
    · cases r with
      | @dct p ws kvs o h1 h2 =>
        refine ⟨p, o, rfl, .inl ⟨ws, st1.fr _ _ h1, k F1 S1 H1 _ _ st1 e1 ⟨fun i F H hi a b => ?_, fun i F H v H' x hx a b hy => ?_, fun F H a b => ?_⟩ q⟩⟩
        · rw [List.length_map] at hi
          exact ⟨b _ _ (a _ _ h1), by rw [h2.len]; exact hi⟩
        · obtain ⟨rfl, kk, u, hk, rfl⟩ := hy
          refine ⟨F, .inl ⟨rfl, rfl⟩, ?_⟩
          have e : (ws.map (·.1))[i]? = some kk := by rw [List.getElem?_map, hk]; rfl
          rw [RepK.get (i := 0) (kv := (kk, D.non)) h2] at e
          rw [List.getElem?_map, Option.map_eq_some_iff] at hx
          obtain ⟨kv, hz, rfl⟩ := hx
          rw [List.getElem?_map, hz] at e
          cases e
          exact kD_rep kv.1
        · exact ⟨b _ _ (a _ _ h1), by rw [List.length_map, h2.len]; exact Nat.le_refl _⟩
    · exact q.elim
end
section
variable {Y : Cx} {W : WX} {o i e v tg : Expr} {pos pos' : Pos} {td ty tv : TE} {wd wy wv : WE}
theorem f_dnew : FE Y W (.Dict [] [] pos) tDNewK wDNew := ⟨pe_dnewK, re_dnew⟩
theorem f_dget (hu : Y.A.units + 1 < cLine) (ho : FE Y W o td wd) (hi : FE Y W i ty wy) (hs : NoSl i := by exact fun _ _ => rfl) : FE Y W (.Subscript o i pos) (tDGet td ty) (wDGet wd wy) := ⟨pe_dget hu ho.pe hi.pe hs, re_dget ho.re hi.re⟩
theorem f_din (hu : Y.A.units + 1 < cLine) (hi : FE Y W i ty wy) (ho : FE Y W o td wd) (hm : behindInMarks .In o = false := by rfl) : FE Y W (.Compare i [.In] [o] pos) (tDIn ty td) (wDIn false wy wd) := ⟨pe_cmp (pc_din hu hi.pe ho.pe) hm, re_din hi.re ho.re⟩
theorem ft_din (hu : Y.A.units + 1 < cLine) (hi : FE Y W i ty wy) (ho : FE Y W o td wd) (hm : behindInMarks .In o = false := by rfl) : FT Y W (.Compare i [.In] [o] pos) (tB (tDIn ty td)) (wTest (wDIn false wy wd)) := ⟨pt_cmp (pc_din hu hi.pe ho.pe) hm, rt_B (re_din hi.re ho.re)⟩
theorem f_dnotin (hu : Y.A.units + 1 < cLine) (hi : FE Y W i ty wy) (ho : FE Y W o td wd) (hm : behindInMarks .NotIn o = false := by rfl) : FE Y W (.Compare i [.NotIn] [o] pos) (tDNotIn ty td) (wDIn true wy wd) := ⟨pe_cmp (pc_dnotin hu hi.pe ho.pe) hm, re_dnotin hi.re ho.re⟩
theorem ft_dnotin (hu : Y.A.units + 1 < cLine) (hi : FE Y W i ty wy) (ho : FE Y W o td wd) (hm : behindInMarks .NotIn o = false := by rfl) : FT Y W (.Compare i [.NotIn] [o] pos) (tB (tDNotIn ty td)) (wTest (wDIn true wy wd)) := ⟨pt_cmp (pc_dnotin hu hi.pe ho.pe) hm, rt_B (re_dnotin hi.re ho.re)⟩
theorem fs_dput (hu : Y.A.units + 1 < cLine) (ho : FE Y W o td wd) (hi : FE Y W i ty wy) (hv : FE Y W v tv wv) (hs : swapsWith v (some (.Subscript o i pos')) pos.line Y.env = pure false := by rfl) : FS Y W (.Assign [.Subscript o i pos'] v pos) (sDPut td ty tv) (wDPut wd wy wv) :=
  ⟨ps_dput hu ho.pe hi.pe hv.pe hs, rs_dput ho.re hi.re hv.re⟩
theorem fi_keys (h : FE Y W e td wd) : FI Y W tg e (iKeys td) (wIK wd) := ⟨pi_keys h.pe, ri_keys h.re⟩
end

/-! ### a dict becomes a datum -/
def tFrz (t : TE) : TE := fun σ H Q => t σ H fun v H1 => ∃ d u, v = .ref d ∧ H1 d = some u ∧ Mut (some u) ∧ ∀ od, Q v (upd H1 d (.frz od u))
def wFzD (w : WE) : WE := fun δ S Q E => w δ S (fun x S1 => match x with
  | .h p => ∃ S0 kvs, S1 = S0 ++ [(p, .dct kvs)] ∧ Q (.d (.dct kvs)) S0
  | _ => False) E
def tFrzS (i : Nat) (t : TS) : TS := fun D σ H => ∃ d u, σ[i]? = some (some (.ref d)) ∧ H d = some u ∧ Mut (some u) ∧ ∀ od, t D σ (upd H d (.frz od u))
def wFreezeD (i : Nat) (b : WS) : WS := fun Δ δ S E => match δ[i]? with
  | some (some (.h a)) => ∃ (j : Nat) (kvs : List (Key × D)), S[j]? = some (a, .dct kvs) ∧ b Δ (δ.set i (some (.d (.dct kvs)))) (S.set j (a, .dead)) E
  | _ => False
theorem pe_frz {Y : Cx} {e : Expr} {t : TE} (h : PE Y e t) : PE Y e (tFrz t) := ⟨fun pins s σ H Q I hw => thn (h.run pins s σ H _ I hw) fun v s1 ⟨x, H1, I1, r, d, u, ex, hd, mu, q⟩ => by
  obtain ⟨od, I2⟩ := I1.lock hd mu
  exact ⟨x, _, I2, r, q od⟩⟩
theorem pss_frz {Y : Cx} {sts : List Stmt} {t : TS} (i : Nat) (h : PSs Y sts t) : PSs Y sts (tFrzS i t) := ⟨fun pins s σ H D I hw => by
  obtain ⟨d, u, _, hd, mu, q⟩ := hw
  obtain ⟨od, I2⟩ := I.lock hd mu
  exact h.run pins s σ _ D I2 (q od)⟩
section
variable {K : PySem.W.Frag} {W : WX}
theorem re_fzd {te : TE} {w : WE} (h : RE K W te w) : RE K W (tFrz te) (wFzD w) := fun A F δ S σ H Q E Q' st lk hw k =>
  h A F δ S σ H _ E _ st lk hw fun F1 S1 H1 v x st1 e1 r q => by
    split at q
    · rename_i p
      obtain ⟨S0, kvs, rfl, q⟩ := q
      have r : v = .ref p := r
      subst r
      have hi : (S0 ++ [(p, Cell.dct kvs)])[S0.length]? = some (p, .dct kvs) := by simp
      obtain ⟨ws, hp, z⟩ := st1.freezeD hi
      refine ⟨p, _, rfl, hp, trivial, fun od => ?_⟩
      obtain ⟨F2, e2, r2, st2⟩ := z od
      rw [List.set_append_right _ _ (Nat.le_refl _)] at st2
      exact k _ _ _ _ (.d (.dct kvs)) st2.forget (e1.trans e2) r2 q
    · exact q.elim
theorem rs_freezeD {t : TS} {a : WS} (i : Nat) (h : RS K W t a) : RS K W (tFrzS i t) (wFreezeD i a) := fun A F δ S σ H D Δ E st ld lk hw => by
  unfold wFreezeD at hw
  split at hw
  · rename_i x e
    obtain ⟨j, kvs, h1, h3⟩ := hw
    obtain ⟨v, hv, rv⟩ := st.env i _ e
    have rv : v = .ref x := rv
    subst rv
    obtain ⟨ws, hp, z⟩ := st.freezeD h1
    refine ⟨x, _, hv, hp, trivial, fun od => ?_⟩
    obtain ⟨F1, e1, r1, st1⟩ := z od
    refine h A F1 _ _ σ _ D Δ E (st1.setEnv (fun k y e' => ?_) (by rw [List.length_set]; exact st.len)) ld lk h3
    by_cases z : i = k
    · subst z
      rw [List.getElem?_set_self (List.getElem?_eq_some_iff.mp e).1] at e'
      cases e'
      exact ⟨_, hv, r1⟩
    · rw [List.getElem?_set_ne z] at e'
      exact st1.env k y e'
  · exact hw.elim
end
theorem f_fzd {Y : Cx} {W : WX} {e : Expr} {te : TE} {w : WE} (h : FE Y W e te w) : FE Y W e (tFrz te) (wFzD w) := ⟨pe_frz h.pe, re_fzd h.re⟩
theorem fss_freezeD {Y : Cx} {W : WX} {sts : List Stmt} {t : TS} {a : WS} {i : Nat} (h : FSs Y W sts t a) : FSs Y W sts (tFrzS i t) (wFreezeD i a) := ⟨pss_frz i h.ps, rs_freezeD i h.re⟩

/-! ### dict comprehensions -/
def dcD (dg : DTg) (wt : WT) (wk wv : WE) (n : Nat) (D : Addr) (Q : XQ) (δ0 : Env) : List X → Store → Prop
  | [], S => Q (.h D) S
  | x :: xs, S => dg x δ0 S fun δ2 S2 => wt δ2 S2 (fun b S3 => if b = true then wk δ2 S3 (fun y S4 => wv δ2 S4 (fun z S5 => match z with
      | .d d => ∃ kvs k, keyX y = some k ∧ S5[n]? = some (D, .dct kvs) ∧ kvs.length < sizeLine ∧ dcD dg wt wk wv n D Q δ0 xs (S5.set n (D, .dct (putKD kvs k d)))
      | _ => False) E0') E0' else dcD dg wt wk wv n D Q δ0 xs S3) E0'
def wDc (wi : WI) (dg : DTg) (wt : WT) (wk wv : WE) (vs : List Nat) : WE := fun δ S Q E => wi δ S (fun xs S1 => ∀ D, dcD dg wt wk wv S1.length D Q (wipeD δ vs) xs (S1 ++ [(D, .dct [])])) E
theorem re_dc {K : PySem.W.Frag} {W : WX} {wi : TI} {wit : WI} {g : TG} {dg : DTg} {ws vs : List Nat} {tt : TT} {wt : WT} {tk tv : TE} {wk wv : WE} (hi : RI K W wi wit) (hg : RG K g dg ws) (hws : ∀ i ∈ ws, i ∈ vs) (ht : RT K W0 tt wt) (hk : RE K W0 tk wk) (hv : RE K W0 tv wv) :
    RE K W (tDc wi g tt tk tv vs) (wDc wit dg wt wk wv vs) :=
  fun A F δ S σ H Q E Q' st lk hw k => hi A F δ S σ H _ E _ st lk hw fun F1 S1 H1 xs J st1 e1 wk1 q => by
    intro D hD
    have st2 : ST K A F1 δ (S1 ++ [(D, .dct [])]) σ (upd H1 D (.dK [])) := st1.made (c := .dct []) hD ⟨fresh_back st1.fr hD, [], upd_same, .nil⟩
    generalize hn : S1.length = n at q
    refine ⟨fun i m H => m = xs.length - i ∧ i ≤ xs.length ∧ ∃ F S, ST K (A.at F1) F (wipeD δ vs) S (wipe σ vs) H ∧ dcD dg wt wk wv n D Q (wipeD δ vs) (xs.drop i) S, ⟨_, rfl, Nat.zero_le _, F1, _, (st2.begin).wiped vs, q D⟩, ?_⟩
    rintro i m H2 ⟨rfl, hle, F2, S2, s2, q2⟩
    by_cases hlt : i < xs.length
    · refine .inr ⟨wk1.go i F2 H2 hlt s2.a1 s2.fr, fun H' => ∃ F S, ST K (A.at F1) F (wipeD δ vs) S (wipe σ vs) H' ∧ dcD dg wt wk wv n D Q (wipeD δ vs) (xs.drop (i + 1)) S, fun H' z => ⟨_, by omega, rfl, hlt, z⟩, fun v H' hy => ?_⟩
      obtain ⟨F3, s3, r3⟩ := wk1.step s2 (List.getElem?_eq_getElem hlt) hy
      rw [List.drop_eq_getElem_cons hlt] at q2
      refine hg _ F3 (wipeD δ vs) S2 (wipe σ vs) H' v _ _ _ s3 r3 q2 fun F4 δ4 S4 σ4 H4 s4 _ wr q4 => ⟨(wr vs hws).trans (wipe_wipe σ vs), ?_⟩
      refine ht _ F4 δ4 S4 σ4 H4 _ E0' _ s4 link0 q4 fun F5 S5 H5 b s5 _ q5 => ?_
      cases b with
      | true =>
        refine iteT (hk _ F5 δ4 S5 σ4 H5 _ E0' _ s5 link0 q5 fun F6 S6 H6 yv y s6 _ ry q6 => hv _ F6 δ4 S6 σ4 H6 _ E0' _ s6 link0 q6 fun F7 S7 H7 zv z s7 e7 rz q7 => ?_)
        split at q7
        · rename_i d
          obtain ⟨kvs, kk, hkk, he, hl, q7⟩ := q7
          obtain ⟨hf, us, hp, rr⟩ := s7.cell _ (List.mem_of_getElem? he)
          refine ⟨us, kk, keyX.ok ry hkk, hp, by rw [rr.len]; exact hl, F7, _, ?_, q7⟩
          exact (s7.write (c' := .dct (putKD kvs kk d)) he hf ⟨hf, _, upd_same, rr.put rz⟩).envOf (st1.wiped vs) s7.a1
        · exact q7.elim
      | false => exact iteF ⟨F5, S5, s5.envOf (st1.wiped vs) s5.a1, q5⟩
    · have e : i = xs.length := by omega
      subst e
      rw [List.drop_length] at q2
      exact .inl ⟨wk1.stop F2 H2 s2.a1 s2.fr, k F2 S2 H2 (.ref D) (.h D) ((s2.back (st1.wiped vs)).envOf st1 s2.a1) (e1.trans s2.a1) rfl q2⟩
theorem f_dc {Y : Cx} {W : WX} {kx vx tg iter : Expr} {ifs : List Expr} {scope : Scope} {pos : Pos} {wi : TI} {wit : WI} {g : TG} {dg : DTg} {ws : List Nat} {tt : TT} {wt : WT} {tk tv : TE} {wk wv : WE} {own : List (Str × Nat)} (hc : Y.calm = true) (hN : Y.N.Nodup) (ok : blkC Y.N Y.env.scope scope own = true) (hi : FI Y W tg iter wi wit)
    (hg : ∀ (s : Shared) (H : Hp) (C : Addr) (cl : List (Str × Addr)) (fp : List Addr), FG (Y.blk s H scope (compEnvC scope cl C Y.env) fp) tg g dg ws) (ht : ∀ (s : Shared) (H : Hp) (C : Addr) (cl : List (Str × Addr)) (fp : List Addr), FTs (Y.blk s H scope (compEnvC scope cl C Y.env) fp) ifs tt wt)
    (hk : ∀ (s : Shared) (H : Hp) (C : Addr) (cl : List (Str × Addr)) (fp : List Addr), FE (Y.blk s H scope (compEnvC scope cl C Y.env) fp) W0 kx tk wk)
    (hv : ∀ (s : Shared) (H : Hp) (C : Addr) (cl : List (Str × Addr)) (fp : List Addr), FE (Y.blk s H scope (compEnvC scope cl C Y.env) fp) W0 vx tv wv) (hws : ∀ i ∈ ws, i ∈ own.map (·.2) := by decide) (hs : ∀ x, foldedSetIterable iter Y.env x = pure x := by intro _; rfl) :
    FE Y W (.DictComp kx vx [⟨tg, iter, ifs, 0⟩] scope pos) (tDc wi g tt tk tv (own.map (·.2))) (wDc wit dg wt wk wv (own.map (·.2))) :=
  ⟨pe_dc hc hN hi.pi (blkOk_by ok) (fun s H C cl fp => (hg s H C cl fp).pg) (fun s H C cl fp => (ht s H C cl fp).pt) (fun s H C cl fp => (hk s H C cl fp).pe) (fun s H C cl fp => (hv s H C cl fp).pe) hs,
    re_dc hi.re (hg ({} : Shared) (fun _ => none) 0 [] []).re hws (ht ({} : Shared) (fun _ => none) 0 [] []).re (hk ({} : Shared) (fun _ => none) 0 [] []).re (hv ({} : Shared) (fun _ => none) 0 [] []).re⟩
end DP

set_option Elab.async false
set_option linter.all false
set_option maxRecDepth 100000
set_option maxHeartbeats 1000000
namespace DP
open PySem PySem.Spec PyProof.Rows L2
open Evl (Ex ex_l ex_t ex_rd fresh_back)

/-! ### three names at once -/
def wPar3 (i j l : Nat) (r : WA) : WS := fun Δ δ S E => r δ S (fun xs S1 => match xs with | [x, y, z] => Δ.nx (((δ.set i (some x)).set j (some y)).set l (some z)) S1 | _ => False) E
section
variable {K : PySem.W.Frag} {W : WX}
theorem rs_par3 {i j l : Nat} {ta : TA} {r : WA} (h : RA K W ta r) : RS K W (tPar3 i j l ta) (wPar3 i j l r) := fun A F δ S σ H D Δ E st ld lk hw =>
  h A F δ S σ H _ E _ st lk hw fun F1 S1 H1 vs xs st1 _ rs q => by
    split at q
    · cases rs with
      | cons r1 rr =>
        cases rr with
        | cons r2 rr =>
          cases rr with
          | cons r3 rr =>
            cases rr
            exact ⟨_, _, _, rfl, ld.nx _ _ _ _ _ (((st1.store r1).store r2).store r3) q⟩
    · exact q.elim
end
theorem fs_par3 {Y : Cx} {W : WX} {i j l : Nat} {x y z : Str} {a b c : Expr} {ta : TA} {wa : WA} {px py pz pt pos : Pos} {kt k2 pt2} (hc : Y.calm = true) (hN : Y.N.Nodup) (ha : FA Y W [a, b, c] ta wa) (hi : Y.N[i]? = some x := by rfl) (hj : Y.N[j]? = some y := by rfl) (hl : Y.N[l]? = some z := by rfl)
    (hij : i ≠ j := by decide) (hil : i ≠ l := by decide) (hjl : j ≠ l := by decide)
    (hx : Y.env.scope.names.lookup x = some .local := by rfl) (hy : Y.env.scope.names.lookup y = some .local := by rfl) (hz : Y.env.scope.names.lookup z = some .local := by rfl)
    (hw : swappedStores [.Tuple [.Name x px, .Name y py, .Name z pz] kt pt] (.Tuple [a, b, c] k2 pt2) Y.env = pure (some [x, y, z]) := by rfl)
    (hs : swapsWithSole [.Tuple [.Name x px, .Name y py, .Name z pz] kt pt] (.Tuple [a, b, c] k2 pt2) pos.line Y.env = pure false := by rfl) :
    FS Y W (.Assign [.Tuple [.Name x px, .Name y py, .Name z pz] kt pt] (.Tuple [a, b, c] k2 pt2) pos) (tPar3 i j l ta) (wPar3 i j l wa) := ⟨ps_par3 hc hN hi hj hl hij hil hjl hx hy hz ha.pa hw hs, rs_par3 ha.re⟩

/-! ### xs[::-1] of a list -/
def wRevL (w : WE) : WE := fun δ S Q E => w δ S (fun x S1 => match x with
  | .d (.lst ds) => ∀ p, Q (.h p) (S1 ++ [(p, .lst (ds.map X.d).reverse)])
  | .d (.scr ds) => ∀ p, Q (.h p) (S1 ++ [(p, .lst (ds.map X.d).reverse)])
  | .h a => lstAt S1 a fun _ ys => ∀ p, Q (.h p) (S1 ++ [(p, .lst ys.reverse)])
  | _ => False) E
theorem RepXs.rev {K : PySem.W.Frag} {F : Hp} {vs : List V} {xs : List X} (r : RepXs K F vs xs) : RepXs K F vs.reverse xs.reverse := by
  induction r with
  | nil => exact .nil
  | cons h t ih => rw [List.reverse_cons, List.reverse_cons]; exact ih.app (.cons h .nil)
theorem re_revL {K : PySem.W.Frag} {W : WX} {te : TE} {w : WE} (h : RE K W te w) : RE K W (tRevL K te) (wRevL w) := fun A F δ S σ H Q E Q' st lk hw k =>
  h A F δ S σ H _ E _ st lk hw fun F1 S1 H1 v x st1 e1 r q => by
    have k' := fun F' S' H' v x a b => k F' S' H' v x a (e1.trans b)
    split at q
    · cases r with | lst h1 h2 => exact ⟨_, _, rfl, SqL.of (st1.fr _ _ h1), fun p hp => goL st1 k' hp h2.xs.rev q⟩
    · cases r with | scr h1 h2 => exact ⟨_, _, rfl, ex_l st1.fr h1, fun p hp => goL st1 k' hp h2.xs.rev q⟩
    · obtain ⟨i, ys, ws, e, hf, hp, rr, q⟩ := lstAt.ok st1 q
      exact ⟨_, ws, r, SqL.of hp, fun p hp => goL st1 k' hp rr.rev q⟩
    · exact q.elim
theorem f_revL {Y : Cx} {K0 : PySem.W.Frag} [hKK : HasK Y K0] {W : WX} {e : Expr} {te : TE} {w : WE} {k : Nat} {p1 p2 p3 pos : Pos} (h : FE Y W e te w) : FE Y W (.Subscript e (.Slice none none (some (.UnaryOp .USub (.Constant (.int 1) k p1) p2)) p3) pos) (tRevL K0 te) (wRevL w) := by
  obtain ⟨rfl⟩ := hKK
  exact ⟨pe_revL h.pe, re_revL h.re⟩

/-! ### own == -/
def rOwn (K : PySem.W.Frag) (C : Addr) (sp : Sp) : R2 := fun x y H Q => ∃ a dx fs tb, x = .ref a ∧ H a = some (.ins C dx fs) ∧ TyX K H y tb ∧ PySem.W.notFirst K C tb = true ∧ sp [x, y] H (fun v H' => (∃ b, v = .bl b) ∧ Q v H') fun _ _ _ => False
theorem op_own {X : Cx} {n : Nat} {C f : Addr} {fd : FuncData} {ps : List Str} {sp : Sp} (F : FnOk X.prog X.w X.K X.mg X.base CX0 n f fd ps sp) (hr : Room n X.A)
    (hs : PySem.W.findIn X.K (.ref C) "__eq__" = some (some (.ref f))) (hf : PySem.W.isFn X.K (.ref f) = true) (hb : Binds X.K fd ps []) : OpR X (compareOp .Eq) (rOwn X.K C sp) := by
  intro pins s σ H x y v u Q I rx ry hq
  obtain ⟨a, dx, fs, tb, rfl, ha, hty, hn, hsp⟩ := hq
  cases rx
  obtain ⟨mA, J, _⟩ := ins_get I.hok ha
  obtain ⟨od, J, _⟩ := J.look
  obtain ⟨P, Z, hP, _⟩ := kit_of I ry hty
  obtain ⟨m, hF⟩ := I.fr
  refine PySem.W.cmp_K (op := .Eq) hr.units0 hF I.ok.mod.kin J (Z.ty _ _ I.kIn hP) hn hs hf ?_
  have hl := F.len _ _ _ _ hsp
  refine wpAny_mono (run_fn (us := [.ref a, u]) (vs := [.ref a, y]) (ds := []) (dvs := []) F hr hb .nil pass0 I (.cons rfl (.cons ry .nil)) hsp) (fun r s' hq => ?_) fun _ _ z => z
  obtain ⟨z, H', I', rz, ⟨b, rfl⟩, q⟩ := hq
  cases rz
  exact ⟨.bl b, H', I', rfl, q⟩
def objIs (x : X) (S : Store) (C : Addr) : Prop := match x with
  | .d (.obj C' _) => C' = C
  | .h a => ∃ (i : Nat) (fs : List (Str × X)), S[i]? = some (a, .obj C fs)
  | _ => False
theorem objIs.ok {K : PySem.W.Frag} {A : Anc} {F H : Hp} {δ : Env} {S : Store} {σ : L2.St} {o : X} {C : Addr} {v : V} (st : ST K A F δ S σ H) (r : RepX K F v o) (h : objIs o S C) : ∃ a dx fs, v = .ref a ∧ H a = some (.ins C dx fs) := by
  unfold objIs at h
  split at h
  · subst h
    cases r with
    | obj h1 h2 => exact ⟨_, _, _, rfl, st.fr _ _ h1⟩
  · obtain ⟨i, fs, e⟩ := h
    obtain ⟨_, dx, ws, hp, rr⟩ := st.cell _ (List.mem_of_getElem? e)
    exact ⟨_, dx, ws, r, hp⟩
  · exact h.elim
def dOwn (K : PySem.W.Frag) (C : Addr) (sp : DSp) : DR2 := fun x y S Q => objIs x S C ∧ TyD K S y (fun t => PySem.W.notFirst K C t = true) ∧ callD sp [] [x, y] S (fun r S' => ∃ b, r = .d (.bl b) ∧ Q r S') noE
theorem rr_own {K : PySem.W.Frag} {C : Addr} {sp : DSp} : RR K (rOwn K C (lift K sp)) (dOwn K C sp) := fun A F δ S σ H v u x y Q Q' st rx ry h k => by
  obtain ⟨h1, h2, h3⟩ := h
  obtain ⟨a, dx, fs, rfl, ha⟩ := objIs.ok st rx h1
  obtain ⟨t, ht, hn⟩ := TyD.ok st ry h2
  refine ⟨a, dx, fs, t, rfl, ha, ht, hn, lift_call st (.cons rx (.cons ry .nil)) h3 (fun F' S' H' v z st' e' rz q => ?_) fun _ _ _ _ _ _ _ _ z => z⟩
  obtain ⟨b, rfl, q⟩ := q
  exact ⟨⟨b, repd_bl rz⟩, k _ _ _ _ _ st' e' rz q⟩
section
variable {Y : Cx} {W : WX} {a b : Expr} {pos : Pos} {ta tb : TE} {wa wb : WE} {n : Nat} {C f : Addr} {fd : FuncData} {ps : List Str} {sp : DSp}
theorem f_eqO {K0 : PySem.W.Frag} [hKK : HasK Y K0] (hs : PySem.W.findIn K0 (.ref C) "__eq__" = some (some (.ref f))) (hf : PySem.W.isFn K0 (.ref f) = true) (F : FnOk Y.prog Y.w K0 Y.mg Y.base CX0 n f fd ps (lift K0 sp)) (hr : Room n Y.A) (hb : Binds K0 fd ps []) (ha : FE Y W a ta wa) (hb' : FE Y W b tb wb) :
    FE Y W (.Compare a [.Eq] [b] pos) (tOp (rOwn K0 C (lift K0 sp)) ta tb) (wOp (dOwn K0 C sp) wa wb) := by
  obtain ⟨rfl⟩ := hKK
  exact f_cmp (op_own F hr hs hf hb) rr_own ha hb'
theorem ft_eqO {K0 : PySem.W.Frag} [hKK : HasK Y K0] (hs : PySem.W.findIn K0 (.ref C) "__eq__" = some (some (.ref f))) (hf : PySem.W.isFn K0 (.ref f) = true) (F : FnOk Y.prog Y.w K0 Y.mg Y.base CX0 n f fd ps (lift K0 sp)) (hr : Room n Y.A) (hb : Binds K0 fd ps []) (ha : FE Y W a ta wa) (hb' : FE Y W b tb wb) :
    FT Y W (.Compare a [.Eq] [b] pos) (tTest (tOp (rOwn K0 C (lift K0 sp)) ta tb)) (wTest (wOp (dOwn K0 C sp) wa wb)) := by
  obtain ⟨rfl⟩ := hKK
  exact ft_cmp (op_own F hr hs hf hb) rr_own ha hb'
end

/-! ### defs with defaults -/
section
variable {P : Program} {w : World} {K : PySem.W.Frag} {mg : Str → Option Value} {base : Heap} {x qual : Str} {params : Arguments} {body : List Stmt} {scope : Scope} {dvs : List V} {kws : List (Str × V)} {f : Addr} {fd : FuncData} {N ps : List Str} {k : Nat} {sp : DSp} {ws : WS}
theorem dfnD (F : FunD K x qual params body scope dvs kws f fd) (sc : FnScope N ps scope) (len : ∀ xs S Q E, sp xs S Q E → xs.length = ps.length)
    (hbody : ∀ (cdv : Value) (A : Around) (outer : List PySem.Env) (s : Shared) (H : Hp) (E : XK), Room k (A.deeper (envOfC qual scope s.heap.objs.size f cdv)) →
      ∃ t, FSs (cxOf CX0 P w K mg base N qual scope f cdv A outer s H E).nox (fun _ _ _ _ => False) body t ws)
    (hw : ∀ xs S Q E, sp xs S Q E → ws { nx := fun _ S' => Q (.d .non) S', rt := Q } (startD N xs) S (fun _ _ _ => False)) : FnOk P w K mg base CX0 (k + 1) f fd ps (lift K sp) := by
  refine F.ok sc (fun vs H Q E h => ?_) (fun cdv A outer s H vs Q E hr h => ?_)
  · obtain ⟨F, xs, S, Qd, Ed, _, r, h, _⟩ := h
    exact r.len.trans (len _ _ _ _ h)
  · obtain ⟨F, xs, S, Qd, Ed, st, r, h, k1, k2⟩ := h
    obtain ⟨t, ht⟩ := hbody cdv A outer s H E hr
    refine ⟨t, ht.ps.nox, ht.re _ F _ S _ H _ _ _ (st.startD r) ⟨fun F' δ S' σ H' st' q => ?_, fun F' δ S' σ H' v y st' ry q => ?_, fun _ _ _ _ _ _ z => z, fun _ _ _ _ _ _ z => z⟩ link0 (hw _ _ _ _ h)⟩
    · exact k1 F' S' H' .non (.d .non) (st'.setEnv (fun i x e => by simp at e) rfl) Rep.non q
    · exact k1 F' S' H' v y (st'.setEnv (fun i x e => by simp at e) rfl) ry q
/-- keywords for parameters that have defaults -/
theorem kb_of {n : Nat} {ks : List Str} (F : FunD K x qual params body scope dvs kws f fd) (hd : dvs ≠ [])
    (h : ∀ (T : Addr) (kV doc pm : Value) (an : Option Addr) (cdv ct : Value) (us its zs : List Value), us.length = n → its.length = dvs.length → zs.length = ks.length →
      ∃ k, bindArgs (PySem.W.fnOf x qual params body scope (.ref T) kV doc pm an cdv ct) ⟨us, ks.zip zs⟩ = seqItems? (.ref T) >>= k ∧ k (some its.toArray) = pure (ps.zip (us ++ zs))) : KBn K fd ps n ks (fun us zs => us ++ zs) fun us zs => us ++ zs := by
  obtain ⟨oc, od, dV, kV, doc, pm, an, cdv, ct, osl, rfl, lk, hcd, hD, hK⟩ := F.ex
  rcases hD with ⟨e, _⟩ | ⟨_, T, o, its, m, rfl, lT, oT, rT⟩
  · exact absurd e hd
  · refine ⟨fun s us zs X l1 l2 => ?_, fun r1 r2 => r1.append r2⟩
    obtain ⟨k, e1, e2⟩ := h T kV doc pm an cdv ct us its zs l1 rT.length.symm l2
    refine BindsTo.of_looks fun M => ?_
    rw [e1]
    exact looks_items X lT oT (.of_pure e2)
end
/-- keywords' values -/
structure FK (Y : Cx) (W : WX) (ks : List Keyword) (tk : TA) (wk : WA) : Prop where
  pk : PK Y ks tk
  re : RA Y.K W tk wk
def tMethN (C : Addr) (m : Str) (n l : Nat) (sp : Sp) (to : TE) (t tk : TA) : TE := fun σ H Q => to σ H fun x H1 => ∃ a dx fs, x = V.ref a ∧ H1 a = some (.ins C dx fs) ∧ fs.lookup m = none ∧ t σ H1 fun vs H2 => tk σ H2 fun zs H3 => vs.length + 1 = n ∧ zs.length = l ∧ sp (V.ref a :: (vs ++ zs)) H3 Q fun _ _ _ => False
theorem pe_methN {X : Cx} {C f : Addr} {m : Str} {n k : Nat} {fd : FuncData} {ps ks : List Str} {sp : Sp} {o e : Expr} {es : List Expr} {kws : List Keyword} {apos pos : Pos} {to : TE} {t tk : TA} {pl : Sem Bool} (he : PE X o to) (c : Cls X.K C) (hm : Meth X.K C m f) (F : FnOk X.prog X.w X.K X.mg X.base CX0 k f fd ps sp) (hr : Room k X.A)
    (hb : KBn X.K fd ps n ks (fun us zs => us ++ zs) fun us zs => us ++ zs) (ha : PA X (e :: es) t) (hkw : PK X kws tk) (hall : (backToKw pos (keywordEach kws X.env)).all (·.1.isSome) = true := by rfl) (hks : (backToKw pos (keywordEach kws X.env)).filterMap (·.1) = ks := by rfl)
    (hst : starEach (e :: es) X.env = (false, eval e X.env) :: starEach es X.env := by rfl) (hpl : ((backTo pos (starEach (e :: es) X.env)).any (·.1) || (backToKw pos (keywordEach kws X.env)).any (·.1.isNone)) = false := by rfl)
    (ht : eval (.Call (.Attribute o m apos) (e :: es) kws pos) X.env = (do
      let ov ← eval o X.env
      standAt apos.atName
      let (f, first) ← holding [ov] (getMethod ov m pl)
      callWith pos f first (backTo pos (starEach (e :: es) X.env)) (backToKw pos (keywordEach kws X.env))) := by rfl) :
    PE X (.Call (.Attribute o m apos) (e :: es) kws pos) (tMethN C m n ks.length sp to t tk) := by
  refine ⟨fun pins s σ H Q I h => ?_⟩
  refine PySem.W.methodCall_KW (pl := pl) (thn (he.run pins s σ H _ I h) fun u s1 ⟨x, H1, I1, rx, a, dx, fs, ex, ea, l, q⟩ => ?_) ht
  subst ex
  obtain rfl : u = Value.ref a := rx
  refine getmeth_ok I1 ea c hm l ?_
  refine PySem.W.callWith_KW (first := [.ref a]) (h₀ := X.base) I.ok.mod.kin hm.kp hall (thn (ha.run pos pins s1 σ H1 _ I1 q) fun us s2 ⟨vs, H2, I2, r, q2⟩ => ?_) hpl hst
  refine thn (hkw.run pos pins s2 σ H2 _ I2 q2) fun ws s3 ⟨zs, H3, I3, rz, l1, l2, q3⟩ => ⟨I3.kIn, ?_⟩
  rw [hks]
  exact run_fnN (us := .ref a :: us) (vs := .ref a :: vs) F hr hb pass0 I3 (.cons rfl r) rz (by simpa using l1) l2 q3
def wMethN (C : Addr) (m : Str) (n l : Nat) (ds : DSp) (idx : List Nat) (wo : WE) (wa wk : WA) : WE := fun δ S Q E => wo δ S (fun o S1 => objAt o S1 C m ∧ wa δ S1 (fun xs S2 => wk δ S2 (fun zs S3 => xs.length + 1 = n ∧ zs.length = l ∧ callD ds idx (o :: (xs ++ zs)) S3 Q noE) E) E) E
theorem re_methN {K : PySem.W.Frag} {W : WX} {C : Addr} {m : Str} {n l : Nat} {ds : DSp} {idx : List Nat} {to : TE} {ta tk : TA} {wo : WE} {wa wk : WA} (ho : RE K W to wo) (h : RA K W ta wa) (h2 : RA K W tk wk) : RE K W (tMethN C m n l (lift K ds) to ta tk) (wMethN C m n l ds idx wo wa wk) := fun A F δ S σ H Q E Q' st lk hw k =>
  ho A F δ S σ H _ E _ st lk hw fun F1 S1 H1 v o st1 e1 ro ⟨q1, q2⟩ => by
    obtain ⟨a, dx, fs, ev, ha, hl⟩ := objAt.ok st1 ro q1
    subst ev
    refine ⟨a, dx, fs, rfl, ha, hl, h A F1 δ S1 σ H1 _ E _ st1 lk q2 fun F2 S2 H2 vs xs st2 e2 rs q => h2 A F2 δ S2 σ H2 _ E _ st2 lk q fun F3 S3 H3 zs ys st3 e3 rz ⟨l1, l2, q3⟩ => ⟨by rw [rs.len]; exact l1, by rw [rz.len]; exact l2, ?_⟩⟩
    exact lift_call st3 (Paired.cons (ro.mono (e2.trans e3)) (RepXs.app (rs.mono e3) rz)) q3 (fun F' S' H' v x a b => k F' S' H' v x a (((e1.trans e2).trans e3).trans b)) fun _ _ _ _ _ _ _ _ z => z
theorem f_methN {Y : Cx} {K0 : PySem.W.Frag} [hKK : HasK Y K0] {W : WX} {C f : Addr} {m : Str} {n k : Nat} {fd : FuncData} {ps ks : List Str} {sp : DSp} {o e : Expr} {es : List Expr} {kws : List Keyword} {apos pos : Pos} {to : TE} {t tk : TA} {wo : WE} {wa wk : WA} {pl : Sem Bool} {idx : List Nat} (he : FE Y W o to wo) (c : Cls K0 C) (hm : Meth K0 C m f) (F : FnOk Y.prog Y.w K0 Y.mg Y.base CX0 k f fd ps (lift K0 sp)) (hr : Room k Y.A)
    (hb : KBn K0 fd ps n ks (fun us zs => us ++ zs) fun us zs => us ++ zs) (ha : FA Y W (e :: es) t wa) (hkw : FK Y W kws tk wk) (hall : (backToKw pos (keywordEach kws Y.env)).all (·.1.isSome) = true := by rfl) (hks : (backToKw pos (keywordEach kws Y.env)).filterMap (·.1) = ks := by rfl)
    (hst : starEach (e :: es) Y.env = (false, eval e Y.env) :: starEach es Y.env := by rfl) (hpl : ((backTo pos (starEach (e :: es) Y.env)).any (·.1) || (backToKw pos (keywordEach kws Y.env)).any (·.1.isNone)) = false := by rfl)
    (ht : eval (.Call (.Attribute o m apos) (e :: es) kws pos) Y.env = (do
      let ov ← eval o Y.env
      standAt apos.atName
      let (f, first) ← holding [ov] (getMethod ov m pl)
      callWith pos f first (backTo pos (starEach (e :: es) Y.env)) (backToKw pos (keywordEach kws Y.env))) := by rfl) :
    FE Y W (.Call (.Attribute o m apos) (e :: es) kws pos) (tMethN C m n ks.length (lift K0 sp) to t tk) (wMethN C m n ks.length sp idx wo wa wk) := by
  obtain ⟨rfl⟩ := hKK
  exact ⟨pe_methN he.pe c hm F hr hb ha.pa hkw.pk hall hks hst hpl ht, re_methN he.re ha.re hkw.re⟩

/-! ### defs that are run where no repr is under way -/
theorem dfnG {P : Program} {w : World} {K : PySem.W.Frag} {mg : Str → Option Value} {base : Heap} {x qual : Str} {st : Stmt} {f : Addr} {fd : FuncData} {N ps : List Str} {k : Nat} {sp : DSp} {ws : WS} (F : Fun K x qual st f fd) (sc : FnScope N ps (defScope st)) (len : ∀ xs S Q E, sp xs S Q E → xs.length = ps.length)
    (hbody : ∀ (cdv : Value) (A : Around) (outer : List PySem.Env) (s : Shared) (H : Hp) (E : XK), A.guards = some [] → Room k (A.deeper (envOfC qual (defScope st) s.heap.objs.size f cdv)) →
      ∃ t, FSs (cxOf CX0 P w K mg base N qual (defScope st) f cdv A outer s H E).nox (fun _ _ _ _ => False) (defBody st) t ws)
    (hw : ∀ xs S Q E, sp xs S Q E → ws { nx := fun _ S' => Q (.d .non) S', rt := Q } (startD N xs) S (fun _ _ _ => False)) : FnG P w K mg base CX0 (k + 1) f fd ps (lift K sp) := by
  refine Fun.okG F sc (fun vs H Q E h => ?_) (fun cdv A outer s H vs Q E hg hr h => ?_)
  · obtain ⟨F, xs, S, Qd, Ed, _, r, h, _⟩ := h
    exact r.len.trans (len _ _ _ _ h)
  · obtain ⟨F, xs, S, Qd, Ed, st, r, h, k1, k2⟩ := h
    obtain ⟨t, ht⟩ := hbody cdv A outer s H E hg hr
    refine ⟨t, ht.ps.nox, ht.re _ F _ S _ H _ _ _ (st.startD r) ⟨fun F' δ S' σ H' st' q => ?_, fun F' δ S' σ H' v y st' ry q => ?_, fun _ _ _ _ _ _ z => z, fun _ _ _ _ _ _ z => z⟩ link0 (hw _ _ _ _ h)⟩
    · exact k1 F' S' H' .non (.d .non) (st'.setEnv (fun i x e => by simp at e) rfl) Rep.non q
    · exact k1 F' S' H' v y (st'.setEnv (fun i x e => by simp at e) rfl) ry q
section
variable {Y : Cx} {W : WX} {k : Nat} {f : Addr} {fd : FuncData} {ps : List Str} {sp : DSp} {dvs : List V} {dxs : List X} {dsv : List Value} {x : Str} {p pos : Pos} {e : Expr} {es : List Expr} {ta : TA} {wa : WA}
theorem f_callG {K0 : PySem.W.Frag} [hKK : HasK Y K0] {idx : List Nat} (hgd : Y.A.guards = some []) (F : FnG Y.prog Y.w K0 Y.mg Y.base CX0 k f fd ps (lift K0 sp)) (hr : Room k Y.A) (hm : Y.mg x = some (.ref f)) (hk : PySem.W.keepIn K0 (.ref f) = true) (hb : Binds K0 fd ps dsv) (hd : Vals dvs dsv) (hdx : ∀ F, RepXs K0 F dvs dxs)
    (ha : FA Y W (e :: es) ta wa) (hg : Gl Y x := by rfl) (hdb : (x == ("__debug__" : Str)) = false := by decide) (he : starEach (e :: es) Y.env = (false, eval e Y.env) :: starEach es Y.env := by rfl) (hpl : (backTo pos (starEach es Y.env)).any (·.1) = false := by rfl) :
    FE Y W (.Call (.Name x p) (e :: es) [] pos) (tCall (lift K0 sp) dvs E0 ta) (wCall sp idx dxs wa) := by
  obtain ⟨rfl⟩ := hKK
  exact ⟨pe_callG hgd F hr hg hm hk hb hd pass0 ha.pa hdb he hpl, re_call hdx ha.re⟩
end
end DP

set_option Elab.async false
set_option linter.all false
set_option maxRecDepth 100000
set_option maxHeartbeats 1000000
namespace DP
open PySem PySem.Spec PyProof.Rows L2
open Evl (Ex ex_l ex_t ex_rd fresh_back)

/-! ### a, .. = x, .. through a tuple -/
def wAsgT (n : Nat) (r : WA) (dgs : DTgs) : WS := fun Δ δ S E => r δ S (fun xs S1 => xs.length ≤ sizeLine ∧ xs.length = n ∧ dgs xs δ S1 Δ.nx) E
section
variable {K : PySem.W.Frag} {W : WX}
theorem rs_asgT {n : Nat} {ta : TA} {r : WA} {gs : TGs} {dgs : DTgs} {ws : List Nat} (h : RA K W ta r) (hg : RGs K gs dgs ws) : RS K W (tAsg (tTup ta) (gTup K n gs)) (wAsgT n r dgs) := fun A F δ S σ H D Δ E st ld lk hw =>
  h A F δ S σ H _ E _ st lk hw fun F1 S1 H1 vs xs st1 _ rs ⟨q1, q2, q3⟩ => ⟨by rw [rs.len]; exact q1, fun p hp =>
    have st2 : ST K A F1 δ S1 σ (upd H1 p (.tup vs)) := st1.junk hp
    ⟨p, vs, rfl, SqT.of upd_same, rs.len.trans q2, hg A F1 δ S1 σ _ vs xs _ _ st2 rs q3 fun F2 δ2 S2 σ2 H2 st3 _ _ q4 => ld.nx _ _ _ _ _ st3 q4⟩⟩
end
theorem fs_asgT {Y : Cx} {K0 : PySem.W.Frag} [hKK : HasK Y K0] {W : WX} {es ts : List Expr} {x1 k : Nat} {p1 p2 pos : Pos} {ta : TA} {wa : WA} {gs : TGs} {dgs : DTgs} {ws : List Nat} {n : Nat} (hc : Y.calm = true) (ha : FA Y W es ta wa) (hg : FGs Y ts gs dgs ws) (hn : (assignEach ts Y.env).length = n := by rfl) (hst : (assignEach ts Y.env).findIdx? (·.1) = none := by rfl)
    (hs : swapsWithSole [.Tuple ts k p2] (.Tuple es x1 p1) pos.line Y.env = pure false := by rfl) (hw : swappedStores [.Tuple ts k p2] (.Tuple es x1 p1) Y.env = pure none := by rfl)
    (h1 : (assignEach [.Tuple ts k p2] Y.env).map (·.2) = [assign (.Tuple ts k p2) Y.env] := by rfl) : FS Y W (.Assign [.Tuple ts k p2] (.Tuple es x1 p1) pos) (tAsg (tTup ta) (gTup K0 n gs)) (wAsgT n wa dgs) := by
  obtain ⟨rfl⟩ := hKK
  exact ⟨ps_asg (pe_tup ha.pa) (pg_tup hc hg.pg hn hst) hs hw h1, rs_asgT ha.re hg.re⟩

/-! ### a builtin class as a value -/
theorem f_ty {Y : Cx} {W : WX} {x : Str} {pos : Pos} {n : String} (hm : Y.mg x = none) (hg : Gl Y x := by rfl) (hv : bootBuiltins x = some (.type n) := by decide +kernel) (hn : x ≠ "__name__" := by decide) (hd : (x == ("__debug__" : Str)) = false := by decide) :
    FE Y W (.Name x pos) (tC (.ty n)) (wC (.ty n)) := f_bltn hg hm hv rfl (fun _ => .ty n) hn hd

theorem f_cls {Y : Cx} {W : WX} {x : Str} {pos : Pos} {C : Addr} (hm : Y.mg x = some (.ref C)) (hg : Gl Y x := by rfl) (hd : (x == ("__debug__" : Str)) = false := by decide) : FE Y W (.Name x pos) (tC (.ref C)) (wC (.glob C)) := f_glob hg hm rfl (fun _ => .glob C) hd

theorem dx_int {K : PySem.W.Frag} {F : Hp} (i : Int) : RepX K F (V.int i) (X.d (.int i)) := Rep.int i

/-! ### keywords -/
theorem fk_nil {Y : Cx} {W : WX} : FK Y W [] tNil wNil := ⟨pk_nil, ra_nil⟩
theorem fk_cons {Y : Cx} {W : WX} {e : Expr} {te : TE} {w : WE} {nm : Option Str} {kpos : Pos} {kws : List Keyword} {tk : TA} {wk : WA} (h : FE Y W e te w) (h2 : FK Y W kws tk wk) : FK Y W (⟨nm, e, kpos⟩ :: kws) (tCons te tk) (wCons w wk) := ⟨pk_cons h.pe h2.pk, ra_cons h.re h2.re⟩

/-! ### room -/
theorem hu1 {k : Nat} {A : Around} (r : Room k A) : A.units + 1 < cLine := by have := r.un; omega
theorem hu64 {k : Nat} {A : Around} (r : Room k A) : A.units + 64 < cLine := by have := r.un; omega
theorem hu65 {k : Nat} {A : Around} (r : Room k A) : A.units + 65 < cLine := by have := r.un; omega
theorem hu66 {k : Nat} {A : Around} (r : Room k A) : A.units + 66 < cLine := by have := r.un; omega

/-! ### the law -/
def spLaw : DSp := fun xs S Q _ => match xs with
  | [.d (.scr ds)] => ∃ ns : List Int, ds = ns.map D.int ∧ ns.length ≤ 63 ∧ S = [] ∧ ∀ S', Q (.d (.bl true)) S'
  | _ => False
theorem len_law (xs : List X) (S : Store) (Q : XQ) (E : Exn → Store → Prop) (h : spLaw xs S Q E) : xs.length = ["_law_script"].length := by
  unfold spLaw at h
  split at h
  · rfl
  · exact h.elim
theorem reps_ints {K : PySem.W.Frag} {F : Hp} : ∀ ns : List Int, Reps K F (ns.map V.int) (ns.map D.int)
  | [] => .nil
  | n :: ns => .cons (.int n) (reps_ints ns)
theorem law_lift {K : PySem.W.Frag} {H : Hp} {a : Addr} {ns : List Int} (hl : ns.length ≤ 63) (hS : SqL K H a (ns.map V.int)) : lift K spLaw [.ref a] H (fun v _ => v = .bl true) fun _ _ _ => False := by
  refine ⟨H, [.d (.scr (ns.map D.int))], [], fun x _ => x = .d (.bl true), fun _ _ => False, ⟨Ex.refl H, Ex.refl H, fun a o e _ => e, fun a e => .inl e, List.nodup_nil, fun p hp => (nomatch hp), fun p hp => (nomatch hp), fun i x e => (by simp at e), rfl⟩,
    .cons (show Rep K H (.ref a) (.scr (ns.map D.int)) from .scr hS (reps_ints ns)) .nil, ⟨ns, rfl, hl, rfl, fun _ => rfl⟩, fun F' S' H' v r _ rr e => ?_, fun _ _ _ _ _ _ _ _ z => z⟩
  subst e
  exact repd_bl rr
end DP

set_option Elab.async false
set_option linter.all false
set_option maxRecDepth 100000
set_option maxHeartbeats 1000000
namespace DP
open PySem PySem.Spec PyProof.Rows L2
open Evl (Ex ex_l ex_t ex_rd fresh_back)

/-! ### a name gets a dict comprehension -/
theorem sw_trueD {kx vx : Expr} {gs : List Comprehension} {scope : Scope} {pos py : Pos} {y : Str} {l : Nat} {env : PySem.Env} (hk : env.scope.kind = .function) (hy : env.scope.names.lookup y = some .local) (hl : (py.line == pos.line) = true)
    (ha : (scope.names.any fun (n, k) => n == y && (k == .local || k == .cell)) = false) : swapsWith (.DictComp kx vx gs scope pos) (some (.Name y py)) l env = pure true := by
  have ky : env.kindOf y = some .local := hy
  have hb : env.blockKind = .function := by unfold PySem.Env.blockKind; rw [hk]; rfl
  unfold swapsWith
  simp only [hb, ky, ha, Expr.pos, hl]
  rfl
section
variable {X : Cx} {elt kx vx tg iter tg1 iter1 : Expr} {ifs ifs1 : List Expr} {scope : Scope} {own : List (Str × Nat)} {pos spos : Pos}
theorem ps_setDc {i : Nat} {y : Str} {py : Pos} {wi : TI} {g : TG} {tt : TT} {tk tv : TE} (hc : X.calm = true) (hN : X.N.Nodup) (hy : X.N[i]? = some y) (hyl : X.env.scope.names.lookup y = some .local)
    (hsw : swapsWith (.DictComp kx vx [⟨tg, iter, ifs, 0⟩] scope pos) (some (.Name y py)) spos.line X.env = pure true) (hi : PI X tg iter wi) (ok : BlkOk X.N X.env.scope scope own)
    (hg : ∀ (s : Shared) (H : Hp) (C : Addr) (cl : List (Str × Addr)) (fp : List Addr), PG (X.blk s H scope (compEnvC scope cl C X.env) fp) tg g) (ht : ∀ (s : Shared) (H : Hp) (C : Addr) (cl : List (Str × Addr)) (fp : List Addr), PTs (X.blk s H scope (compEnvC scope cl C X.env) fp) ifs tt)
    (hk : ∀ (s : Shared) (H : Hp) (C : Addr) (cl : List (Str × Addr)) (fp : List Addr), PE (X.blk s H scope (compEnvC scope cl C X.env) fp) kx tk)
    (he : ∀ (s : Shared) (H : Hp) (C : Addr) (cl : List (Str × Addr)) (fp : List Addr), PE (X.blk s H scope (compEnvC scope cl C X.env) fp) vx tv) (hs : ∀ x, foldedSetIterable iter X.env x = pure x := by intro _; rfl) :
    PS X (.Assign [.Name y py] (.DictComp kx vx [⟨tg, iter, ifs, 0⟩] scope pos) spos) (tAsg (tDc wi g tt tk tv (own.map (·.2))) (gName i)) := by
  refine ⟨fun pins s σ H D I h => ?_⟩
  rw [exec_Assign_Name_used _ _ _ _ hsw]
  refine wpAny_bind (wpAny_standAt (wpAny_bind ?_))
  show wpAny _ X.A (do let _ ← comprehension (.DictComp kx vx [⟨tg, iter, ifs, 0⟩] scope pos) scope X.env (firstIterPos [⟨tg, iter, ifs, 0⟩] pos) newDict false (eval iter X.env) (some (assign (.Name y py) X.env))) _ _ s
  have h : tDc wi g tt tk tv (own.map (·.2)) σ H (fun x H1 => gName i x σ H1 D.nx) := h
  refine wpAny_bind (thn (dc_core (Qf := fun _ s' => SP X pins D .next s') hc hN I hi ok hg ht hk he hs h fun L C s' m H' I' q hn f => ?_) fun _ s' hq => wpAny_pure (wpAny_pure hq))
  show wpAny _ _ (assign (.Name y py) X.env (.ref L)) _ _ _
  refine wpAny_assign_Name (store_ok2 (v := V.ref L) I' hN hy (.inl hyl) rfl (fun s2 I2 ⟨a, sb, ha⟩ => ?_) (.inr hyl))
  obtain ⟨f0, f1, f2, f3, f4, f5⟩ := f
  have haC : C ≠ a := by
    rcases ha with z | z
    · rw [z]; exact f1
    · exact fun e => f4 y a z e.symm
  refine ⟨m, hn.sameBut sb haC, fun h3 sb3 => ?_⟩
  exact ⟨_, H', I2.turned (t' := s2.toks) (fun b o hb e => (sb3.2 b hb).trans e) f0 f1 f3 f4 f5, q⟩
end
section
variable {Y : Cx} {W : WX} {elt kx vx tg iter tg1 iter1 : Expr} {ifs ifs1 : List Expr} {scope : Scope} {pos spos : Pos} {wi wi1 : TI} {wit wit1 : WI} {g g1 : TG} {dg dg1 : DTg} {ws ws1 : List Nat} {tt tt1 : TT} {wt wt1 : WT} {te tk tv : TE} {we wk wv : WE}
theorem fs_setDc {i : Nat} {y : Str} {py : Pos} {own : List (Str × Nat)} (hc : Y.calm = true) (hN : Y.N.Nodup) (ok : blkC Y.N Y.env.scope scope own = true) (hi : FI Y W tg iter wi wit)
    (hg : ∀ (s : Shared) (H : Hp) (C : Addr) (cl : List (Str × Addr)) (fp : List Addr), FG (Y.blk s H scope (compEnvC scope cl C Y.env) fp) tg g dg ws) (ht : ∀ (s : Shared) (H : Hp) (C : Addr) (cl : List (Str × Addr)) (fp : List Addr), FTs (Y.blk s H scope (compEnvC scope cl C Y.env) fp) ifs tt wt)
    (hk : ∀ (s : Shared) (H : Hp) (C : Addr) (cl : List (Str × Addr)) (fp : List Addr), FE (Y.blk s H scope (compEnvC scope cl C Y.env) fp) W0 kx tk wk)
    (hv : ∀ (s : Shared) (H : Hp) (C : Addr) (cl : List (Str × Addr)) (fp : List Addr), FE (Y.blk s H scope (compEnvC scope cl C Y.env) fp) W0 vx tv wv)
    (hy : Y.N[i]? = some y := by rfl) (hyl : Y.env.scope.names.lookup y = some .local := by rfl)
    (hsw : swapsWith (.DictComp kx vx [⟨tg, iter, ifs, 0⟩] scope pos) (some (.Name y py)) spos.line Y.env = pure true := by exact sw_trueD rfl rfl rfl (by decide +kernel))
    (hws : ∀ i ∈ ws, i ∈ own.map (·.2) := by decide) (hs : ∀ x, foldedSetIterable iter Y.env x = pure x := by intro _; rfl) :
    FS Y W (.Assign [.Name y py] (.DictComp kx vx [⟨tg, iter, ifs, 0⟩] scope pos) spos) (tAsg (tDc wi g tt tk tv (own.map (·.2))) (gName i)) (wAsg (wDc wit dg wt wk wv (own.map (·.2))) (dName i)) :=
  ⟨ps_setDc hc hN hy hyl hsw hi.pi (blkOk_by ok) (fun s H C cl fp => (hg s H C cl fp).pg) (fun s H C cl fp => (ht s H C cl fp).pt) (fun s H C cl fp => (hk s H C cl fp).pe) (fun s H C cl fp => (hv s H C cl fp).pe) hs,
    rs_asg (re_dc hi.re (hg ({} : Shared) (fun _ => none) 0 [] []).re hws (ht ({} : Shared) (fun _ => none) 0 [] []).re (hk ({} : Shared) (fun _ => none) 0 [] []).re (hv ({} : Shared) (fun _ => none) 0 [] []).re) rg_name⟩
theorem fs_setLc2 {i : Nat} {y : Str} {py : Pos} {own : List (Str × Nat)} {vs1 : List Nat} (hc : Y.calm = true) (hN : Y.N.Nodup) (ok : blkC Y.N Y.env.scope scope own = true) (hi : FI Y W tg iter wi wit)
    (hg : ∀ (s : Shared) (H : Hp) (C : Addr) (cl : List (Str × Addr)) (fp : List Addr), FG (Y.blk s H scope (compEnvC scope cl C Y.env) fp) tg g dg ws) (ht : ∀ (s : Shared) (H : Hp) (C : Addr) (cl : List (Str × Addr)) (fp : List Addr), FTs (Y.blk s H scope (compEnvC scope cl C Y.env) fp) ifs tt wt)
    (hi1 : ∀ (s : Shared) (H : Hp) (C : Addr) (cl : List (Str × Addr)) (fp : List Addr), FI (Y.blk s H scope (compEnvC scope cl C Y.env) fp) W0 tg1 iter1 wi1 wit1)
    (hg1 : ∀ (s : Shared) (H : Hp) (C : Addr) (cl : List (Str × Addr)) (fp : List Addr), FG (Y.blk s H scope (compEnvC scope cl C Y.env) fp) tg1 g1 dg1 ws1) (ht1 : ∀ (s : Shared) (H : Hp) (C : Addr) (cl : List (Str × Addr)) (fp : List Addr), FTs (Y.blk s H scope (compEnvC scope cl C Y.env) fp) ifs1 tt1 wt1)
    (he : ∀ (s : Shared) (H : Hp) (C : Addr) (cl : List (Str × Addr)) (fp : List Addr), FE (Y.blk s H scope (compEnvC scope cl C Y.env) fp) W0 elt te we)
    (hy : Y.N[i]? = some y := by rfl) (hyl : Y.env.scope.names.lookup y = some .local := by rfl)
    (hsw : swapsWith (.ListComp elt [⟨tg, iter, ifs, 0⟩, ⟨tg1, iter1, ifs1, 0⟩] scope pos) (some (.Name y py)) spos.line Y.env = pure true := by exact sw_true rfl rfl rfl (by decide +kernel))
    (hv : ∀ i ∈ vs1, i ∈ own.map (·.2) := by decide) (hws : ∀ i ∈ ws, i ∈ own.map (·.2) := by decide) (hws1 : ∀ i ∈ ws1, i ∈ vs1 := by decide) (hs : ∀ x, foldedSetIterable iter Y.env x = pure x := by intro _; rfl) (hs1 : ∀ env x, foldedSetIterable iter1 env x = pure x := by intro _ _; rfl) :
    FS Y W (.Assign [.Name y py] (.ListComp elt [⟨tg, iter, ifs, 0⟩, ⟨tg1, iter1, ifs1, 0⟩] scope pos) spos) (tAsg (tLc2 wi g tt wi1 g1 tt1 te (own.map (·.2)) vs1) (gName i)) (wAsg (wLc2 wit dg wt wit1 dg1 wt1 we (own.map (·.2)) vs1) (dName i)) :=
  ⟨ps_setLc2 hc hN hy hyl hsw hi.pi (blkOk_by ok) hv (fun s H C cl fp => (hg s H C cl fp).pg) (fun s H C cl fp => (ht s H C cl fp).pt) (fun s H C cl fp => (hi1 s H C cl fp).pi) (fun s H C cl fp => (hg1 s H C cl fp).pg) (fun s H C cl fp => (ht1 s H C cl fp).pt) (fun s H C cl fp => (he s H C cl fp).pe) hs hs1,
    rs_asg (re_lc2 hi.re (hg ({} : Shared) (fun _ => none) 0 [] []).re hws (ht ({} : Shared) (fun _ => none) 0 [] []).re (hi1 ({} : Shared) (fun _ => none) 0 [] []).re (hg1 ({} : Shared) (fun _ => none) 0 [] []).re hws1 (ht1 ({} : Shared) (fun _ => none) 0 [] []).re (he ({} : Shared) (fun _ => none) 0 [] []).re) rg_name⟩
/-- a statement x = e whose new list is a datum at once -/
theorem fs_setZ {i : Nat} {s : Stmt} {t : TE} {w : WE} (h : FS Y W s (tAsg t (gName i)) (wAsg w (dName i))) (hr : RE Y.K W t w) : FS Y W s (tAsg t (gName i)) (wAsg (wFz w) (dName i)) := ⟨h.ps, rs_asg (re_fz hr) rg_name⟩
theorem fs_setLcz {i : Nat} {y : Str} {py : Pos} {own : List (Str × Nat)} (hc : Y.calm = true) (hN : Y.N.Nodup) (ok : blkC Y.N Y.env.scope scope own = true) (hi : FI Y W tg iter wi wit)
    (hg : ∀ (s : Shared) (H : Hp) (C : Addr) (cl : List (Str × Addr)) (fp : List Addr), FG (Y.blk s H scope (compEnvC scope cl C Y.env) fp) tg g dg ws) (ht : ∀ (s : Shared) (H : Hp) (C : Addr) (cl : List (Str × Addr)) (fp : List Addr), FTs (Y.blk s H scope (compEnvC scope cl C Y.env) fp) ifs tt wt)
    (he : ∀ (s : Shared) (H : Hp) (C : Addr) (cl : List (Str × Addr)) (fp : List Addr), FE (Y.blk s H scope (compEnvC scope cl C Y.env) fp) W0 elt te we)
    (hy : Y.N[i]? = some y := by rfl) (hyl : Y.env.scope.names.lookup y = some .local := by rfl)
    (hsw : swapsWith (.ListComp elt [⟨tg, iter, ifs, 0⟩] scope pos) (some (.Name y py)) spos.line Y.env = pure true := by exact sw_true rfl rfl rfl (by decide +kernel))
    (hws : ∀ i ∈ ws, i ∈ own.map (·.2) := by decide) (hs : ∀ x, foldedSetIterable iter Y.env x = pure x := by intro _; rfl) :
    FS Y W (.Assign [.Name y py] (.ListComp elt [⟨tg, iter, ifs, 0⟩] scope pos) spos) (tAsg (tLc wi g tt te (own.map (·.2))) (gName i)) (wAsg (wFz (wLc wit dg wt we (own.map (·.2)))) (dName i)) :=
  fs_setZ (fs_setLc hc hN ok hi hg ht he hy hyl hsw hws hs) (re_lc hi.re (hg ({} : Shared) (fun _ => none) 0 [] []).re hws (ht ({} : Shared) (fun _ => none) 0 [] []).re (he ({} : Shared) (fun _ => none) 0 [] []).re)
theorem fs_setLc2z {i : Nat} {y : Str} {py : Pos} {own : List (Str × Nat)} {vs1 : List Nat} (hc : Y.calm = true) (hN : Y.N.Nodup) (ok : blkC Y.N Y.env.scope scope own = true) (hi : FI Y W tg iter wi wit)
    (hg : ∀ (s : Shared) (H : Hp) (C : Addr) (cl : List (Str × Addr)) (fp : List Addr), FG (Y.blk s H scope (compEnvC scope cl C Y.env) fp) tg g dg ws) (ht : ∀ (s : Shared) (H : Hp) (C : Addr) (cl : List (Str × Addr)) (fp : List Addr), FTs (Y.blk s H scope (compEnvC scope cl C Y.env) fp) ifs tt wt)
    (hi1 : ∀ (s : Shared) (H : Hp) (C : Addr) (cl : List (Str × Addr)) (fp : List Addr), FI (Y.blk s H scope (compEnvC scope cl C Y.env) fp) W0 tg1 iter1 wi1 wit1)
    (hg1 : ∀ (s : Shared) (H : Hp) (C : Addr) (cl : List (Str × Addr)) (fp : List Addr), FG (Y.blk s H scope (compEnvC scope cl C Y.env) fp) tg1 g1 dg1 ws1) (ht1 : ∀ (s : Shared) (H : Hp) (C : Addr) (cl : List (Str × Addr)) (fp : List Addr), FTs (Y.blk s H scope (compEnvC scope cl C Y.env) fp) ifs1 tt1 wt1)
    (he : ∀ (s : Shared) (H : Hp) (C : Addr) (cl : List (Str × Addr)) (fp : List Addr), FE (Y.blk s H scope (compEnvC scope cl C Y.env) fp) W0 elt te we)
    (hy : Y.N[i]? = some y := by rfl) (hyl : Y.env.scope.names.lookup y = some .local := by rfl)
    (hsw : swapsWith (.ListComp elt [⟨tg, iter, ifs, 0⟩, ⟨tg1, iter1, ifs1, 0⟩] scope pos) (some (.Name y py)) spos.line Y.env = pure true := by exact sw_true rfl rfl rfl (by decide +kernel))
    (hv : ∀ i ∈ vs1, i ∈ own.map (·.2) := by decide) (hws : ∀ i ∈ ws, i ∈ own.map (·.2) := by decide) (hws1 : ∀ i ∈ ws1, i ∈ vs1 := by decide) (hs : ∀ x, foldedSetIterable iter Y.env x = pure x := by intro _; rfl) (hs1 : ∀ env x, foldedSetIterable iter1 env x = pure x := by intro _ _; rfl) :
    FS Y W (.Assign [.Name y py] (.ListComp elt [⟨tg, iter, ifs, 0⟩, ⟨tg1, iter1, ifs1, 0⟩] scope pos) spos) (tAsg (tLc2 wi g tt wi1 g1 tt1 te (own.map (·.2)) vs1) (gName i)) (wAsg (wFz (wLc2 wit dg wt wit1 dg1 wt1 we (own.map (·.2)) vs1)) (dName i)) :=
  fs_setZ (fs_setLc2 hc hN ok hi hg ht hi1 hg1 ht1 he hy hyl hsw hv hws hws1 hs hs1) (re_lc2 hi.re (hg ({} : Shared) (fun _ => none) 0 [] []).re hws (ht ({} : Shared) (fun _ => none) 0 [] []).re (hi1 ({} : Shared) (fun _ => none) 0 [] []).re (hg1 ({} : Shared) (fun _ => none) 0 [] []).re hws1 (ht1 ({} : Shared) (fun _ => none) 0 [] []).re (he ({} : Shared) (fun _ => none) 0 [] []).re)
end
end DP

set_option Elab.async false
set_option linter.all false
set_option maxRecDepth 100000
set_option maxHeartbeats 1000000
namespace DP
open PySem PySem.Spec PyProof.Rows L2
open Evl (Ex ex_l ex_t ex_rd fresh_back)

/-! ### one thing is forgotten -/
theorem ST.sub {K : PySem.W.Frag} {A : Anc} {F H : Hp} {δ : Env} {S S' : Store} {σ : L2.St} (st : ST K A F δ S σ H) (h : S'.Sublist S) : ST K A F δ S' σ H := ⟨st.fr, st.a1, st.a2, st.a3, (h.map _).nodup st.nd, fun q hq => st.cell q (h.subset hq), fun q hq => st.foot q (h.subset hq), st.env, st.len⟩
def wDropC (j : Nat) (b : WS) : WS := fun Δ δ S E => b Δ δ (S.eraseIdx j) E
theorem rs_dropC {K : PySem.W.Frag} {W : WX} {t : TS} {a : WS} (j : Nat) (h : RS K W t a) : RS K W t (wDropC j a) := fun A F δ S σ H D Δ E st ld lk hw =>
  h A F δ _ σ H D Δ E (st.sub (List.eraseIdx_sublist ..)) ld lk hw
theorem fss_drop {Y : Cx} {W : WX} {sts : List Stmt} {t : TS} {a : WS} {j : Nat} (h : FSs Y W sts t a) : FSs Y W sts t (wDropC j a) := ⟨h.ps, rs_dropC j h.re⟩
end DP

set_option Elab.async false
set_option linter.all false
set_option maxRecDepth 100000
set_option maxHeartbeats 1000000
namespace DP
open PySem PySem.Spec PyProof.Rows L2
open Evl (Ex ex_l ex_t ex_rd fresh_back)

/-! ### a walk over any datum that can be walked: a list, a tuple, a dict's keys -/
def walkD : D → Option (List D)
  | .tup ds => some ds
  | .lst ds => some ds
  | .scr ds => some ds
  | .dct kvs => some (kvs.map fun kv => kD kv.1)
  | _ => none
def iAny (K : PySem.W.Frag) (tl : TE) : TI := fun σ H R => tl σ H fun x H1 => ∃ a, x = .ref a ∧ (((∃ xs, SqL K H1 a xs) ∧ R (Itl K a) H1) ∨ ((∃ xs, SqT K H1 a xs) ∧ R (Itt K a) H1) ∨ ∃ o kvs, H1 a = some (.frz o (.dK kvs)) ∧ R (Itk a o kvs) H1)
def wIAny (w : WE) : WI := fun δ S R E => w δ S (fun x S1 => match x with
  | .d d => (match walkD d with | some ds => R (ds.map X.d) S1 | none => False)
  | _ => False) E
theorem pi_any {Y : Cx} {tg l : Expr} {tl : TE} (hl : PE Y l tl) : PI Y tg l (iAny Y.K tl) := ⟨fun pins s σ H R I h => thn (hl.run pins s σ H _ I h) fun v s1 ⟨x, H1, I1, r1, a, e, q⟩ => by
  subst e
  have r1 : v = .ref a := r1
  subst r1
  have fp : ∀ {it : Addr}, it = s1.heap.objs.size → ∀ b ∈ [it], FpOk Y pins H1 b := fun {it} z b hb => by
    have e : b = it := by simpa using hb
    subst e; subst z
    exact I1.fpOk (Nat.le_refl _) (I1.hok.fresh (Nat.le_refl _))
  rcases q with ⟨⟨xs, hq⟩, q⟩ | ⟨⟨xs, hq⟩, q⟩ | ⟨o, kvs, hd, q⟩
  · obtain ⟨its, rv, p, hz⟩ := I1.list hq
    exact wpAny_pyIter_list p.isList ⟨_, [_], _, _, H1, rfl, I1.kept (t' := s1.toks) fun b o e => Heap.get?_push_of_some _ e, turn_list a _, ⟨_, Heap.get?_push_size _ rfl, rfl, rfl⟩, fp rfl, q⟩
  · obtain ⟨its, rv, p, hz⟩ := I1.tuple hq
    exact wpAny_pyIter_tuple (show s1.heap.IsTuple a its.toArray from p) ⟨_, [_], _, _, H1, rfl, I1.kept (t' := s1.toks) fun b o e => Heap.get?_push_of_some _ e, turn_tuple a _, ⟨_, Heap.get?_push_size _ rfl, rfl, rfl⟩, fp rfl, q⟩
  · obtain ⟨hs, hgd, hx, es, ep, vs, hdt, hsz, kv, hm⟩ := I1.frzK hd
    refine iter_keys hs hgd hx hdt (pi_one (tk := s1.toks) I1 _ (turn_keys _ hdt) ⟨_, Heap.get?_push_size _ rfl, rfl, ?_⟩ q)
    rw [hsz] <;> rfl⟩
section
variable {K : PySem.W.Frag} {W : WX}
theorem ri_any {te : TE} {w : WE} (h : RE K W te w) : RI K W (iAny K te) (wIAny w) := fun A F δ S σ H R E R' st lk hw k =>
  h A F δ S σ H _ E _ st lk hw fun F1 S1 H1 v x st1 e1 r q => by
    split at q
    · rename_i d
      have r : Rep K F1 v d := r
      split at q
      · rename_i ds hd
        cases d with
        | tup es =>
          cases hd
          cases r with | tup h1 h2 => exact ⟨_, rfl, .inr (.inl ⟨⟨_, ex_t st1.fr h1⟩, k F1 S1 H1 _ _ st1 e1 (walk_t (fun H e => ex_t e h1) h2) q⟩)⟩
        | lst es =>
          cases hd
          cases r with | lst h1 h2 => exact ⟨_, rfl, .inl ⟨⟨_, SqL.of (st1.fr _ _ h1)⟩, k F1 S1 H1 _ _ st1 e1 (walk_l (fun H e => SqL.of (e _ _ h1)) h2) q⟩⟩
        | scr es =>
          cases hd
          cases r with | scr h1 h2 => exact ⟨_, rfl, .inl ⟨⟨_, ex_l st1.fr h1⟩, k F1 S1 H1 _ _ st1 e1 (walk_l (fun H e => ex_l e h1) h2) q⟩⟩
        | dct kvs =>
          cases hd
          cases r with
          | @dct p ws _ o h1 h2 =>
            refine ⟨p, rfl, .inr (.inr ⟨o, ws, st1.fr _ _ h1, k F1 S1 H1 _ _ st1 e1 ⟨fun i F H hi a b => ?_, fun i F H v H' x hx a b hy => ?_, fun F H a b => ?_⟩ q⟩)⟩
            · rw [List.length_map, List.length_map] at hi
              exact ⟨b _ _ (a _ _ h1), by rw [h2.len]; exact hi⟩
            · obtain ⟨rfl, kk, u, hk, rfl⟩ := hy
              refine ⟨F, .inl ⟨rfl, rfl⟩, ?_⟩
              have e : (ws.map (·.1))[i]? = some kk := by rw [List.getElem?_map, hk]; rfl
              rw [RepK.get (i := 0) (kv := (kk, D.non)) h2] at e
              rw [List.map_map, List.getElem?_map, Option.map_eq_some_iff] at hx
              obtain ⟨kv, hz, rfl⟩ := hx
              rw [List.getElem?_map, hz] at e
              cases e
              exact kD_rep kv.1
            · exact ⟨b _ _ (a _ _ h1), by rw [List.length_map, List.length_map, h2.len]; exact Nat.le_refl _⟩
        | _ => cases hd
      · exact q.elim
    · exact q.elim
end
theorem fi_any {Y : Cx} {W : WX} {tg l : Expr} {te : TE} {w : WE} {K0 : PySem.W.Frag} [hKK : HasK Y K0] (h : FE Y W l te w) : FI Y W tg l (iAny K0 te) (wIAny w) := by
  obtain ⟨rfl⟩ := hKK
  exact ⟨pi_any h.pe, ri_any h.re⟩

/-! ### a walk over a list that may change -/
/-- the turns: i the place, the first number how many turns at most -/
def loopH (dg : DTg) (wb : WS) (Δ : DEnds) (E : XR) (a : Addr) : Nat → Nat → Env → Store → Prop
  | 0, _, _, _ => False
  | f + 1, i, δ, S => ∃ (j : Nat) (ys : List X), S[j]? = some (a, Cell.lst ys) ∧ match ys[i]? with
    | some x => dg x δ S fun δ1 S1 => wb ⟨fun δ2 S2 => loopH dg wb Δ E a f (i + 1) δ2 S2, Δ.rt, Δ.nx, fun δ2 S2 => loopH dg wb Δ E a f (i + 1) δ2 S2⟩ δ1 S1 E
    | none => Δ.nx δ S
def wForH (w : WE) (dg : DTg) (wb : WS) : WS := fun Δ δ S E => w δ S (fun x S1 => match x with
  | .h a => ∃ f, loopH dg wb Δ E a f 0 δ S1
  | _ => False) E
section
variable {K : PySem.W.Frag} {W : WX}
theorem itl_at {H : Hp} {a : Addr} {vs : List V} {i : Nat} {v : V} {H' : Hp} (h : SqL K H a vs) (hy : (Itl K a).yld i H v H') : H' = H ∧ vs[i]? = some v := ⟨hy.1, hy.2 vs h⟩
theorem rs_forH {te : TE} {w : WE} {g : TG} {dg : DTg} {tb : TS} {wb : WS} {ws : List Nat} (he : RE K W te w) (hg : RG K g dg ws) (hb : RS K W tb wb) : RS K W (tFor (iList K te) g tb) (wForH w dg wb) := fun A F δ S σ H D Δ E st ld lk hw =>
  he A F δ S σ H _ E _ st lk hw fun F1 S1 H1 v x st1 e1 r q => by
    split at q
    · rename_i a
      obtain ⟨f, q⟩ := q
      have r : v = .ref a := r
      subst r
      have hcell : ∀ {f i δ S}, loopH dg wb Δ E a f i δ S → ∃ (j : Nat) (ys : List X), S[j]? = some (a, Cell.lst ys) := fun {f i δ S} h => by
        cases f with
        | zero => exact h.elim
        | succ f => exact ⟨h.choose, h.choose_spec.choose, h.choose_spec.choose_spec.1⟩
      obtain ⟨j0, ys0, e0⟩ := hcell q
      obtain ⟨_, vs0, hp0, _⟩ := st1.cell _ (List.mem_of_getElem? e0)
      refine ⟨a, rfl, ⟨vs0, SqL.of hp0⟩, fun i m σ H => ∃ F δ S, ST K A F δ S σ H ∧ loopH dg wb Δ E a m i δ S, ⟨f, F1, δ, S1, st1, q⟩, ?_⟩
      rintro i m σ2 H2 ⟨F2, δ2, S2, st2, q2⟩
      cases m with
      | zero => exact q2.elim
      | succ m =>
        obtain ⟨j, ys, e, q2⟩ := q2
        obtain ⟨_, vs, hp, rr⟩ := st2.cell _ (List.mem_of_getElem? e)
        have hq : SqL K H2 a vs := SqL.of hp
        cases hx : ys[i]? with
        | none =>
          rw [hx] at q2
          refine .inl ⟨⟨vs, hq, ?_⟩, ld.nx _ _ _ _ _ st2 q2⟩
          have := List.getElem?_eq_none_iff.mp hx
          rw [rr.len]; exact this
        | some x =>
          rw [hx] at q2
          obtain ⟨u, hu, ru⟩ := rr.get hx
          refine .inr ⟨⟨vs, u, hq, hu⟩, fun σ' H' => ∃ F δ S, ST K A F δ S σ' H' ∧ loopH dg wb Δ E a m (i + 1) δ S, fun σ' H' z => ⟨m, Nat.lt_succ_self m, z⟩, fun v' H' hy => ?_⟩
          obtain ⟨rfl, hv⟩ := itl_at hq hy
          rw [hu] at hv
          cases hv
          refine hg _ F2 δ2 S2 σ2 _ _ x _ _ st2 ru q2 fun F4 δ4 S4 σ4 H4 st4 _ _ q4 => ?_
          exact hb _ F4 δ4 S4 σ4 H4 _ ⟨fun δ2 S2 => loopH dg wb Δ E a m (i + 1) δ2 S2, Δ.rt, Δ.nx, fun δ2 S2 => loopH dg wb Δ E a m (i + 1) δ2 S2⟩ E st4 ⟨fun F5 δ5 S5 σ5 H5 st5 q5 => ⟨F5, δ5, S5, st5, q5⟩, ld.rt, ld.nx, fun F5 δ5 S5 σ5 H5 st5 q5 => ⟨F5, δ5, S5, st5, q5⟩⟩ lk q4
    · exact q.elim
end
theorem fs_forH {Y : Cx} {W : WX} {tg iter : Expr} {body : List Stmt} {te : TE} {w : WE} {g : TG} {dg : DTg} {tb : TS} {wb : WS} {pos : Pos} {ws : List Nat} (hp : PassesOwn (model Y.prog Y.w) Y.A Y.env Y.xe) (hc : Y.calm = true) (hi : FE Y W iter te w) (hg : FG Y tg g dg ws) (hb : FSs Y W body tb wb) (hs : ∀ x, foldedSetIterable iter Y.env x = pure x := by intro _; rfl) :
    FS Y W (.For tg iter body [] pos) (tFor (iList Y.K te) g tb) (wForH w dg wb) := ⟨ps_for hp hc (pi_list hi.pe) hg.pg hb.ps hs, rs_forH hi.re hg.re hb.re⟩

/-! ### comprehensions over a list that may change -/
def lcH (dg : DTg) (wt : WT) (we : WE) (n : Nat) (ad : Addr) (Q : XQ) (δ0 : Env) (a : Addr) : Nat → Nat → Store → Prop
  | 0, _, _ => False
  | f + 1, i, S => ∃ (j : Nat) (ys : List X), S[j]? = some (a, Cell.lst ys) ∧ match ys[i]? with
    | some x => dg x δ0 S fun δ2 S2 => wt δ2 S2 (fun b S3 => if b = true then we δ2 S3 (fun y S4 => ∃ acc, S4[n]? = some (ad, .lst acc) ∧ acc.length < sizeLine ∧ lcH dg wt we n ad Q δ0 a f (i + 1) (S4.set n (ad, .lst (acc ++ [y])))) E0'
      else lcH dg wt we n ad Q δ0 a f (i + 1) S3) E0'
    | none => Q (.h ad) S
def wLcH (w : WE) (dg : DTg) (wt : WT) (we : WE) (vs : List Nat) : WE := fun δ S Q E => w δ S (fun x S1 => match x with
  | .h a => (∃ (j : Nat) (ys : List X), S1[j]? = some (a, Cell.lst ys)) ∧ ∀ ad, ∃ f, lcH dg wt we S1.length ad Q (wipeD δ vs) a f 0 (S1 ++ [(ad, .lst [])])
  | _ => False) E
section
variable {K : PySem.W.Frag} {W : WX}
theorem re_lcH {te0 : TE} {w : WE} {g : TG} {dg : DTg} {ws vs : List Nat} {tt : TT} {wt : WT} {te : TE} {we : WE} (hi : RE K W te0 w) (hg : RG K g dg ws) (hws : ∀ i ∈ ws, i ∈ vs) (ht : RT K W0 tt wt) (he : RE K W0 te we) : RE K W (tLc (iList K te0) g tt te vs) (wLcH w dg wt we vs) :=
  fun A F δ S σ H Q E Q' st lk hw k => hi A F δ S σ H _ E _ st lk hw fun F1 S1 H1 v0 x0 st1 e1 r q => by
    split at q
    · rename_i a
      obtain ⟨⟨j0, ys0, e0⟩, q⟩ := q
      have r : v0 = .ref a := r
      subst r
      obtain ⟨_, vs0, hp0, _⟩ := st1.cell _ (List.mem_of_getElem? e0)
      refine ⟨a, rfl, ⟨vs0, SqL.of hp0⟩, fun ad hD => ?_⟩
      obtain ⟨f, q⟩ := q ad
      have st2 : ST K A F1 δ (S1 ++ [(ad, .lst [])]) σ (upd H1 ad (.lst [])) := st1.made (c := .lst []) hD ⟨fresh_back st1.fr hD, [], upd_same, .nil⟩
      generalize hn : S1.length = n at q
      refine ⟨fun i m H => ∃ F S, ST K (A.at F1) F (wipeD δ vs) S (wipe σ vs) H ∧ lcH dg wt we n ad Q (wipeD δ vs) a m i S, ⟨f, F1, _, (st2.begin).wiped vs, q⟩, ?_⟩
      rintro i m H2 ⟨F2, S2, s2, q2⟩
      cases m with
      | zero => exact q2.elim
      | succ m =>
        obtain ⟨j, ys, e, q2⟩ := q2
        obtain ⟨_, us, hp, rr⟩ := s2.cell _ (List.mem_of_getElem? e)
        have hq : SqL K H2 a us := SqL.of hp
        cases hx : ys[i]? with
        | none =>
          rw [hx] at q2
          refine .inl ⟨⟨us, hq, ?_⟩, k F2 S2 H2 (.ref ad) (.h ad) ((s2.back (st1.wiped vs)).envOf st1 s2.a1) (e1.trans s2.a1) rfl q2⟩
          have := List.getElem?_eq_none_iff.mp hx
          rw [rr.len]; exact this
        | some x =>
          rw [hx] at q2
          obtain ⟨u, hu, ru⟩ := rr.get hx
          refine .inr ⟨⟨us, u, hq, hu⟩, fun H' => ∃ F S, ST K (A.at F1) F (wipeD δ vs) S (wipe σ vs) H' ∧ lcH dg wt we n ad Q (wipeD δ vs) a m (i + 1) S, fun H' z => ⟨m, Nat.lt_succ_self m, z⟩, fun v' H' hy => ?_⟩
          obtain ⟨rfl, hv⟩ := itl_at hq hy
          rw [hu] at hv
          cases hv
          refine hg _ F2 (wipeD δ vs) S2 (wipe σ vs) _ _ _ _ _ s2 ru q2 fun F4 δ4 S4 σ4 H4 s4 _ wr q4 => ⟨(wr vs hws).trans (wipe_wipe σ vs), ?_⟩
          refine ht _ F4 δ4 S4 σ4 H4 _ E0' _ s4 link0 q4 fun F5 S5 H5 b s5 _ q5 => ?_
          cases b with
          | true =>
            refine iteT (he _ F5 δ4 S5 σ4 H5 _ E0' _ s5 link0 q5 fun F6 S6 H6 y x s6 _ r6 ⟨acc, ha, hl, q6⟩ => ?_)
            obtain ⟨hf, us, hp, rr⟩ := s6.cell _ (List.mem_of_getElem? ha)
            refine ⟨us, hp, by rw [rr.len]; exact hl, F6, _, ?_, q6⟩
            exact (s6.write (c' := .lst (acc ++ [x])) ha hf ⟨hf, _, upd_same, rr.app (.cons r6 .nil)⟩).envOf (st1.wiped vs) s6.a1
          | false => exact iteF ⟨F5, S5, s5.envOf (st1.wiped vs) s5.a1, q5⟩
    · exact q.elim
end
end DP

set_option Elab.async false
set_option linter.all false
set_option maxRecDepth 100000
set_option maxHeartbeats 1000000
namespace DP
open PySem PySem.Spec PyProof.Rows L2
open Evl (Ex ex_l ex_t ex_rd fresh_back)

section
variable {Y : Cx} {W : WX} {elt tg iter kx vx : Expr} {ifs : List Expr} {scope : Scope} {pos spos : Pos} {g : TG} {dg : DTg} {ws : List Nat} {tt : TT} {wt : WT} {te te0 tk tv : TE} {we w wk wv : WE}
theorem f_lcH {K0 : PySem.W.Frag} [hKK : HasK Y K0] {own : List (Str × Nat)} (hc : Y.calm = true) (hN : Y.N.Nodup) (ok : blkC Y.N Y.env.scope scope own = true) (hi : FE Y W iter te0 w)
    (hg : ∀ (s : Shared) (H : Hp) (C : Addr) (cl : List (Str × Addr)) (fp : List Addr), FG (Y.blk s H scope (compEnvC scope cl C Y.env) fp) tg g dg ws) (ht : ∀ (s : Shared) (H : Hp) (C : Addr) (cl : List (Str × Addr)) (fp : List Addr), FTs (Y.blk s H scope (compEnvC scope cl C Y.env) fp) ifs tt wt)
    (he : ∀ (s : Shared) (H : Hp) (C : Addr) (cl : List (Str × Addr)) (fp : List Addr), FE (Y.blk s H scope (compEnvC scope cl C Y.env) fp) W0 elt te we) (hws : ∀ i ∈ ws, i ∈ own.map (·.2) := by decide) (hs : ∀ x, foldedSetIterable iter Y.env x = pure x := by intro _; rfl) :
    FE Y W (.ListComp elt [⟨tg, iter, ifs, 0⟩] scope pos) (tLc (iList K0 te0) g tt te (own.map (·.2))) (wLcH w dg wt we (own.map (·.2))) := by
  obtain ⟨rfl⟩ := hKK
  exact ⟨pe_lc hc hN (pi_list hi.pe) (blkOk_by ok) (fun s H C cl fp => (hg s H C cl fp).pg) (fun s H C cl fp => (ht s H C cl fp).pt) (fun s H C cl fp => (he s H C cl fp).pe) hs,
    re_lcH hi.re (hg ({} : Shared) (fun _ => none) 0 [] []).re hws (ht ({} : Shared) (fun _ => none) 0 [] []).re (he ({} : Shared) (fun _ => none) 0 [] []).re⟩

/-! ### list * int, is of bools -/
def dRep : DR2 := fun x y S Q => match y with
  | .d (.int k) => dL0 x S fun xs => -(2 ^ 63) ≤ k ∧ k < 2 ^ 63 ∧ xs.length * k.toNat ≤ sizeLine ∧ ∀ p, Q (.h p) (S ++ [(p, .lst (List.replicate k.toNat xs).flatten)])
  | _ => False
theorem reps_flat {K : PySem.W.Frag} {F : Hp} {vs : List V} {xs : List X} (r : RepXs K F vs xs) : ∀ n, RepXs K F (List.replicate n vs).flatten (List.replicate n xs).flatten
  | 0 => .nil
  | n + 1 => by
    rw [List.replicate_succ, List.replicate_succ, List.flatten_cons, List.flatten_cons]
    exact r.app (reps_flat r n)
theorem rr_rep {K : PySem.W.Frag} : RR K rRep dRep := fun A F δ S σ H v u x y Q Q' st rx ry h k => by
  unfold dRep at h
  split at h
  · rename_i n
    obtain ⟨p, vs, xs, rfl, hp, rr, h1, h2, h3, h⟩ := dL0.ok st rx h
    exact ⟨p, n, vs, rfl, repd_int ry, hp, h1, h2, by rw [rr.len]; exact h3, fun l hl => goL st k hl (reps_flat rr _) h⟩
  · exact h.elim
def dIsB (neg : Bool) : DR2 := fun x y S Q => match x, y with
  | .d (.bl a), .d (.bl b) => Q (.d (.bl (if neg then !decide (a = b) else decide (a = b)))) S
  | _, _ => False
theorem rr_isB {K : PySem.W.Frag} : RR K rIsB (dIsB false) := fun A F δ S σ H v u x y Q Q' st rx ry h k => by
  unfold dIsB at h
  split at h
  · exact ⟨_, _, repd_bl rx, repd_bl ry, go st k (x := .d _) (Rep.bl _) h⟩
  · exact h.elim
theorem rr_notB {K : PySem.W.Frag} : RR K rNotB (dIsB true) := fun A F δ S σ H v u x y Q Q' st rx ry h k => by
  unfold dIsB at h
  split at h
  · exact ⟨_, _, repd_bl rx, repd_bl ry, go st k (x := .d _) (Rep.bl _) h⟩
  · exact h.elim
end
section
variable {Y : Cx} {W : WX} {a b : Expr} {pos : Pos} {ta tb : TE} {wa wb : WE}
theorem f_rep (ha : FE Y W a ta wa) (hb : FE Y W b tb wb) : FE Y W (.BinOp a .Mult b pos) (tOp rRep ta tb) (wOp dRep wa wb) := f_op op_rep rr_rep ha hb
theorem f_isB (ha : FE Y W a ta wa) (hb : FE Y W b tb wb) : FE Y W (.Compare a [.Is] [b] pos) (tOp rIsB ta tb) (wOp (dIsB false) wa wb) := f_cmp op_isBl rr_isB ha hb
theorem f_notB (ha : FE Y W a ta wa) (hb : FE Y W b tb wb) : FE Y W (.Compare a [.IsNot] [b] pos) (tOp rNotB ta tb) (wOp (dIsB true) wa wb) := f_cmp op_notBl rr_notB ha hb
theorem ft_isB (ha : FE Y W a ta wa) (hb : FE Y W b tb wb) : FT Y W (.Compare a [.Is] [b] pos) (tTest (tOp rIsB ta tb)) (wTest (wOp (dIsB false) wa wb)) := ft_cmp op_isBl rr_isB ha hb
theorem ft_notB (ha : FE Y W a ta wa) (hb : FE Y W b tb wb) : FT Y W (.Compare a [.IsNot] [b] pos) (tTest (tOp rNotB ta tb)) (wTest (wOp (dIsB true) wa wb)) := ft_cmp op_notBl rr_notB ha hb
end
end DP

set_option Elab.async false
set_option linter.all false
set_option maxRecDepth 100000
set_option maxHeartbeats 1000000
namespace DP
open PySem PySem.Spec PyProof.Rows L2
open Evl (Ex ex_l ex_t ex_rd fresh_back)

/-! ### dict comprehensions over a list that may change -/
def dcH (dg : DTg) (wt : WT) (wk wv : WE) (n : Nat) (ad : Addr) (Q : XQ) (δ0 : Env) (a : Addr) : Nat → Nat → Store → Prop
  | 0, _, _ => False
  | f + 1, i, S => ∃ (j : Nat) (ys : List X), S[j]? = some (a, Cell.lst ys) ∧ match ys[i]? with
    | some x => dg x δ0 S fun δ2 S2 => wt δ2 S2 (fun b S3 => if b = true then wk δ2 S3 (fun y S4 => wv δ2 S4 (fun z S5 => match z with
        | .d d => ∃ kvs k, keyX y = some k ∧ S5[n]? = some (ad, .dct kvs) ∧ kvs.length < sizeLine ∧ dcH dg wt wk wv n ad Q δ0 a f (i + 1) (S5.set n (ad, .dct (putKD kvs k d)))
        | _ => False) E0') E0' else dcH dg wt wk wv n ad Q δ0 a f (i + 1) S3) E0'
    | none => Q (.h ad) S
def wDcH (w : WE) (dg : DTg) (wt : WT) (wk wv : WE) (vs : List Nat) : WE := fun δ S Q E => w δ S (fun x S1 => match x with
  | .h a => (∃ (j : Nat) (ys : List X), S1[j]? = some (a, Cell.lst ys)) ∧ ∀ ad, ∃ f, dcH dg wt wk wv S1.length ad Q (wipeD δ vs) a f 0 (S1 ++ [(ad, .dct [])])
  | _ => False) E
theorem re_dcH {K : PySem.W.Frag} {W : WX} {te0 : TE} {w : WE} {g : TG} {dg : DTg} {ws vs : List Nat} {tt : TT} {wt : WT} {tk tv : TE} {wk wv : WE} (hi : RE K W te0 w) (hg : RG K g dg ws) (hws : ∀ i ∈ ws, i ∈ vs) (ht : RT K W0 tt wt) (hk : RE K W0 tk wk) (hv : RE K W0 tv wv) :
    RE K W (tDc (iList K te0) g tt tk tv vs) (wDcH w dg wt wk wv vs) :=
  fun A F δ S σ H Q E Q' st lk hw k => hi A F δ S σ H _ E _ st lk hw fun F1 S1 H1 v0 x0 st1 e1 r q => by
    split at q
    · rename_i a
      obtain ⟨⟨j0, ys0, e0⟩, q⟩ := q
      have r : v0 = .ref a := r
      subst r
      obtain ⟨_, vs0, hp0, _⟩ := st1.cell _ (List.mem_of_getElem? e0)
      refine ⟨a, rfl, ⟨vs0, SqL.of hp0⟩, fun ad hD => ?_⟩
      obtain ⟨f, q⟩ := q ad
      have st2 : ST K A F1 δ (S1 ++ [(ad, .dct [])]) σ (upd H1 ad (.dK [])) := st1.made (c := .dct []) hD ⟨fresh_back st1.fr hD, [], upd_same, .nil⟩
      generalize hn : S1.length = n at q
      refine ⟨fun i m H => ∃ F S, ST K (A.at F1) F (wipeD δ vs) S (wipe σ vs) H ∧ dcH dg wt wk wv n ad Q (wipeD δ vs) a m i S, ⟨f, F1, _, (st2.begin).wiped vs, q⟩, ?_⟩
      rintro i m H2 ⟨F2, S2, s2, q2⟩
      cases m with
      | zero => exact q2.elim
      | succ m =>
        obtain ⟨j, ys, e, q2⟩ := q2
        obtain ⟨_, us, hp, rr⟩ := s2.cell _ (List.mem_of_getElem? e)
        have hq : SqL K H2 a us := SqL.of hp
        cases hx : ys[i]? with
        | none =>
          rw [hx] at q2
          refine .inl ⟨⟨us, hq, ?_⟩, k F2 S2 H2 (.ref ad) (.h ad) ((s2.back (st1.wiped vs)).envOf st1 s2.a1) (e1.trans s2.a1) rfl q2⟩
          have := List.getElem?_eq_none_iff.mp hx
          rw [rr.len]; exact this
        | some x =>
          rw [hx] at q2
          obtain ⟨u, hu, ru⟩ := rr.get hx
          refine .inr ⟨⟨us, u, hq, hu⟩, fun H' => ∃ F S, ST K (A.at F1) F (wipeD δ vs) S (wipe σ vs) H' ∧ dcH dg wt wk wv n ad Q (wipeD δ vs) a m (i + 1) S, fun H' z => ⟨m, Nat.lt_succ_self m, z⟩, fun v' H' hy => ?_⟩
          obtain ⟨rfl, hvv⟩ := itl_at hq hy
          rw [hu] at hvv
          cases hvv
          refine hg _ F2 (wipeD δ vs) S2 (wipe σ vs) _ _ _ _ _ s2 ru q2 fun F4 δ4 S4 σ4 H4 s4 _ wr q4 => ⟨(wr vs hws).trans (wipe_wipe σ vs), ?_⟩
          refine ht _ F4 δ4 S4 σ4 H4 _ E0' _ s4 link0 q4 fun F5 S5 H5 b s5 _ q5 => ?_
          cases b with
          | true =>
            refine iteT (hk _ F5 δ4 S5 σ4 H5 _ E0' _ s5 link0 q5 fun F6 S6 H6 yv y s6 _ ry q6 => hv _ F6 δ4 S6 σ4 H6 _ E0' _ s6 link0 q6 fun F7 S7 H7 zv z s7 e7 rz q7 => ?_)
            split at q7
            · rename_i d
              obtain ⟨kvs, kk, hkk, he, hl, q7⟩ := q7
              obtain ⟨hf, us, hp, rr⟩ := s7.cell _ (List.mem_of_getElem? he)
              refine ⟨us, kk, keyX.ok ry hkk, hp, by rw [rr.len]; exact hl, F7, _, ?_, q7⟩
              exact (s7.write (c' := .dct (putKD kvs kk d)) he hf ⟨hf, _, upd_same, rr.put rz⟩).envOf (st1.wiped vs) s7.a1
            · exact q7.elim
          | false => exact iteF ⟨F5, S5, s5.envOf (st1.wiped vs) s5.a1, q5⟩
    · exact q.elim
theorem fs_setDcH {Y : Cx} {W : WX} {kx vx tg iter : Expr} {ifs : List Expr} {scope : Scope} {pos spos : Pos} {te0 tk tv : TE} {w wk wv : WE} {g : TG} {dg : DTg} {ws : List Nat} {tt : TT} {wt : WT} {i : Nat} {y : Str} {py : Pos} {own : List (Str × Nat)} (hc : Y.calm = true) (hN : Y.N.Nodup) (ok : blkC Y.N Y.env.scope scope own = true) (hi : FE Y W iter te0 w)
    (hg : ∀ (s : Shared) (H : Hp) (C : Addr) (cl : List (Str × Addr)) (fp : List Addr), FG (Y.blk s H scope (compEnvC scope cl C Y.env) fp) tg g dg ws) (ht : ∀ (s : Shared) (H : Hp) (C : Addr) (cl : List (Str × Addr)) (fp : List Addr), FTs (Y.blk s H scope (compEnvC scope cl C Y.env) fp) ifs tt wt)
    (hk : ∀ (s : Shared) (H : Hp) (C : Addr) (cl : List (Str × Addr)) (fp : List Addr), FE (Y.blk s H scope (compEnvC scope cl C Y.env) fp) W0 kx tk wk)
    (hv : ∀ (s : Shared) (H : Hp) (C : Addr) (cl : List (Str × Addr)) (fp : List Addr), FE (Y.blk s H scope (compEnvC scope cl C Y.env) fp) W0 vx tv wv)
    (hy : Y.N[i]? = some y := by rfl) (hyl : Y.env.scope.names.lookup y = some .local := by rfl)
    (hsw : swapsWith (.DictComp kx vx [⟨tg, iter, ifs, 0⟩] scope pos) (some (.Name y py)) spos.line Y.env = pure true := by exact sw_trueD rfl rfl rfl (by decide +kernel))
    (hws : ∀ i ∈ ws, i ∈ own.map (·.2) := by decide) (hs : ∀ x, foldedSetIterable iter Y.env x = pure x := by intro _; rfl) :
    FS Y W (.Assign [.Name y py] (.DictComp kx vx [⟨tg, iter, ifs, 0⟩] scope pos) spos) (tAsg (tDc (iList Y.K te0) g tt tk tv (own.map (·.2))) (gName i)) (wAsg (wDcH w dg wt wk wv (own.map (·.2))) (dName i)) :=
  ⟨ps_setDc hc hN hy hyl hsw (pi_list hi.pe) (blkOk_by ok) (fun s H C cl fp => (hg s H C cl fp).pg) (fun s H C cl fp => (ht s H C cl fp).pt) (fun s H C cl fp => (hk s H C cl fp).pe) (fun s H C cl fp => (hv s H C cl fp).pe) hs,
    rs_asg (re_dcH hi.re (hg ({} : Shared) (fun _ => none) 0 [] []).re hws (ht ({} : Shared) (fun _ => none) 0 [] []).re (hk ({} : Shared) (fun _ => none) 0 [] []).re (hv ({} : Shared) (fun _ => none) 0 [] []).re) rg_name⟩
end DP

set_option Elab.async false
set_option linter.all false
set_option maxRecDepth 100000
set_option maxHeartbeats 1000000
namespace DP
open PySem PySem.Spec PyProof.Rows L2
open Evl (Ex ex_l ex_t ex_rd fresh_back)

/-! ### the readings, step by step -/
section
variable {δ : Env} {S : Store} {Q : XQ} {E : XR} {Δ : DEnds} {QT : Bool → Store → Prop} {QA : List X → Store → Prop}
@[simp] theorem x_var {i : Nat} : wVar i δ S Q E = (match δ[i]? with | some (some x) => Q x S | _ => False) := rfl
@[simp] theorem x_c {d : D} : wC d δ S Q E = Q (.d d) S := rfl
@[simp] theorem x_op {r : DR2} {a b : WE} : wOp r a b δ S Q E = a δ S (fun x S1 => b δ S1 (fun y S2 => r x y S2 Q) E) E := rfl
@[simp] theorem x_un {r : DR1} {a : WE} : wUn r a δ S Q E = a δ S (fun x S1 => r x S1 Q) E := rfl
@[simp] theorem x_dI {C : Int → Int → Prop} {g : Int → Int → D} {i j : Int} : dI C g (.d (.int i)) (.d (.int j)) S Q = (C i j ∧ Q (.d (g i j)) S) := rfl
@[simp] theorem x_neg {i : Int} : dNegI (.d (.int i)) S Q = Q (.d (.int (-i))) S := rfl
@[simp] theorem x_test {w : WE} : wTest w δ S QT E = w δ S (fun x S1 => match x with | .d (.bl b) => QT b S1 | _ => False) E := rfl
@[simp] theorem x_and {a b : WT} : wAnd a b δ S QT E = a δ S (fun c S1 => if c = true then b δ S1 QT E else QT false S1) E := rfl
@[simp] theorem x_or {a b : WT} : wOr a b δ S QT E = a δ S (fun c S1 => if c = true then QT true S1 else b δ S1 QT E) E := rfl
@[simp] theorem x_not {a : WT} : wNot a δ S QT E = a δ S (fun c S1 => QT (!c) S1) E := rfl
@[simp] theorem x_andV {a b : WE} : wAndV a b δ S Q E = a δ S (fun x S1 => match x with | .d (.bl c) => if c = true then b δ S1 Q E else Q (.d (.bl false)) S1 | _ => False) E := rfl
@[simp] theorem x_orV {a b : WE} : wOrV a b δ S Q E = a δ S (fun x S1 => match x with | .d (.bl c) => if c = true then Q (.d (.bl true)) S1 else b δ S1 Q E | _ => False) E := rfl
@[simp] theorem x_notV {a : WE} : wNotV a δ S Q E = a δ S (fun x S1 => match x with | .d (.bl c) => Q (.d (.bl (!c))) S1 | _ => False) E := rfl
@[simp] theorem x_if {t : WT} {a b : WE} : wIf t a b δ S Q E = t δ S (fun c S1 => if c = true then a δ S1 Q E else b δ S1 Q E) E := rfl
@[simp] theorem x_chain {r r' : DR2} {a b c : WE} : wChain r r' a b c δ S Q E = a δ S (fun x S1 => b δ S1 (fun y S2 => r x y S2 fun z S3 => match z with
  | .d (.bl k) => if k = true then c δ S3 (fun u S4 => r' y u S4 Q) E else Q (.d (.bl false)) S3
  | _ => False) E) E := rfl
@[simp] theorem x_nil : wNil δ S QA E = QA [] S := rfl
@[simp] theorem x_cons {w : WE} {r : WA} : wCons w r δ S QA E = w δ S (fun x S1 => r δ S1 (fun xs S2 => QA (x :: xs) S2) E) E := rfl
@[simp] theorem x_lst {r : WA} : wLst r δ S Q E = r δ S (fun xs S1 => xs.length ≤ sizeLine ∧ ∀ p, Q (.h p) (S1 ++ [(p, .lst xs)])) E := rfl
@[simp] theorem x_tup {r : WA} : wTup r δ S Q E = r δ S (fun xs S1 => xs.length ≤ sizeLine ∧ ∃ ds, xdata xs = some ds ∧ Q (.d (.tup ds)) S1) E := rfl
@[simp] theorem x_xdn : xdata [] = some [] := rfl
@[simp] theorem x_xdc {d : D} {r : List X} : xdata (.d d :: r) = (xdata r).map (d :: ·) := rfl
@[simp] theorem x_next : wNext Δ δ S E = Δ.nx δ S := rfl
@[simp] theorem x_seq {a b : WS} : wSeq a b Δ δ S E = a { Δ with nx := fun δ1 S1 => b Δ δ1 S1 E } δ S E := rfl
@[simp] theorem x_drop {w : WE} : wDrop w Δ δ S E = w δ S (fun _ S1 => Δ.nx δ S1) E := rfl
@[simp] theorem x_ret {w : WE} : wRet w Δ δ S E = w δ S Δ.rt E := rfl
@[simp] theorem x_retN : wRetN Δ δ S E = Δ.rt (.d .non) S := rfl
@[simp] theorem x_ifS {t : WT} {a b : WS} : wIfS t a b Δ δ S E = t δ S (fun c S1 => if c = true then a Δ δ S1 E else b Δ δ S1 E) E := rfl
@[simp] theorem x_break : wBreak Δ δ S E = Δ.bk δ S := rfl
@[simp] theorem x_cont : wCont Δ δ S E = Δ.ct δ S := rfl
@[simp] theorem x_asg {w : WE} {dg : DTg} : wAsg w dg Δ δ S E = w δ S (fun x S1 => dg x δ S1 Δ.nx) E := rfl
@[simp] theorem x_par {i j : Nat} {r : WA} : wPar i j r Δ δ S E = r δ S (fun xs S1 => match xs with | [x, y] => Δ.nx ((δ.set i (some x)).set j (some y)) S1 | _ => False) E := rfl
@[simp] theorem x_par3 {i j l : Nat} {r : WA} : wPar3 i j l r Δ δ S E = r δ S (fun xs S1 => match xs with | [x, y, z] => Δ.nx (((δ.set i (some x)).set j (some y)).set l (some z)) S1 | _ => False) E := rfl
@[simp] theorem x_asgT {n : Nat} {r : WA} {dgs : DTgs} : wAsgT n r dgs Δ δ S E = r δ S (fun xs S1 => xs.length ≤ sizeLine ∧ xs.length = n ∧ dgs xs δ S1 Δ.nx) E := rfl
@[simp] theorem x_name {i : Nat} {x : X} {q : Env → Store → Prop} : dName i x δ S q = q (δ.set i (some x)) S := rfl
@[simp] theorem x_dnil {q : Env → Store → Prop} : dNil [] δ S q = q δ S := rfl
@[simp] theorem x_dcons {g : DTg} {r : DTgs} {x : X} {xs : List X} {q : Env → Store → Prop} : dCons g r (x :: xs) δ S q = g x δ S fun δ1 S1 => r xs δ1 S1 q := rfl
@[simp] theorem x_dtup {n : Nat} {r : DTgs} {ds : List D} {q : Env → Store → Prop} : dTup n r (.d (.tup ds)) δ S q = (ds.length = n ∧ r (ds.map X.d) δ S q) := rfl
@[simp] theorem x_sub {w o i : WE} {d : DSet} : wSub w o i d Δ δ S E = w δ S (fun x S1 => o δ S1 (fun o S2 => i δ S2 (fun i S3 => d o i x S3 (Δ.nx δ)) E) E) E := rfl
@[simp] theorem x_freeze {i : Nat} {b : WS} : wFreeze i b Δ δ S E = (match δ[i]? with
  | some (some (.h a)) => ∃ (j : Nat) (c : Cell) (d : D), S[j]? = some (a, c) ∧ c.data = some d ∧ b Δ (δ.set i (some (.d d))) (S.set j (a, .dead)) E
  | _ => b Δ δ S E) := rfl
@[simp] theorem x_freezeD {i : Nat} {b : WS} : wFreezeD i b Δ δ S E = (match δ[i]? with
  | some (some (.h a)) => ∃ (j : Nat) (kvs : List (Key × D)), S[j]? = some (a, .dct kvs) ∧ b Δ (δ.set i (some (.d (.dct kvs)))) (S.set j (a, .dead)) E
  | _ => False) := rfl
@[simp] theorem x_forget {n : Nat} {b : WS} : wForget n b Δ δ S E = b Δ δ (S.take n) E := rfl
@[simp] theorem x_sfld {C : Addr} {f : Str} {wv wo : WE} : wSFld C f wv wo Δ δ S E = wv δ S (fun y S1 => wo δ S1 (fun o S2 => match o with
  | .h a => ∃ (i : Nat) (fs : List (Str × X)), S2[i]? = some (a, .obj C fs) ∧ fs.length < 1000 ∧ Δ.nx δ (S2.set i (a, .obj C (putX f y fs)))
  | _ => False) E) E := rfl
@[simp] theorem x_dropC {j : Nat} {b : WS} : wDropC j b Δ δ S E = b Δ δ (S.eraseIdx j) E := rfl
@[simp] theorem x_cb {d : DRC} {wa : WA} : wCB d wa δ S Q E = wa δ S (fun xs S1 => d xs S1 Q) E := rfl
@[simp] theorem x_abs {i : Int} : dAbs [.d (.int i)] S Q = Q (.d (.int (if i < 0 then -i else i))) S := rfl
@[simp] theorem x_int {i : Int} : dInt [.d (.int i)] S Q = Q (.d (.int i)) S := rfl
@[simp] theorem x_seqT {ds : List D} {k : List X → Prop} : dSeq (.d (.tup ds)) S k = k (ds.map X.d) := rfl
@[simp] theorem x_seqL {ds : List D} {k : List X → Prop} : dSeq (.d (.lst ds)) S k = k (ds.map X.d) := rfl
@[simp] theorem x_seqS {ds : List D} {k : List X → Prop} : dSeq (.d (.scr ds)) S k = k (ds.map X.d) := rfl
@[simp] theorem x_lenT {ds : List D} : dLen [.d (.tup ds)] S Q = Q (.d (.int ds.length)) S := by show Q (.d (.int (ds.map X.d).length)) S = _; rw [List.length_map]
@[simp] theorem x_lenL {ds : List D} : dLen [.d (.lst ds)] S Q = Q (.d (.int ds.length)) S := by show Q (.d (.int (ds.map X.d).length)) S = _; rw [List.length_map]
@[simp] theorem x_lenS {ds : List D} : dLen [.d (.scr ds)] S Q = Q (.d (.int ds.length)) S := by show Q (.d (.int (ds.map X.d).length)) S = _; rw [List.length_map]
@[simp] theorem x_lenH {a : Addr} : dLen [.h a] S Q = ∃ (i : Nat) (xs : List X), S[i]? = some (a, .lst xs) ∧ Q (.d (.int xs.length)) S := rfl
@[simp] theorem x_listT {ds : List D} : dListOf [.d (.tup ds)] S Q = ∀ p, Q (.h p) (S ++ [(p, .lst (ds.map X.d))]) := rfl
@[simp] theorem x_listL {ds : List D} : dListOf [.d (.lst ds)] S Q = ∀ p, Q (.h p) (S ++ [(p, .lst (ds.map X.d))]) := rfl
@[simp] theorem x_listS {ds : List D} : dListOf [.d (.scr ds)] S Q = ∀ p, Q (.h p) (S ++ [(p, .lst (ds.map X.d))]) := rfl
@[simp] theorem x_tupT {ds : List D} : dTupleOf [.d (.tup ds)] S Q = Q (.d (.tup ds)) S := rfl
theorem xdata_map : ∀ ds : List D, xdata (ds.map X.d) = some ds
  | [] => rfl
  | d :: ds => by simp [xdata_map ds]
@[simp] theorem x_tupL {ds : List D} : dTupleOf [.d (.lst ds)] S Q = Q (.d (.tup ds)) S := by
  show (∃ es, xdata (ds.map X.d) = some es ∧ Q (.d (.tup es)) S) = _
  rw [xdata_map]; simp
@[simp] theorem x_ixT {ds : List D} {i : Int} : dIx (.d (.tup ds)) (.d (.int i)) S Q = ∃ e, atI (ds.map X.d) i = some e ∧ Q e S := rfl
@[simp] theorem x_ixL {ds : List D} {i : Int} : dIx (.d (.lst ds)) (.d (.int i)) S Q = ∃ e, atI (ds.map X.d) i = some e ∧ Q e S := rfl
@[simp] theorem x_ixS {ds : List D} {i : Int} : dIx (.d (.scr ds)) (.d (.int i)) S Q = ∃ e, atI (ds.map X.d) i = some e ∧ Q e S := rfl
@[simp] theorem x_ixH {a : Addr} {i : Int} : dIx (.h a) (.d (.int i)) S Q = ∃ (j : Nat) (xs : List X), S[j]? = some (a, .lst xs) ∧ ∃ e, atI xs i = some e ∧ Q e S := rfl
@[simp] theorem x_yes {QT : Bool → Store → Prop} : wYes δ S QT E = QT true S := rfl
def fzQ (Q : XQ) : XQ := fun x S1 => match x with
  | .d d => Q (.d d) S1
  | .h p => ∃ S0 c d, S1 = S0 ++ [(p, c)] ∧ c.data = some d ∧ Q (.d d) S0
  | .e _ _ _ _ => False
def fzDQ (Q : XQ) : XQ := fun x S1 => match x with
  | .h p => ∃ S0 kvs, S1 = S0 ++ [(p, .dct kvs)] ∧ Q (.d (.dct kvs)) S0
  | _ => False
@[simp] theorem x_fz {w : WE} : wFz w δ S Q E = w δ S (fzQ Q) E := rfl
@[simp] theorem x_fzD {w : WE} : wFzD w δ S Q E = w δ S (fzDQ Q) E := rfl
@[simp] theorem x_fzd {d : D} : fzQ Q (.d d) S = Q (.d d) S := rfl
@[simp] theorem x_fzh {p : Addr} {c : Cell} : fzQ Q (.h p) (S ++ [(p, c)]) = ∃ d, c.data = some d ∧ Q (.d d) S := by
  refine propext ⟨fun ⟨S0, c', d, e, h1, h2⟩ => ?_, fun ⟨d, h1, h2⟩ => ⟨S, c, d, rfl, h1, h2⟩⟩
  obtain ⟨e1, e2⟩ := List.append_inj' e rfl
  subst e1
  cases e2
  exact ⟨d, h1, h2⟩
@[simp] theorem x_fzh0 {p : Addr} {c : Cell} : fzQ Q (.h p) [(p, c)] = ∃ d, c.data = some d ∧ Q (.d d) [] := x_fzh (S := [])
@[simp] theorem x_dataL {xs : List X} : (Cell.lst xs).data = (xdata xs).map D.lst := rfl
@[simp] theorem x_call {ds : DSp} {idx : List Nat} {dxs : List X} {wa : WA} : wCall ds idx dxs wa δ S Q E = wa δ S (fun xs S1 => callD ds idx (xs ++ dxs) S1 Q noE) E := rfl
@[simp] theorem x_meth {C : Addr} {m : Str} {ds : DSp} {idx : List Nat} {dxs : List X} {wo : WE} {wa : WA} : wMeth C m ds idx dxs wo wa δ S Q E = wo δ S (fun o S1 => objAt o S1 C m ∧ wa δ S1 (fun xs S2 => callD ds idx (o :: (xs ++ dxs)) S2 Q noE) E) E := rfl
@[simp] theorem x_methN {C : Addr} {m : Str} {n l : Nat} {ds : DSp} {idx : List Nat} {wo : WE} {wa wk : WA} : wMethN C m n l ds idx wo wa wk δ S Q E = wo δ S (fun o S1 => objAt o S1 C m ∧ wa δ S1 (fun xs S2 => wk δ S2 (fun zs S3 => xs.length + 1 = n ∧ zs.length = l ∧ callD ds idx (o :: (xs ++ zs)) S3 Q noE) E) E) E := rfl
@[simp] theorem x_make {C : Addr} {ds : DSp} {dxs : List X} {wa : WA} : wMake C ds dxs wa δ S Q E = wa δ S (fun xs S1 => ∀ x, callD ds [S1.length] (.h x :: (xs ++ dxs)) (S1 ++ [(x, .obj C [])]) (fun r S' => r = .d .non ∧ Q (.h x) S') noE) E := rfl
@[simp] theorem x_bm {d : DRM} {wo : WE} {wa : WA} : wBM d wo wa δ S Q E = wo δ S (fun o S1 => match o with
  | .h a => (∃ (i : Nat) (ys : List X), S1[i]? = some (a, .lst ys)) ∧ wa δ S1 (fun xs S2 => d a xs S2 Q) E
  | _ => False) E := rfl
@[simp] theorem x_iseq {w : WE} {R : List X → Store → Prop} : wISeq w δ S R E = w δ S (fun x S1 => match x with
  | .d d => (match seqD d with | some (_, ds) => R (ds.map X.d) S1 | none => False)
  | _ => False) E := rfl
end
section
variable {S : Store} {Q : XQ}
@[simp] theorem x_setL {a : Addr} {n : Int} {x : X} {q : Store → Prop} : dSetL (.h a) (.d (.int n)) x S q = ∃ (i : Nat) (ys : List X), S[i]? = some (a, .lst ys) ∧ ∃ j, ixN ys.length n = some j ∧ q (S.set i (a, .lst (ys.set j x))) := rfl
@[simp] theorem x_pop {a : Addr} : dPop a [] S Q = ∃ (i : Nat) (ys : List X), S[i]? = some (a, .lst ys) ∧ ∃ y, ys[ys.length - 1]? = some y ∧ Q y (S.set i (a, .lst ys.dropLast)) := rfl
@[simp] theorem x_append {a : Addr} {y : X} : dAppend a [y] S Q = ∃ (i : Nat) (ys : List X), S[i]? = some (a, .lst ys) ∧ ys.length < sizeLine ∧ Q (.d .non) (S.set i (a, .lst (ys ++ [y]))) := rfl
@[simp] theorem x_popAt {a : Addr} {n : Int} : dPopAt a [.d (.int n)] S Q = ∃ (i : Nat) (ys : List X), S[i]? = some (a, .lst ys) ∧ (-(2 ^ 63) ≤ n ∧ n < 2 ^ 63 ∧ ∃ k y, seqIndex? n ys.length = some k ∧ ys[k]? = some y ∧ Q y (S.set i (a, .lst (ys.eraseIdx k)))) := rfl
@[simp] theorem x_extend {a : Addr} {ds : List D} : dExtend a [.d (.lst ds)] S Q = ∃ (i : Nat) (ys : List X), S[i]? = some (a, .lst ys) ∧ (ys.length + ds.length ≤ sizeLine ∧ Q (.d .non) (S.set i (a, .lst (ys ++ ds.map X.d)))) := rfl
end
@[simp] theorem x_seqD1 {ds : List D} : seqD (.tup ds) = some (true, ds) := rfl
@[simp] theorem x_seqD2 {ds : List D} : seqD (.lst ds) = some (false, ds) := rfl
@[simp] theorem x_seqD3 {ds : List D} : seqD (.scr ds) = some (false, ds) := rfl
@[simp] theorem x_start0 : startD [] [] = [] := rfl
@[simp] theorem x_start1 {n : Str} {N : List Str} : startD (n :: N) [] = none :: startD N [] := rfl
@[simp] theorem x_start2 {n : Str} {N : List Str} {x : X} {xs : List X} : startD (n :: N) (x :: xs) = some x :: startD N xs := by
  unfold startD
  simp
@[simp] theorem x_wipe0 {δ : Env} : wipeD δ [] = δ := rfl
@[simp] theorem x_wipe1 {δ : Env} {v : Nat} {vs : List Nat} : wipeD δ (v :: vs) = (wipeD δ vs).set v none := rfl
end DP

set_option Elab.async false
set_option linter.all false
set_option maxRecDepth 100000
set_option maxHeartbeats 1000000
namespace DP
open PySem PySem.Spec PyProof.Rows L2
open Evl (Ex ex_l ex_t ex_rd fresh_back)

/-! ### lists of numbers and of pairs, as data -/
def ID (xs : List Int) : List D := xs.map D.int
def IX (xs : List Int) : List X := xs.map fun n => X.d (.int n)
def PD (ts : List (Int × Int)) : List D := ts.map fun p => .tup [.int p.1, .int p.2]
def PP (ts : List (Int × Int)) : List PyData := ts.map fun p => .tuple [.int p.1, .int p.2]
theorem IX_eq (xs : List Int) : (ID xs).map X.d = IX xs := by simp [ID, IX]
@[simp] theorem IX_eqm (xs : List Int) : (ID xs).map X.d = IX xs := IX_eq xs
theorem xdata_IX (xs : List Int) : xdata (IX xs) = some (ID xs) := by rw [← IX_eq]; exact xdata_map _
theorem pys_ID : ∀ xs : List Int, pys (ID xs) = some (xs.map PyData.int)
  | [] => rfl
  | x :: xs => by
    have h := pys_ID xs
    unfold ID at h ⊢
    rw [List.map_cons, List.map_cons]
    unfold pys
    rw [h]; rfl
theorem pys_PD : ∀ ts : List (Int × Int), pys (PD ts) = some (PP ts)
  | [] => rfl
  | x :: xs => by
    have h := pys_PD xs
    unfold PD PP at h ⊢
    rw [List.map_cons, List.map_cons]
    unfold pys
    rw [h]; rfl
theorem lay_ints : ∀ xs : List Int, PyData.canLayAll0 (xs.map PyData.int) = true
  | [] => rfl
  | x :: xs => by rw [List.map_cons]; unfold PyData.canLayAll0; rw [lay_ints xs]; rfl
theorem dep_ints : ∀ xs : List Int, PyData.depthAll (xs.map PyData.int) = 0
  | [] => rfl
  | x :: xs => by rw [List.map_cons]; unfold PyData.depthAll; rw [dep_ints xs]; rfl
theorem lay_prs : ∀ xs : List (Int × Int), PyData.canLayAll0 (PP xs) = true
  | [] => rfl
  | x :: xs => by
    have h := lay_prs xs
    unfold PP at h ⊢
    rw [List.map_cons]; unfold PyData.canLayAll0; rw [h]; rfl
theorem dep_prs : ∀ xs : List (Int × Int), PyData.depthAll (PP xs) ≤ 1
  | [] => Nat.zero_le _
  | x :: xs => by
    have h := dep_prs xs
    unfold PP at h ⊢
    rw [List.map_cons]; unfold PyData.depthAll
    exact Nat.max_le.mpr ⟨Nat.le_refl 1, h⟩
theorem shaped_int (i : Int) : SeqAt.shaped (.int i) = true := rfl
theorem shaped_pr (i j : Int) : SeqAt.shaped (.tuple [.int i, .int j]) = true := rfl
theorem shaped_il (xs : List Int) : SeqAt.shaped (.list (xs.map .int)) = true := by
  unfold SeqAt.shaped PyData.canLay0 PyData.depth
  rw [lay_ints, dep_ints]; rfl
theorem shaped_it (xs : List Int) : SeqAt.shaped (.tuple (xs.map .int)) = true := by
  unfold SeqAt.shaped PyData.canLay0 PyData.depth
  rw [lay_ints, dep_ints]; rfl
theorem shaped_pl (xs : List (Int × Int)) : SeqAt.shaped (.list (PP xs)) = true := by
  unfold SeqAt.shaped PyData.canLay0 PyData.depth
  have := dep_prs xs
  rw [lay_prs, Bool.true_and]; exact decide_eq_true (by omega)
theorem shaped_pt (xs : List (Int × Int)) : SeqAt.shaped (.tuple (PP xs)) = true := by
  unfold SeqAt.shaped PyData.canLay0 PyData.depth
  have := dep_prs xs
  rw [lay_prs, Bool.true_and]; exact decide_eq_true (by omega)
theorem eqv_int (i j : Int) : PyData.eqv (.int i) (.int j) = decide (i = j) := by
  unfold PyData.eqv
  by_cases h : i = j
  · subst h; simp
  · rw [decide_eq_false h]; simpa using h
theorem eqv_ints : ∀ xs ys : List Int, PyData.eqvAll (xs.map .int) (ys.map .int) = decide (xs = ys)
  | [], [] => rfl
  | [], _ :: _ => rfl
  | _ :: _, [] => rfl
  | x :: xs, y :: ys => by
    rw [List.map_cons, List.map_cons]; unfold PyData.eqvAll
    rw [eqv_int, eqv_ints xs ys, ← Bool.decide_and]
    exact decide_eq_decide.mpr (by simp)
theorem eqv_pr (p q : Int × Int) : PyData.eqv (.tuple [.int p.1, .int p.2]) (.tuple [.int q.1, .int q.2]) = decide (p = q) := by
  have := eqv_ints [p.1, p.2] [q.1, q.2]
  show PyData.eqvAll _ _ = _
  refine this.trans (decide_eq_decide.mpr ?_)
  rw [Prod.ext_iff]; simp
theorem eqv_prs : ∀ xs ys : List (Int × Int), PyData.eqvAll (PP xs) (PP ys) = decide (xs = ys)
  | [], [] => rfl
  | [], _ :: _ => rfl
  | _ :: _, [] => rfl
  | x :: xs, y :: ys => by
    have h := eqv_prs xs ys
    unfold PP at h ⊢
    rw [List.map_cons, List.map_cons]; unfold PyData.eqvAll
    rw [eqv_pr, h, ← Bool.decide_and]
    exact decide_eq_decide.mpr (by simp)
section
variable {S : Store} {Q : XQ}
theorem q_int {i j : Int} (q : Q (.d (.bl (decide (i = j)))) S) : dEq (.d (.int i)) (.d (.int j)) S Q := ⟨_, rfl, _, rfl, rfl, rfl, by rw [eqv_int]; exact q⟩
theorem qn_int {i j : Int} (q : Q (.d (.bl (!decide (i = j)))) S) : dNe (.d (.int i)) (.d (.int j)) S Q := ⟨_, rfl, _, rfl, rfl, rfl, by rw [eqv_int]; exact q⟩
@[simp] theorem x_eqI {i j : Int} : dEq (.d (.int i)) (.d (.int j)) S Q = Q (.d (.bl (decide (i = j)))) S := by
  refine propext ⟨fun h => ?_, q_int⟩
  obtain ⟨_, e1, _, e2, _, _, q⟩ := h
  cases e1; cases e2
  rw [eqv_int] at q; exact q
@[simp] theorem x_neI {i j : Int} : dNe (.d (.int i)) (.d (.int j)) S Q = Q (.d (.bl (!decide (i = j)))) S := by
  refine propext ⟨fun h => ?_, qn_int⟩
  obtain ⟨_, e1, _, e2, _, _, q⟩ := h
  cases e1; cases e2
  rw [eqv_int] at q; exact q
theorem py_it (xs : List Int) : D.py (.tup (ID xs)) = some (.tuple (xs.map .int)) := by unfold D.py; rw [pys_ID]; rfl
theorem py_il (xs : List Int) : D.py (.lst (ID xs)) = some (.list (xs.map .int)) := by unfold D.py; rw [pys_ID]; rfl
theorem py_pt (xs : List (Int × Int)) : D.py (.tup (PD xs)) = some (.tuple (PP xs)) := by unfold D.py; rw [pys_PD]; rfl
theorem py_pl (xs : List (Int × Int)) : D.py (.lst (PD xs)) = some (.list (PP xs)) := by unfold D.py; rw [pys_PD]; rfl
theorem q_it {xs ys : List Int} (q : Q (.d (.bl (decide (xs = ys)))) S) : dEq (.d (.tup (ID xs))) (.d (.tup (ID ys))) S Q := ⟨_, py_it xs, _, py_it ys, shaped_it _, shaped_it _, by unfold PyData.eqv; rw [eqv_ints]; exact q⟩
theorem qn_it {xs ys : List Int} (q : Q (.d (.bl (!decide (xs = ys)))) S) : dNe (.d (.tup (ID xs))) (.d (.tup (ID ys))) S Q := ⟨_, py_it xs, _, py_it ys, shaped_it _, shaped_it _, by unfold PyData.eqv; rw [eqv_ints]; exact q⟩
theorem q_pt {xs ys : List (Int × Int)} (q : Q (.d (.bl (decide (xs = ys)))) S) : dEq (.d (.tup (PD xs))) (.d (.tup (PD ys))) S Q := ⟨_, py_pt xs, _, py_pt ys, shaped_pt _, shaped_pt _, by unfold PyData.eqv; rw [eqv_prs]; exact q⟩
/-- a list that changes against the empty one -/
theorem qn_hnil {a : Addr} {i : Nat} {xs : List Int} (h : S[i]? = some (a, .lst (IX xs))) (q : Q (.d (.bl (!decide (xs = [])))) S) : dNe (.h a) (.d (.lst [])) S Q :=
  ⟨i, IX xs, ID xs, _, h, xdata_IX xs, pys_ID xs, _, rfl, shaped_il xs, rfl, by have := eqv_ints xs []; unfold PyData.eqv; rw [show ([] : List PyData) = ([] : List Int).map .int from rfl, this]; exact q⟩
/-- a pair in a list of pairs -/
theorem q_inP {i j : Int} {ts : List (Int × Int)} (q : Q (.d (.bl (decide ((i, j) ∈ ts)))) S) : dInL (.d (.tup [.int i, .int j])) (.d (.lst (PD ts))) S Q :=
  ⟨.tuple [.int i, .int j], rfl, _, py_pl ts, rfl, shaped_pl ts, by
    have e : ((PP ts).any fun z => PyData.eqv z (.tuple [.int i, .int j])) = decide ((i, j) ∈ ts) := by
      unfold PP
      rw [List.any_map]
      have : (fun z => PyData.eqv z (.tuple [.int i, .int j])) ∘ (fun p : Int × Int => PyData.tuple [.int p.1, .int p.2]) = fun p => decide (p = (i, j)) := by
        funext p
        exact eqv_pr p (i, j)
      rw [this]
      clear q this
      induction ts with
      | nil => rfl
      | cons t ts ih =>
        rw [List.any_cons, ih, ← Bool.decide_or]
        exact decide_eq_decide.mpr (by rw [List.mem_cons]; exact or_congr eq_comm Iff.rfl)
    rw [e]; exact q⟩
end

/-! ### numbers in flat sequences -/
theorem flat_ID (xs : List Int) : (ID xs).all flatD = true := by
  unfold ID; rw [List.all_map]; exact List.all_eq_true.mpr fun _ _ => rfl
theorem any_ID (xs : List Int) (i : Int) : ((ID xs).any fun b => eqD b (.int i)) = decide (i ∈ xs) := by
  unfold ID
  rw [List.any_map]
  induction xs with
  | nil => rfl
  | cons x xs ih =>
    rw [List.any_cons, ih]
    show (eqD (.int x) (.int i) || _) = _
    have : eqD (.int x) (.int i) = decide (i = x) := by
      unfold eqD
      by_cases h : x = i
      · subst h; simp
      · have h' : ¬ i = x := fun e => h e.symm
        simp [h, h']
    rw [this, ← Bool.decide_or]
    exact decide_eq_decide.mpr (by rw [List.mem_cons])

/-! ### ranges -/
def rng (n : Int) : List Int := (List.range n.toNat).map fun i : Nat => (i : Int)
theorem mem_rng {n x : Int} : x ∈ rng n ↔ 0 ≤ x ∧ x < n := by
  unfold rng
  rw [List.mem_map]
  constructor
  · rintro ⟨i, hi, rfl⟩
    have := List.mem_range.mp hi
    omega
  · intro h
    exact ⟨x.toNat, List.mem_range.mpr (by omega), by omega⟩
theorem rgX_rng (n : Int) : rgX 0 n.toNat = IX (rng n) := by
  unfold rgX IX rng
  rw [List.map_map]
  refine List.map_congr_left fun i _ => ?_
  show X.d (.int (0 + (i : Int))) = _
  rw [Int.zero_add]; rfl
theorem rng_sorted (n : Int) : (rng n).Pairwise (· < ·) := by
  unfold rng
  rw [List.pairwise_map]
  refine List.Pairwise.imp ?_ (List.pairwise_lt_range (n := n.toNat))
  intro a b h
  omega
theorem rng_len (n : Int) : (rng n).length = n.toNat := by unfold rng; simp
/-- two ascending lists with the same members -/
theorem asc_ext : ∀ {xs ys : List Int}, xs.Pairwise (· < ·) → ys.Pairwise (· < ·) → (∀ x, x ∈ xs ↔ x ∈ ys) → xs = ys
  | [], [], _, _, _ => rfl
  | [], y :: ys, _, _, h => absurd ((h y).mpr List.mem_cons_self) (by simp)
  | x :: xs, [], _, _, h => absurd ((h x).mp List.mem_cons_self) (by simp)
  | x :: xs, y :: ys, hx, hy, h => by
    obtain ⟨hx1, hx2⟩ := List.pairwise_cons.mp hx
    obtain ⟨hy1, hy2⟩ := List.pairwise_cons.mp hy
    have e : x = y := by
      rcases List.mem_cons.mp ((h x).mp List.mem_cons_self) with e | e
      · exact e
      · rcases List.mem_cons.mp ((h y).mpr List.mem_cons_self) with e' | e'
        · exact e'.symm
        · have := hx1 y e'; have := hy1 x e; omega
    subst e
    congr 1
    refine asc_ext hx2 hy2 fun z => ⟨fun hz => ?_, fun hz => ?_⟩
    · rcases List.mem_cons.mp ((h z).mp (List.mem_cons_of_mem _ hz)) with e | e
      · have := hx1 z hz; omega
      · exact e
    · rcases List.mem_cons.mp ((h z).mpr (List.mem_cons_of_mem _ hz)) with e | e
      · have := hy1 z hz; omega
      · exact e
/-- an ascending list within a range is a part of it -/
theorem asc_part {n : Int} {xs : List Int} (h : xs.Pairwise (· < ·)) (hr : ∀ x ∈ xs, 0 ≤ x ∧ x < n) : xs = (rng n).filter fun x => decide (x ∈ xs) := by
  refine asc_ext h ((rng_sorted n).filter _) fun x => ?_
  rw [List.mem_filter, mem_rng]
  simp only [decide_eq_true_eq]
  exact ⟨fun hx => ⟨hr x hx, hx⟩, fun hx => hx.2⟩
theorem rng_small {n : Int} {xs : List Int} {p : Int → Bool} (h : xs = (rng n).filter p) : xs.length ≤ n.toNat := by
  rw [h]; exact Nat.le_trans (List.length_filter_le _ _) (Nat.le_of_eq (rng_len n))

/-! ### repr -/
theorem short_int : ∀ n : Fin 1000, ((PyData.int (n.val : Int)).shown).length ≤ 8 := by decide +kernel
theorem short_ints : ∀ xs : List Int, (∀ x ∈ xs, 0 ≤ x ∧ x < 1000) → PyData.leavesShortAll 8 (xs.map .int) = true ∧ PyData.showableAll (xs.map .int) = true ∧ PyData.bulkAll (xs.map .int) = xs.length
  | [], _ => ⟨rfl, rfl, rfl⟩
  | x :: xs, h => by
    obtain ⟨h1, h2, h3⟩ := short_ints xs fun y hy => h y (List.mem_cons_of_mem _ hy)
    obtain ⟨a, b⟩ := h x List.mem_cons_self
    have e : x = ((⟨x.toNat, by omega⟩ : Fin 1000).val : Int) := by show x = (x.toNat : Int); omega
    rw [List.map_cons]
    unfold PyData.leavesShortAll PyData.showableAll PyData.bulkAll
    rw [h1, h2, h3]
    refine ⟨?_, ?_, ?_⟩
    · rw [Bool.and_true]; unfold PyData.leavesShort; rw [e]; exact decide_eq_true (short_int _)
    · rw [Bool.and_true]; unfold PyData.showable
      refine decide_eq_true ?_
      have : x.natAbs < 2 ^ 10 := by omega
      by_cases hz : x.natAbs = 0
      · rw [hz]; decide
      · have := (Nat.log2_lt hz).mpr this
        omega
    · unfold PyData.bulk; rw [List.length_cons]; omega
section
variable {S : Store} {Q : XQ}
theorem q_reprT {xs : List Int} (h : ∀ x ∈ xs, 0 ≤ x ∧ x < 1000) (hl : xs.length ≤ 100000) (q : Q (.d (.str (PyData.tuple (xs.map .int)).shown)) S) : dRepr [.d (.tup (ID xs))] S Q := by
  obtain ⟨h1, h2, h3⟩ := short_ints xs h
  refine ⟨_, py_it xs, h2, PyData.shown_fits_bulk (B := 8) (by decide) (by decide) h1 ?_, shaped_it xs, q⟩
  unfold PyData.bulk; rw [h3]; exact Nat.le_trans hl (by decide)
theorem q_reprL {xs : List Int} (h : ∀ x ∈ xs, 0 ≤ x ∧ x < 1000) (hl : xs.length ≤ 100000) (q : Q (.d (.str (PyData.list (xs.map .int)).shown)) S) : dRepr [.d (.lst (ID xs))] S Q := by
  obtain ⟨h1, h2, h3⟩ := short_ints xs h
  refine ⟨_, py_il xs, h2, PyData.shown_fits_bulk (B := 8) (by decide) (by decide) h1 ?_, shaped_il xs, q⟩
  unfold PyData.bulk; rw [h3]; exact Nat.le_trans hl (by decide)
end
end DP

set_option Elab.async false
set_option linter.all false
set_option maxRecDepth 100000
set_option maxHeartbeats 1000000
namespace DP
open PySem PySem.Spec PyProof.Rows L2
open Evl (Ex ex_l ex_t ex_rd fresh_back)

@[simp] theorem IX_len (as : List Int) : (IX as).length = as.length := by unfold IX; rw [List.length_map]
/-! ### loops, comprehensions -/
theorem loop_nil {dg : DTg} {wb : WS} {Δ : DEnds} {E : XR} {δ : Env} {S : Store} : loopD dg wb Δ E [] δ S = Δ.nx δ S := rfl
theorem loop_cons {dg : DTg} {wb : WS} {Δ : DEnds} {E : XR} {δ : Env} {S : Store} {x : X} {xs : List X} : loopD dg wb Δ E (x :: xs) δ S = dg x δ S fun δ1 S1 => wb ⟨fun δ2 S2 => loopD dg wb Δ E xs δ2 S2, Δ.rt, Δ.nx, fun δ2 S2 => loopD dg wb Δ E xs δ2 S2⟩ δ1 S1 E := rfl
@[simp] theorem x_for {wi : WI} {dg : DTg} {wb : WS} {Δ : DEnds} {δ : Env} {S : Store} {E : XR} : wFor wi dg wb Δ δ S E = wi δ S (fun xs S1 => loopD dg wb Δ E xs δ S1) E := rfl
@[simp] theorem x_while {wt : WT} {wb : WS} {Δ : DEnds} {δ : Env} {S : Store} {E : XR} : wWhile wt wb Δ δ S E = ∃ n, whileD wt wb Δ E n δ S := rfl
@[simp] theorem x_lc {wi : WI} {dg : DTg} {wt : WT} {we : WE} {vs : List Nat} {δ : Env} {S : Store} {Q : XQ} {E : XR} : wLc wi dg wt we vs δ S Q E = wi δ S (fun xs S1 => ∀ D, lcD dg wt we S1.length D Q (wipeD δ vs) xs (S1 ++ [(D, .lst [])])) E := rfl
@[simp] theorem x_ir1 {wa : WA} {δ : Env} {S : Store} {R : List X → Store → Prop} {E : XR} : wIR1 wa δ S R E = wa δ S (fun xs S1 => match xs with
  | [.d (.int j)] => -(2 ^ 62) ≤ j ∧ j < 2 ^ 62 ∧ R (rgX 0 j.toNat) S1
  | _ => False) E := rfl
@[simp] theorem x_ir2 {wa : WA} {δ : Env} {S : Store} {R : List X → Store → Prop} {E : XR} : wIR2 wa δ S R E = wa δ S (fun xs S1 => match xs with
  | [.d (.int i), .d (.int j)] => (-(2 ^ 62) ≤ i ∧ i < 2 ^ 62 ∧ -(2 ^ 62) ≤ j ∧ j < 2 ^ 62) ∧ R (rgX i (j - i).toNat) S1
  | _ => False) E := rfl
/-- a comprehension each of whose turns is told -/
theorem lcD_pure {α : Type} {dg : DTg} {wt : WT} {we : WE} {ad : Addr} {Q : XQ} {δ0 : Env} {S0 : Store} (inj : α → X) (p : α → Bool) (f : α → D) : ∀ (l : List α) (acc : List X), acc.length + l.length ≤ sizeLine →
    (∀ a ∈ l, ∀ (acc' : List X) (K : X → Store → Prop) (Kf : Store → Prop), (p a = true → K (.d (f a)) (S0 ++ [(ad, .lst acc')])) → (p a = false → Kf (S0 ++ [(ad, .lst acc')])) →
      dg (inj a) δ0 (S0 ++ [(ad, .lst acc')]) fun δ2 S2 => wt δ2 S2 (fun b S3 => if b = true then we δ2 S3 K E0' else Kf S3) E0') →
    Q (.h ad) (S0 ++ [(ad, .lst (acc ++ (l.filter p).map fun a => .d (f a)))]) → lcD dg wt we S0.length ad Q δ0 (l.map inj) (S0 ++ [(ad, .lst acc)])
  | [], acc, _, _, q => by
    rw [List.filter_nil, List.map_nil, List.append_nil] at q
    exact q
  | a :: l, acc, hl, hs, q => by
    have hs' := fun b hb => hs b (List.mem_cons_of_mem _ hb)
    rw [List.length_cons] at hl
    show dg (inj a) δ0 _ _
    refine hs a List.mem_cons_self acc _ _ (fun hp => ?_) fun hp => ?_
    · refine ⟨acc, by simp, by omega, ?_⟩
      have e : (S0 ++ [(ad, Cell.lst acc)]).set S0.length (ad, .lst (acc ++ [.d (f a)])) = S0 ++ [(ad, .lst (acc ++ [.d (f a)]))] := by
        rw [List.set_append_right _ _ (Nat.le_refl _)]; simp
      rw [e]
      refine lcD_pure inj p f l (acc ++ [.d (f a)]) (by rw [List.length_append]; simp; omega) hs' ?_
      rw [List.filter_cons, if_pos hp, List.map_cons] at q
      rw [List.append_assoc]; exact q
    · refine lcD_pure inj p f l acc (by omega) hs' ?_
      rw [List.filter_cons, hp] at q
      exact q
/-- .. whose list is a datum at once -/
theorem lcz {α : Type} {dg : DTg} {wt : WT} {we : WE} {Q : XQ} {δ0 : Env} {S0 : Store} {n : Nat} (inj : α → X) (p : α → Bool) (f : α → D) (l : List α) (hl : l.length ≤ sizeLine)
    (hs : ∀ a ∈ l, ∀ (S : Store) (K : X → Store → Prop) (Kf : Store → Prop), (∃ c, S = S0 ++ [c]) → (p a = true → K (.d (f a)) S) → (p a = false → Kf S) →
      dg (inj a) δ0 S fun δ2 S2 => wt δ2 S2 (fun b S3 => if b = true then we δ2 S3 K E0' else Kf S3) E0')
    (q : Q (.d (.lst ((l.filter p).map f))) S0) (ad : Addr) (hn : n = S0.length := by simp) : lcD dg wt we n ad (fzQ Q) δ0 (l.map inj) (S0 ++ [(ad, .lst [])]) := by
  subst hn
  refine lcD_pure inj p f l [] (by simpa using hl) (fun a ha acc K Kf h1 h2 => hs a ha _ K Kf ⟨_, rfl⟩ h1 h2) ⟨S0, _, _, rfl, ?_, q⟩
  show (xdata _).map D.lst = _
  rw [List.nil_append, show ((l.filter p).map fun a => X.d (f a)) = ((l.filter p).map f).map X.d from by rw [List.map_map]; rfl, xdata_map]; rfl
/-- .. a list of numbers -/
theorem lczI {α : Type} {dg : DTg} {wt : WT} {we : WE} {Q : XQ} {δ0 : Env} {S0 : Store} {n : Nat} (inj : α → X) (p : α → Bool) (f : α → Int) (l : List α) (hl : l.length ≤ sizeLine)
    (hs : ∀ a ∈ l, ∀ (S : Store) (K : X → Store → Prop) (Kf : Store → Prop), (∃ c, S = S0 ++ [c]) → (p a = true → K (.d (.int (f a))) S) → (p a = false → Kf S) →
      dg (inj a) δ0 S fun δ2 S2 => wt δ2 S2 (fun b S3 => if b = true then we δ2 S3 K E0' else Kf S3) E0')
    (q : Q (.d (.lst (ID ((l.filter p).map f)))) S0) (ad : Addr) (hn : n = S0.length := by simp) : lcD dg wt we n ad (fzQ Q) δ0 (l.map inj) (S0 ++ [(ad, .lst [])]) :=
  lcz inj p (fun a => .int (f a)) l hl hs (by unfold ID at q; rw [List.map_map] at q; exact q) ad hn
theorem lcrawI {α : Type} {dg : DTg} {wt : WT} {we : WE} {Q : XQ} {δ0 : Env} {S0 : Store} {n : Nat} (inj : α → X) (p : α → Bool) (f : α → Int) (l : List α) (hl : l.length ≤ sizeLine)
    (hs : ∀ a ∈ l, ∀ (S : Store) (K : X → Store → Prop) (Kf : Store → Prop), (∃ c, S = S0 ++ [c]) → (p a = true → K (.d (.int (f a))) S) → (p a = false → Kf S) →
      dg (inj a) δ0 S fun δ2 S2 => wt δ2 S2 (fun b S3 => if b = true then we δ2 S3 K E0' else Kf S3) E0')
    (ad : Addr) (q : Q (.h ad) (S0 ++ [(ad, .lst (IX ((l.filter p).map f)))])) (hn : n = S0.length := by simp) : lcD dg wt we n ad Q δ0 (l.map inj) (S0 ++ [(ad, .lst [])]) := by
  subst hn
  refine lcD_pure inj p (fun a => .int (f a)) l [] (by simpa using hl) (fun a ha acc K Kf h1 h2 => hs a ha _ K Kf ⟨_, rfl⟩ h1 h2) ?_
  rw [List.nil_append]
  unfold IX at q
  rw [List.map_map] at q
  exact q
theorem filter_yes {α : Type} (l : List α) : l.filter (fun _ => true) = l := List.filter_eq_self.mpr fun _ _ => rfl

@[simp] theorem x_revL {w : WE} {δ : Env} {S : Store} {Q : XQ} {E : XR} : wRevL w δ S Q E = w δ S (fun x S1 => match x with
  | .d (.lst ds) => ∀ p, Q (.h p) (S1 ++ [(p, .lst (ds.map X.d).reverse)])
  | .d (.scr ds) => ∀ p, Q (.h p) (S1 ++ [(p, .lst (ds.map X.d).reverse)])
  | .h a => lstAt S1 a fun _ ys => ∀ p, Q (.h p) (S1 ++ [(p, .lst ys.reverse)])
  | _ => False) E := rfl
@[simp] theorem x_iany {w : WE} {δ : Env} {S : Store} {R : List X → Store → Prop} {E : XR} : wIAny w δ S R E = w δ S (fun x S1 => match x with
  | .d d => (match walkD d with | some ds => R (ds.map X.d) S1 | none => False)
  | _ => False) E := rfl
theorem walk_seq {d : D} {b : Bool} {ds : List D} (h : seqD d = some (b, ds)) : walkD d = some ds := by
  cases d <;> first | (cases h; done) | skip
  all_goals (cases h; rfl)
/-! ### dicts whose values are True -/
@[simp] theorem x_lcH {w : WE} {dg : DTg} {wt : WT} {we : WE} {vs : List Nat} {δ : Env} {S : Store} {Q : XQ} {E : XR} : wLcH w dg wt we vs δ S Q E = w δ S (fun x S1 => match x with
  | .h a => (∃ (j : Nat) (ys : List X), S1[j]? = some (a, Cell.lst ys)) ∧ ∀ ad, ∃ f, lcH dg wt we S1.length ad Q (wipeD δ vs) a f 0 (S1 ++ [(ad, .lst [])])
  | _ => False) E := rfl
@[simp] theorem x_dcH {w : WE} {dg : DTg} {wt : WT} {wk wv : WE} {vs : List Nat} {δ : Env} {S : Store} {Q : XQ} {E : XR} : wDcH w dg wt wk wv vs δ S Q E = w δ S (fun x S1 => match x with
  | .h a => (∃ (j : Nat) (ys : List X), S1[j]? = some (a, Cell.lst ys)) ∧ ∀ ad, ∃ f, dcH dg wt wk wv S1.length ad Q (wipeD δ vs) a f 0 (S1 ++ [(ad, .dct [])])
  | _ => False) E := rfl
@[simp] theorem x_din {neg : Bool} {wy wd : WE} {δ : Env} {S : Store} {Q : XQ} {E : XR} : wDIn neg wy wd δ S Q E = wy δ S (fun y S1 => wd δ S1 (fun x S2 => ∃ k, keyX y = some k ∧ dDct x S2 fun kvs => Q (.d (.bl (if neg then !(valKD kvs k).isSome else (valKD kvs k).isSome))) S2) E) E := rfl
@[simp] theorem x_dnew {δ : Env} {S : Store} {Q : XQ} {E : XR} : wDNew δ S Q E = ∀ p, Q (.h p) (S ++ [(p, .dct [])]) := rfl
@[simp] theorem x_dput {wd wy wv : WE} {Δ : DEnds} {δ : Env} {S : Store} {E : XR} : wDPut wd wy wv Δ δ S E = wv δ S (fun v S1 => wd δ S1 (fun x S2 => wy δ S2 (fun y S3 => match x, v with
  | .h a, .d d => ∃ (i : Nat) (kvs : List (Key × D)) (k : Key), S3[i]? = some (a, .dct kvs) ∧ keyX y = some k ∧ kvs.length < sizeLine ∧ Δ.nx δ (S3.set i (a, .dct (putKD kvs k d)))
  | _, _ => False) E) E) E := rfl
@[simp] theorem x_ik {w : WE} {δ : Env} {S : Store} {R : List X → Store → Prop} {E : XR} : wIK w δ S R E = w δ S (fun x S1 => match x with | .d (.dct kvs) => R (kvs.map fun kv => X.d (kD kv.1)) S1 | _ => False) E := rfl
@[simp] theorem x_keyI {i : Int} : keyX (.d (.int i)) = some (.inl i) := rfl
@[simp] theorem x_sortedL {ds : List D} {S : Store} {Q : XQ} : dSortedI [.d (.lst ds)] S Q = ∃ ns : List Int, ds.map X.d = ns.map (fun n => X.d (.int n)) ∧ ∀ ns' : List Int, ns'.Perm ns → ns'.Pairwise (· ≤ ·) → ∀ p, Q (.h p) (S ++ [(p, .lst (ns'.map fun n => X.d (.int n)))]) := rfl
@[simp] theorem x_dc {wi : WI} {dg : DTg} {wt : WT} {wk wv : WE} {vs : List Nat} {δ : Env} {S : Store} {Q : XQ} {E : XR} : wDc wi dg wt wk wv vs δ S Q E = wi δ S (fun xs S1 => ∀ D, dcD dg wt wk wv S1.length D Q (wipeD δ vs) xs (S1 ++ [(D, .dct [])])) E := rfl
def addK (ks : List Int) (k : Int) : List Int := if k ∈ ks then ks else ks ++ [k]
def kvT (ks : List Int) : List (Key × D) := ks.map fun k => (.inl k, .bl true)
theorem put_kvT (ks : List Int) (k : Int) : putKD (kvT ks) (.inl k) (.bl true) = kvT (addK ks k) := by
  have e : ((kvT ks).any fun kv => decide (kv.1 = .inl k)) = decide (k ∈ ks) := by
    unfold kvT
    rw [List.any_map]
    induction ks with
    | nil => rfl
    | cons x xs ih =>
      rw [List.any_cons, ih]
      show (decide ((Sum.inl x : Key) = Sum.inl k) || _) = _
      rw [← Bool.decide_or]
      exact decide_eq_decide.mpr (by rw [List.mem_cons, Sum.inl.injEq]; exact or_congr eq_comm Iff.rfl)
  unfold putKD addK
  rw [e]
  by_cases h : k ∈ ks
  · rw [if_pos (by simpa using h), if_pos h]
    unfold kvT
    rw [List.map_map]
    refine List.map_congr_left fun x _ => ?_
    show (if (Sum.inl x : Key) = Sum.inl k then ((Sum.inl x : Key), D.bl true) else ((Sum.inl x : Key), D.bl true)) = _
    split <;> rfl
  · rw [if_neg (by simpa using h), if_neg h]
    unfold kvT
    rw [List.map_append]; rfl
theorem addK_nodup {ks : List Int} {k : Int} (h : ks.Nodup) : (addK ks k).Nodup := by
  unfold addK
  split
  · exact h
  · rename_i hk
    refine List.nodup_append.mpr ⟨h, by simp, fun a ha b hb => ?_⟩
    simp at hb
    subst hb
    exact fun e => hk (e ▸ ha)
theorem mem_addK {ks : List Int} {k x : Int} : x ∈ addK ks k ↔ x ∈ ks ∨ x = k := by
  unfold addK
  split
  · rename_i hk
    exact ⟨.inl, fun h => h.elim id fun e => e ▸ hk⟩
  · simp
theorem fold_nodup : ∀ {l ks : List Int}, ks.Nodup → (l.foldl addK ks).Nodup
  | [], _, h => h
  | x :: l, ks, h => fold_nodup (l := l) (addK_nodup h)
theorem mem_fold {x : Int} : ∀ {l ks : List Int}, x ∈ l.foldl addK ks ↔ x ∈ ks ∨ x ∈ l
  | [], ks => by simp
  | y :: l, ks => by
    rw [List.foldl_cons, mem_fold (l := l), mem_addK, List.mem_cons, or_assoc]
theorem fold_len : ∀ {l ks : List Int}, (l.foldl addK ks).length ≤ ks.length + l.length
  | [], ks => Nat.le_refl _
  | y :: l, ks => by
    rw [List.foldl_cons]
    refine Nat.le_trans (fold_len (l := l)) ?_
    have : (addK ks y).length ≤ ks.length + 1 := by unfold addK; split <;> simp
    rw [List.length_cons]; omega
theorem sort_asc {ns ks : List Int} (hp : ns.Perm ks) (hs : ns.Pairwise (· ≤ ·)) (hn : ks.Nodup) : ns.Pairwise (· < ·) := by
  have hn' : ns.Nodup := (List.Perm.nodup_iff hp).mpr hn
  have := List.Pairwise.and hs hn'
  exact this.imp fun ⟨h1, h2⟩ => by omega
/-- a dict comprehension {..: True ..} over numbers -/
theorem dcD_T0 {dg : DTg} {wt : WT} {wk wv : WE} {ad : Addr} {Q : XQ} {δ0 : Env} {S0 : Store} : ∀ (l ks : List Int), ks.length + l.length < sizeLine →
    (∀ a ∈ l, ∀ (S : Store) (K : X → X → Store → Prop) (Kf : Store → Prop), (∃ c, S = S0 ++ [c]) → K (.d (.int a)) (.d (.bl true)) S →
      dg (.d (.int a)) δ0 S fun δ2 S2 => wt δ2 S2 (fun b S3 => if b = true then wk δ2 S3 (fun y S4 => wv δ2 S4 (fun z S5 => K y z S5) E0') E0' else Kf S3) E0') →
    Q (.h ad) (S0 ++ [(ad, .dct (kvT (l.foldl addK ks)))]) → dcD dg wt wk wv S0.length ad Q δ0 (IX l) (S0 ++ [(ad, .dct (kvT ks))])
  | [], ks, _, _, q => q
  | a :: l, ks, hl, hs, q => by
    rw [List.length_cons] at hl
    show dg (.d (.int a)) δ0 _ _
    refine hs a List.mem_cons_self _ _ _ ⟨_, rfl⟩ ?_
    refine ⟨kvT ks, .inl a, rfl, by simp, by unfold kvT; rw [List.length_map]; omega, ?_⟩
    rw [put_kvT, List.set_append_right _ _ (Nat.le_refl _), Nat.sub_self, List.set_cons_zero]
    refine dcD_T0 l (addK ks a) ?_ (fun b hb => hs b (List.mem_cons_of_mem _ hb)) q
    have : (addK ks a).length ≤ ks.length + 1 := by unfold addK; split <;> simp
    omega

theorem dcD_T {dg : DTg} {wt : WT} {wk wv : WE} {Q : XQ} {δ0 : Env} {S0 : Store} {n : Nat} (l : List Int) (hl : l.length < sizeLine)
    (hs : ∀ a ∈ l, ∀ (S : Store) (K : X → X → Store → Prop) (Kf : Store → Prop), (∃ c, S = S0 ++ [c]) → K (.d (.int a)) (.d (.bl true)) S →
      dg (.d (.int a)) δ0 S fun δ2 S2 => wt δ2 S2 (fun b S3 => if b = true then wk δ2 S3 (fun y S4 => wv δ2 S4 (fun z S5 => K y z S5) E0') E0' else Kf S3) E0') (ad : Addr)
    (q : Q (.h ad) (S0 ++ [(ad, .dct (kvT (l.foldl addK [])))])) (hn : n = S0.length := by simp) : dcD dg wt wk wv n ad Q δ0 (IX l) (S0 ++ [(ad, .dct [])]) := by
  subst hn
  exact dcD_T0 l [] (by simpa using hl) hs q

@[simp] theorem x_fzIX {Q : XQ} {S : Store} {p : Addr} {xs : List Int} : fzQ Q (.h p) (S ++ [(p, .lst (IX xs))]) = Q (.d (.lst (ID xs))) S := by
  rw [x_fzh, x_dataL, xdata_IX]; simp
@[simp] theorem x_fzIX0 {Q : XQ} {p : Addr} {xs : List Int} : fzQ Q (.h p) [(p, .lst (IX xs))] = Q (.d (.lst (ID xs))) [] := x_fzIX (S := [])
theorem q_sorted {Q : XQ} {S : Store} {ks : List Int} (hn : ks.Nodup) (h : ∀ ns : List Int, ns.Pairwise (· < ·) → (∀ x, x ∈ ns ↔ x ∈ ks) → ns.length = ks.length → Q (.d (.lst (ID ns))) S) : dSortedI [.d (.lst (ID ks))] S (fzQ Q) :=
  ⟨ks, IX_eq ks, fun ns hp hs p => by
    show fzQ Q (.h p) (S ++ [(p, .lst (IX ns))])
    rw [x_fzIX]
    exact h ns (sort_asc hp hs hn) (fun x => hp.mem_iff) hp.length_eq⟩

/-- a dict comprehension {..: True ..} over a list of numbers that may change -/
theorem dcH_T {dg : DTg} {wt : WT} {wk wv : WE} {Q : XQ} {δ0 : Env} {S0 : Store} {n : Nat} {a : Addr} {j : Nat} (l : List Int) (hl : l.length < sizeLine) (hj : S0[j]? = some (a, Cell.lst (IX l)))
    (hs : ∀ a ∈ l, ∀ (S : Store) (K : X → X → Store → Prop) (Kf : Store → Prop), (∃ c, S = S0 ++ [c]) → K (.d (.int a)) (.d (.bl true)) S →
      dg (.d (.int a)) δ0 S fun δ2 S2 => wt δ2 S2 (fun b S3 => if b = true then wk δ2 S3 (fun y S4 => wv δ2 S4 (fun z S5 => K y z S5) E0') E0' else Kf S3) E0') (ad : Addr)
    (q : Q (.h ad) (S0 ++ [(ad, .dct (kvT (l.foldl addK [])))])) (hn : n = S0.length := by simp) : ∃ f, dcH dg wt wk wv n ad Q δ0 a f 0 (S0 ++ [(ad, .dct [])]) := by
  subst hn
  have hjl : j < S0.length := (List.getElem?_eq_some_iff.mp hj).1
  have key : ∀ (r : List Int) (i : Nat) (ks : List Int), l.drop i = r → ks.length + r.length < sizeLine → Q (.h ad) (S0 ++ [(ad, .dct (kvT (r.foldl addK ks)))]) → dcH dg wt wk wv S0.length ad Q δ0 a (r.length + 1) i (S0 ++ [(ad, .dct (kvT ks))]) := by
    intro r
    induction r with
    | nil =>
      intro i ks hr _ q
      refine ⟨j, IX l, by rw [List.getElem?_append_left hjl]; exact hj, ?_⟩
      have : l.length ≤ i := by
        have := congrArg List.length hr
        rw [List.length_drop] at this
        simp at this; omega
      rw [List.getElem?_eq_none (by rw [IX_len]; exact this)]
      exact q
    | cons x r ih =>
      intro i ks hr hz q
      rw [List.length_cons] at hz
      refine ⟨j, IX l, by rw [List.getElem?_append_left hjl]; exact hj, ?_⟩
      have hx : l[i]? = some x := by
        have := congrArg (fun z => z[0]?) hr
        simpa using this
      have hX : (IX l)[i]? = some (.d (.int x)) := by unfold IX; rw [List.getElem?_map, hx]; rfl
      rw [hX]
      refine hs x (List.mem_of_getElem? hx) _ _ _ ⟨_, rfl⟩ ?_
      refine ⟨kvT ks, .inl x, rfl, by simp, by unfold kvT; rw [List.length_map]; omega, ?_⟩
      rw [put_kvT, List.set_append_right _ _ (Nat.le_refl _), Nat.sub_self, List.set_cons_zero]
      refine ih (i + 1) (addK ks x) ?_ ?_ q
      · rw [← List.drop_drop, hr]; rfl
      · have : (addK ks x).length ≤ ks.length + 1 := by unfold addK; split <;> simp
        omega
  exact ⟨l.length + 1, key l 0 [] (by simp) (by simpa using hl) q⟩

/-! ### two for clauses -/
theorem lc2In_pure {β : Type} {dg : DTg} {wt : WT} {we : WE} {ad : Addr} {k : Store → Prop} {δ0 : Env} {S0 : Store} (inj : β → X) (f : β → D) : ∀ (l : List β) (acc : List X), acc.length + l.length ≤ sizeLine →
    (∀ a ∈ l, ∀ (S : Store) (K : X → Store → Prop) (Kf : Store → Prop), (∃ c, S = S0 ++ [c]) → K (.d (f a)) S →
      dg (inj a) δ0 S fun δ2 S2 => wt δ2 S2 (fun b S3 => if b = true then we δ2 S3 K E0' else Kf S3) E0') →
    k (S0 ++ [(ad, .lst (acc ++ l.map fun a => .d (f a)))]) → lc2In dg wt we S0.length ad k δ0 (l.map inj) (S0 ++ [(ad, .lst acc)])
  | [], acc, _, _, q => by
    rw [List.map_nil, List.append_nil] at q
    exact q
  | a :: l, acc, hl, hs, q => by
    rw [List.length_cons] at hl
    show dg (inj a) δ0 _ _
    refine hs a List.mem_cons_self _ _ _ ⟨_, rfl⟩ ?_
    refine ⟨acc, by simp, by omega, ?_⟩
    rw [List.set_append_right _ _ (Nat.le_refl _), Nat.sub_self, List.set_cons_zero]
    refine lc2In_pure inj f l (acc ++ [.d (f a)]) (by rw [List.length_append]; simp; omega) (fun b hb => hs b (List.mem_cons_of_mem _ hb)) ?_
    rw [List.append_assoc]; exact q
theorem lc2D_pure {α β : Type} {dg dg1 : DTg} {wt wt1 : WT} {wi1 : WI} {we : WE} {vs1 : List Nat} {ad : Addr} {Q : XQ} {δ0 : Env} {S0 : Store} (inj : α → X) (r : α → List β) (ε : α → Env) (inj1 : β → X) (f : β → D) : ∀ (l : List α) (acc : List X), acc.length + (l.flatMap r).length ≤ sizeLine →
    (∀ a ∈ l, ∀ (S : Store) (K : Env → List X → Store → Prop) (Kf : Store → Prop), (∃ c, S = S0 ++ [c]) → K (ε a) ((r a).map inj1) S →
      dg (inj a) δ0 S fun δ2 S2 => wt δ2 S2 (fun b S3 => if b = true then wi1 δ2 S3 (fun ys S4 => K (wipeD δ2 vs1) ys S4) E0' else Kf S3) E0') →
    (∀ a ∈ l, ∀ b ∈ r a, ∀ (S : Store) (K : X → Store → Prop) (Kf : Store → Prop), (∃ c, S = S0 ++ [c]) → K (.d (f b)) S →
      dg1 (inj1 b) (ε a) S fun δ2 S2 => wt1 δ2 S2 (fun b S3 => if b = true then we δ2 S3 K E0' else Kf S3) E0') →
    Q (.h ad) (S0 ++ [(ad, .lst (acc ++ (l.flatMap r).map fun a => .d (f a)))]) → lc2D dg wt wi1 dg1 wt1 we vs1 S0.length ad Q δ0 (l.map inj) (S0 ++ [(ad, .lst acc)])
  | [], acc, _, _, _, q => by
    rw [List.flatMap_nil, List.map_nil, List.append_nil] at q
    exact q
  | a :: l, acc, hl, h1, h2, q => by
    rw [List.flatMap_cons, List.length_append] at hl
    show dg (inj a) δ0 _ _
    refine h1 a List.mem_cons_self _ (fun e ys S4 => lc2In dg1 wt1 we S0.length ad (fun S5 => lc2D dg wt wi1 dg1 wt1 we vs1 S0.length ad Q δ0 (l.map inj) S5) e ys S4) _ ⟨_, rfl⟩ ?_
    refine lc2In_pure inj1 f (r a) acc (by omega) (h2 a List.mem_cons_self) ?_
    refine lc2D_pure inj r ε inj1 f l _ (by rw [List.length_append, List.length_map]; omega) (fun b hb => h1 b (List.mem_cons_of_mem _ hb)) (fun b hb => h2 b (List.mem_cons_of_mem _ hb)) ?_
    rw [List.flatMap_cons, List.map_append] at q
    rw [List.append_assoc]; exact q
theorem lc2z {α β : Type} {dg dg1 : DTg} {wt wt1 : WT} {wi1 : WI} {we : WE} {vs1 : List Nat} {Q : XQ} {δ0 : Env} {S0 : Store} {n : Nat} (inj : α → X) (r : α → List β) (ε : α → Env) (inj1 : β → X) (f : β → D) (l : List α) (hl : (l.flatMap r).length ≤ sizeLine)
    (h1 : ∀ a ∈ l, ∀ (S : Store) (K : Env → List X → Store → Prop) (Kf : Store → Prop), (∃ c, S = S0 ++ [c]) → K (ε a) ((r a).map inj1) S →
      dg (inj a) δ0 S fun δ2 S2 => wt δ2 S2 (fun b S3 => if b = true then wi1 δ2 S3 (fun ys S4 => K (wipeD δ2 vs1) ys S4) E0' else Kf S3) E0')
    (h2 : ∀ a ∈ l, ∀ b ∈ r a, ∀ (S : Store) (K : X → Store → Prop) (Kf : Store → Prop), (∃ c, S = S0 ++ [c]) → K (.d (f b)) S →
      dg1 (inj1 b) (ε a) S fun δ2 S2 => wt1 δ2 S2 (fun b S3 => if b = true then we δ2 S3 K E0' else Kf S3) E0')
    (q : Q (.d (.lst ((l.flatMap r).map f))) S0) (ad : Addr) (hn : n = S0.length := by simp) : lc2D dg wt wi1 dg1 wt1 we vs1 n ad (fzQ Q) δ0 (l.map inj) (S0 ++ [(ad, .lst [])]) := by
  subst hn
  refine lc2D_pure inj r ε inj1 f l [] (by simpa using hl) h1 h2 ⟨S0, _, _, rfl, ?_, q⟩
  show (xdata _).map D.lst = _
  rw [List.nil_append, show ((l.flatMap r).map fun a => X.d (f a)) = ((l.flatMap r).map f).map X.d from by rw [List.map_map]; rfl, xdata_map]; rfl
theorem lc2zI {α β : Type} {dg dg1 : DTg} {wt wt1 : WT} {wi1 : WI} {we : WE} {vs1 : List Nat} {Q : XQ} {δ0 : Env} {S0 : Store} {n : Nat} (inj : α → X) (r : α → List β) (ε : α → Env) (inj1 : β → X) (f : β → Int) (l : List α) (hl : (l.flatMap r).length ≤ sizeLine)
    (h1 : ∀ a ∈ l, ∀ (S : Store) (K : Env → List X → Store → Prop) (Kf : Store → Prop), (∃ c, S = S0 ++ [c]) → K (ε a) ((r a).map inj1) S →
      dg (inj a) δ0 S fun δ2 S2 => wt δ2 S2 (fun b S3 => if b = true then wi1 δ2 S3 (fun ys S4 => K (wipeD δ2 vs1) ys S4) E0' else Kf S3) E0')
    (h2 : ∀ a ∈ l, ∀ b ∈ r a, ∀ (S : Store) (K : X → Store → Prop) (Kf : Store → Prop), (∃ c, S = S0 ++ [c]) → K (.d (.int (f b))) S →
      dg1 (inj1 b) (ε a) S fun δ2 S2 => wt1 δ2 S2 (fun b S3 => if b = true then we δ2 S3 K E0' else Kf S3) E0')
    (q : Q (.d (.lst (ID ((l.flatMap r).map f)))) S0) (ad : Addr) (hn : n = S0.length := by simp) : lc2D dg wt wi1 dg1 wt1 we vs1 n ad (fzQ Q) δ0 (l.map inj) (S0 ++ [(ad, .lst [])]) :=
  lc2z inj r ε inj1 (fun b => .int (f b)) l hl h1 h2 (by unfold ID at q; rw [List.map_map] at q; exact q) ad hn
@[simp] theorem x_lc2 {wi wi1 : WI} {dg dg1 : DTg} {wt wt1 : WT} {we : WE} {vs vs1 : List Nat} {δ : Env} {S : Store} {Q : XQ} {E : XR} : wLc2 wi dg wt wi1 dg1 wt1 we vs vs1 δ S Q E = wi δ S (fun xs S1 => ∀ D, lc2D dg wt wi1 dg1 wt1 we vs1 S1.length D Q (wipeD δ vs) xs (S1 ++ [(D, .lst [])])) E := rfl
@[simp] theorem x_star {w : WE} {r : WA} {δ : Env} {S : Store} {Q : List X → Store → Prop} {E : XR} : wStar w r δ S Q E = w δ S (fun x S1 => dSeq x S1 fun xs => r δ S1 (fun ys S2 => Q (xs ++ ys) S2) E) E := rfl
@[simp] theorem x_catL {as bs : List D} {S : Store} {Q : XQ} : dCat (.d (.lst as)) (.d (.lst bs)) S Q = ((as.map X.d).length + (bs.map X.d).length ≤ sizeLine ∧ ∀ p, Q (.h p) (S ++ [(p, .lst (as.map X.d ++ bs.map X.d))])) := rfl
theorem xdata_app : ∀ as bs : List D, xdata (as.map X.d ++ bs.map X.d) = some (as ++ bs) := fun as bs => by rw [← List.map_append]; exact xdata_map _
@[simp] theorem x_catI {as bs : List Int} {S : Store} {Q : XQ} : dCat (.d (.lst (ID as))) (.d (.lst (ID bs))) S Q = (as.length + bs.length ≤ sizeLine ∧ ∀ p, Q (.h p) (S ++ [(p, .lst (IX (as ++ bs)))])) := by
  rw [x_catL, IX_eq, IX_eq]; unfold IX; simp
@[simp] theorem IX_app (as bs : List Int) : IX as ++ IX bs = IX (as ++ bs) := by unfold IX; rw [List.map_append]
@[simp] theorem ID_len (as : List Int) : (ID as).length = as.length := by unfold ID; rw [List.length_map]
@[simp] theorem IX_xd (as : List Int) : xdata (IX as) = some (ID as) := xdata_IX as

/-! ### a number in a flat sequence -/
theorem q_inG {neg : Bool} {d : D} {b : Bool} {zs : List Int} {c : Int} {S : Store} {Q : XQ} (hs : seqD d = some (b, ID zs)) (q : Q (.d (.bl (if neg then !decide (c ∈ zs) else decide (c ∈ zs)))) S) : dIn neg (.d (.int c)) (.d d) S Q := by
  have key : ∀ es : List D, es = ID zs → dIn neg (.d (.int c)) (.d (.lst es)) S Q := fun es e => by
    subst e
    refine ⟨rfl, ID zs, xdata_map _, flat_ID zs, ?_⟩
    rw [any_ID]; exact q
  cases d <;> first | (cases hs; done) | skip
  all_goals
    cases hs
    exact key _ rfl
theorem q_inI {d : D} {b : Bool} {zs : List Int} {c : Int} {S : Store} {Q : XQ} (hs : seqD d = some (b, ID zs)) (q : Q (.d (.bl (decide (c ∈ zs)))) S) : dIn false (.d (.int c)) (.d d) S Q := q_inG hs q
theorem q_notInI {d : D} {b : Bool} {zs : List Int} {c : Int} {S : Store} {Q : XQ} (hs : seqD d = some (b, ID zs)) (q : Q (.d (.bl (!decide (c ∈ zs)))) S) : dIn true (.d (.int c)) (.d d) S Q := q_inG hs q
theorem q_inH {a : Addr} {i : Nat} {zs : List Int} {c : Int} {S : Store} {Q : XQ} (hs : S[i]? = some (a, .lst (IX zs))) (q : Q (.d (.bl (decide (c ∈ zs)))) S) : dIn false (.d (.int c)) (.h a) S Q := by
  refine ⟨rfl, i, _, hs, ID zs, xdata_IX _, flat_ID zs, ?_⟩
  rw [any_ID]; exact q

/-! ### calls of defs that change nothing -/
theorem x_call0 {ds : DSp} {xs : List X} {S : Store} {Q : XQ} {E : Exn → Store → Prop} : callD ds [] xs S Q E = ds xs [] (fun r S' => ∃ Su Se, S' = Su ++ Se ∧ keys Su = keys [] ∧ Q r (putBack S [] Su ++ Se)) (fun x S' => ∃ Su Se, S' = Su ++ Se ∧ keys Su = keys [] ∧ E x (putBack S [] Su ++ Se)) := by
  refine propext ⟨fun ⟨Sc, h1, h2, h3⟩ => ?_, fun h => ⟨[], rfl, List.nodup_nil, h⟩⟩
  cases h1
  exact h3
/-- a call of a def that changes nothing .. -/
theorem callP {ds : DSp} {xs : List X} {S : Store} {Q : XQ} {E : Exn → Store → Prop} (h : ∀ (Q' : XQ) (E' : Exn → Store → Prop), (∀ r, Q r S → Q' r []) → ds xs [] Q' E') : callD ds [] xs S Q E := by
  rw [x_call0]
  exact h _ _ fun r q => ⟨[], [], rfl, rfl, by unfold putBack; rw [List.append_nil]; exact q⟩
/-- .. and hands back new things -/
theorem callF {ds : DSp} {xs : List X} {S : Store} {Q : XQ} {E : Exn → Store → Prop} (h : ∀ (Q' : XQ) (E' : Exn → Store → Prop), (∀ r Se, Q r (S ++ Se) → Q' r Se) → ds xs [] Q' E') : callD ds [] xs S Q E := by
  rw [x_call0]
  exact h _ _ fun r Se q => ⟨[], Se, rfl, rfl, q⟩
/-- a call of a def that may change the things at idx -/
theorem callI {ds : DSp} {idx : List Nat} {xs : List X} {S Sc : Store} {Q : XQ} {E : Exn → Store → Prop} (hp : pick S idx = some Sc) (hn : idx.Nodup) (h : ∀ (Q' : XQ) (E' : Exn → Store → Prop), (∀ r Su Se, keys Su = keys Sc → Q r (putBack S idx Su ++ Se) → Q' r (Su ++ Se)) → ds xs Sc Q' E') : callD ds idx xs S Q E :=
  ⟨Sc, hp, hn, h _ _ fun r Su Se hk q => ⟨Su, Se, rfl, hk, q⟩⟩
end DP

set_option Elab.async false
set_option linter.all false
set_option maxRecDepth 100000
set_option maxHeartbeats 1000000
namespace DP
open PySem PySem.Spec PyProof.Rows L2
open Evl (Ex ex_l ex_t ex_rd fresh_back)

/-! ### maps, as data -/
structure GM where
  K : PySem.W.Frag
  Map : Addr
  own : OwnC K Map
def mapO (g : GM) (n : Int) (ts : List (Int × Int)) : D := .obj g.Map [("many", .int n), ("touches", .tup (PD ts))]
structure OkM (n : Int) (ts : List (Int × Int)) : Prop where
  lo : 1 ≤ n
  hi : n ≤ 64
  pr : ∀ p ∈ ts, 0 ≤ p.1 ∧ p.1 < p.2 ∧ p.2 < n
  sz : ts.length ≤ 5000
def part (n : Int) (xs : List Int) : List Int := (rng n).filter fun x => decide (x ∈ xs)
def rest (n : Int) (xs : List Int) : List Int := (rng n).filter fun x => decide (x ∉ xs)
def around (ts : List (Int × Int)) (c : Int) : List Int := (ts.filter fun p => decide (p.2 = c)).map (·.1) ++ (ts.filter fun p => decide (p.1 = c)).map (·.2)
def grow (n : Int) (ts : List (Int × Int)) (ys : List Int) : List Int := part n (ys ++ ys.flatMap (around ts))
def growN (n : Int) (ts : List (Int × Int)) : Nat → List Int → List Int
  | 0, ys => ys
  | k + 1, ys => growN n ts k (grow n ts ys)
def isIntD : D → Bool
  | .int _ => true
  | _ => false
def isSeqD : D → Bool
  | .tup _ => true
  | .lst _ => true
  | .scr _ => true
  | _ => false
def inR (n : Int) : D → Bool
  | .int c => decide (0 ≤ c) && decide (c < n)
  | _ => false
def isTouchB (n : Int) (d : D) : Bool := match seqD d with
  | some (_, [.int a, .int b]) => decide (0 ≤ a) && decide (a < n) && (decide (0 ≤ b) && decide (b < n)) && !decide (a = b)
  | _ => false
def Plain (d : D) : Prop := (tyD d).isSome = true
def OkT (d : D) : Prop := Plain d ∧ ∀ b ds, seqD d = some (b, ds) → ∀ e ∈ ds, Plain e
def ordP (a b : Int) : Int × Int := if a < b then (a, b) else (b, a)
def pairOf (d : D) : Int × Int := match seqD d with
  | some (_, [.int a, .int b]) => ordP a b
  | _ => (0, 0)
def codeD (n : Int) (d : D) : Int := (pairOf d).1 * n + (pairOf d).2
def normT (n : Int) (ds : List D) : List (Int × Int) := ((rng (n * n)).filter fun q => decide (q ∈ ds.map (codeD n))).map fun q => (q / n, q % n)

/-! ### what the functions promise -/
def sp_is_integer (g : GM) : DSp := fun xs S Q _ => match xs with
  | [.d d] => Plain d ∧ Q (.d (.bl (isIntD d))) S
  | _ => False
def sp_is_sequence (g : GM) : DSp := fun xs S Q _ => match xs with
  | [.d d] => Plain d ∧ Q (.d (.bl (isSeqD d))) S
  | _ => False
def sp_ordered_pair (g : GM) : DSp := fun xs S Q _ => match xs with
  | [.d (.int a), .d (.int b)] => Q (.d (.tup [.int (ordP a b).1, .int (ordP a b).2])) S
  | _ => False
def sp_is_touch (g : GM) : DSp := fun xs S Q _ => match xs with
  | [.d (.int n), .d d] => OkT d ∧ Q (.d (.bl (isTouchB n d))) S
  | _ => False
def sp_ordered_touches (g : GM) : DSp := fun xs S Q _ => match xs with
  | [.d (.int n), .d d] => S = [] ∧ 1 ≤ n ∧ n ≤ 1000000000 ∧ ∃ b ds, seqD d = some (b, ds) ∧ ds.length ≤ 100000 ∧ (∀ e ∈ ds, OkT e ∧ isTouchB n e = true) ∧ Q (.d (.tup (PD (normT n ds)))) []
  | _ => False
def sp_ascending (g : GM) : DSp := fun xs S Q _ => match xs with
  | [.d d] => S = [] ∧ ∃ cs, walkD d = some (ID cs) ∧ cs.length ≤ 1000000 ∧ ∀ ys : List Int, ys.Pairwise (· < ·) → (∀ x, x ∈ ys ↔ x ∈ cs) → Q (.d (.tup (ID ys))) []
  | _ => False
def sp_map_init (g : GM) : DSp := fun xs S Q _ => match xs with
  | [.h a, .d (.int n), .d d] => S = [(a, .obj g.Map [])] ∧ 1 ≤ n ∧ n ≤ 1000000000 ∧ ∃ b ds, seqD d = some (b, ds) ∧ ds.length ≤ 100000 ∧ (∀ e ∈ ds, OkT e ∧ isTouchB n e = true) ∧
      Q (.d .non) [(a, .obj g.Map [("many", .d (.int n)), ("touches", .d (.tup (PD (normT n ds))))])]
  | _ => False
def sp_check_cells (g : GM) : DSp := fun xs S Q _ => match xs with
  | [.d m, .d d] => ∃ n ts b cs, m = mapO g n ts ∧ seqD d = some (b, ID cs) ∧ (∀ c ∈ cs, 0 ≤ c ∧ c < n) ∧ Q (.d .non) S
  | _ => False
def sp_cells (g : GM) : DSp := fun xs S Q _ => match xs with
  | [.d m, .d d] => ∃ n ts b cs, m = mapO g n ts ∧ seqD d = some (b, ID cs) ∧ cs.length ≤ 1000000 ∧ (∀ c ∈ cs, 0 ≤ c ∧ c < n) ∧ Q (.d (.tup (ID (part n cs)))) S
  | _ => False
def sp_around (g : GM) : DSp := fun xs S Q _ => match xs with
  | [.d m, .d (.int c)] => ∃ n ts, m = mapO g n ts ∧ OkM n ts ∧ Q (.d (.tup (ID (around ts c)))) S
  | _ => False
def sp_beside (g : GM) : DSp := fun xs S Q _ => match xs with
  | [.d m, .d (.int c)] => ∃ n ts, m = mapO g n ts ∧ OkM n ts ∧ 0 ≤ c ∧ c < n ∧ Q (.d (.tup (ID (around ts c)))) S
  | _ => False
def sp_grown (g : GM) : DSp := fun xs S Q _ => match xs with
  | [.d m, .d d, .d (.int k)] => ∃ n ts b cs, m = mapO g n ts ∧ OkM n ts ∧ seqD d = some (b, ID cs) ∧ cs.length ≤ 1000000 ∧ (∀ c ∈ cs, 0 ≤ c ∧ c < n) ∧ 0 ≤ k ∧ k ≤ 1000000 ∧ Q (.d (.tup (ID (growN n ts k.toNat (part n cs))))) S
  | _ => False
def sp_shrunk (g : GM) : DSp := fun xs S Q _ => match xs with
  | [.d m, .d d, .d (.int k)] => ∃ n ts b cs, m = mapO g n ts ∧ OkM n ts ∧ seqD d = some (b, ID cs) ∧ cs.length ≤ 1000000 ∧ (∀ c ∈ cs, 0 ≤ c ∧ c < n) ∧ 0 ≤ k ∧ k ≤ 1000000 ∧ Q (.d (.tup (ID (rest n (growN n ts k.toNat (rest n cs)))))) S
  | _ => False
def sp_map_eq (g : GM) : DSp := fun xs S Q _ => match xs with
  | [.d m, .d m'] => ∃ n ts n' ts', m = mapO g n ts ∧ m' = mapO g n' ts' ∧ OwnC g.K g.Map ∧ Q (.d (.bl (decide (n = n' ∧ ts = ts')))) S
  | _ => False
section
variable {g : GM} (xs : List X) (S : Store) (Q : XQ) (E : Exn → Store → Prop)
theorem len_is_integer (h : sp_is_integer g xs S Q E) : xs.length = ["value"].length := by
  unfold sp_is_integer at h
  split at h
  · rfl
  · exact h.elim
theorem len_is_sequence (h : sp_is_sequence g xs S Q E) : xs.length = ["value"].length := by
  unfold sp_is_sequence at h
  split at h
  · rfl
  · exact h.elim
theorem len_ordered_pair (h : sp_ordered_pair g xs S Q E) : xs.length = ["one", "other"].length := by
  unfold sp_ordered_pair at h
  split at h
  · rfl
  · exact h.elim
theorem len_is_touch (h : sp_is_touch g xs S Q E) : xs.length = ["many", "pair"].length := by
  unfold sp_is_touch at h
  split at h
  · rfl
  · exact h.elim
theorem len_ordered_touches (h : sp_ordered_touches g xs S Q E) : xs.length = ["many", "touches"].length := by
  unfold sp_ordered_touches at h
  split at h
  · rfl
  · exact h.elim
theorem len_ascending (h : sp_ascending g xs S Q E) : xs.length = ["cells"].length := by
  unfold sp_ascending at h
  split at h
  · rfl
  · exact h.elim
theorem len_map_init (h : sp_map_init g xs S Q E) : xs.length = ["self", "many", "touches"].length := by
  unfold sp_map_init at h
  split at h
  · rfl
  · exact h.elim
theorem len_check_cells (h : sp_check_cells g xs S Q E) : xs.length = ["self", "cells"].length := by
  unfold sp_check_cells at h
  split at h
  · rfl
  · exact h.elim
theorem len_cells (h : sp_cells g xs S Q E) : xs.length = ["self", "cells"].length := by
  unfold sp_cells at h
  split at h
  · rfl
  · exact h.elim
theorem len_around (h : sp_around g xs S Q E) : xs.length = ["self", "cell"].length := by
  unfold sp_around at h
  split at h
  · rfl
  · exact h.elim
theorem len_beside (h : sp_beside g xs S Q E) : xs.length = ["self", "cell"].length := by
  unfold sp_beside at h
  split at h
  · rfl
  · exact h.elim
theorem len_grown (h : sp_grown g xs S Q E) : xs.length = ["self", "cells", "many"].length := by
  unfold sp_grown at h
  split at h
  · rfl
  · exact h.elim
theorem len_shrunk (h : sp_shrunk g xs S Q E) : xs.length = ["self", "cells", "many"].length := by
  unfold sp_shrunk at h
  split at h
  · rfl
  · exact h.elim
theorem len_map_eq (h : sp_map_eq g xs S Q E) : xs.length = ["self", "other"].length := by
  unfold sp_map_eq at h
  split at h
  · rfl
  · exact h.elim
end
end DP

set_option Elab.async false
set_option linter.all false
set_option maxRecDepth 100000
set_option maxHeartbeats 1000000
namespace DP
open PySem PySem.Spec PyProof.Rows L2
open Evl (Ex ex_l ex_t ex_rd fresh_back)
/-! ### the readings of the package's functions on maps (printed by the generator) -/
/-- is_integer -/
def w_is_integer (g : GM) : WS := (wRet (wAndV (wCB (dIsi g.K) (wCons (wVar 0) (wCons (wC (.ty "int")) wNil))) (wNotV (wCB (dIsi g.K) (wCons (wVar 0) (wCons (wC (.ty "bool")) wNil))))))
/-- is_sequence -/
def w_is_sequence (g : GM) : WS := (wRet (wIsiT g.K (wVar 0) (wCons (wC (.ty "list")) (wCons (wC (.ty "tuple")) wNil))))
/-- ordered_pair -/
def w_ordered_pair (g : GM) : WS := (wRet (wIf (wTest (wOp dLt (wVar 0) (wVar 1))) (wTup (wCons (wVar 0) (wCons (wVar 1) wNil))) (wTup (wCons (wVar 1) (wCons (wVar 0) wNil)))))
/-- is_touch -/
def w_is_touch (g : GM) : WS := (wSeq (wIfS (wOr (wNot (wTest (wCall (sp_is_sequence g) [] [] (wCons (wVar 1) wNil)))) (wTest (wOp dNe (wCB dLen (wCons (wVar 1) wNil)) (wC (.int 2))))) (wRet (wC (.bl false))) wNext)
  (wRet (wAndV (wCB dAll (wCons (wFz (wLc (wISeq (wVar 1)) (dName 2) wYes (wAndV (wCall (sp_is_integer g) [] [] (wCons (wVar 2) wNil)) (wChain dLe dLt (wC (.int 0)) (wVar 2) (wVar 0))) [2])) wNil)) (wOp dNe (wOp dIx (wVar 1) (wC (.int 0))) (wOp dIx (wVar 1) (wC (.int 1)))))))
/-- ordered_touches -/
def w_ordered_touches (g : GM) : WS := (wSeq (wIfS (wNot (wTest (wCall (sp_is_sequence g) [] [] (wCons (wVar 1) wNil)))) wNever wNext)
  (wSeq (wAsg wDNew (dName 2))
  (wSeq (wFor (wISeq (wVar 1)) (dName 3)
  (wSeq (wIfS (wNot (wTest (wCall (sp_is_touch g) [] [] (wCons (wVar 0) (wCons (wVar 3) wNil))))) wNever wNext)
  (wSeq (wAsg (wCall (sp_ordered_pair g) [] [] (wCons (wOp dIx (wVar 3) (wC (.int 0))) (wCons (wOp dIx (wVar 3) (wC (.int 1))) wNil))) (dTup 2 (dCons (dName 4) (dCons (dName 5) dNil))))
  (wDPut (wVar 2) (wCB dInt (wCons (wOp dAdd (wOp dMul (wVar 4) (wVar 0)) (wVar 5)) wNil)) (wC (.bl true))))))
  (wFreezeD 2 (wForget 0 (wRet (wCB dTupleOf (wCons (wFz (wLc (wISeq (wFz (wCB dSortedI (wCons (wFz (wLc (wIK (wVar 2)) (dName 6) wYes (wCB dInt (wCons (wVar 6) wNil)) [6])) wNil)))) (dName 6) wYes (wTup (wCons (wOp dFdiv (wVar 6) (wVar 0)) (wCons (wOp dMod (wCB dInt (wCons (wVar 6) wNil)) (wVar 0)) wNil))) [6])) wNil))))))))
/-- ascending -/
def w_ascending (g : GM) : WS := (wSeq (wAsg (wDc (wIAny (wVar 0)) (dName 2) wYes (wCB dInt (wCons (wVar 2) wNil)) (wC (.bl true)) [2]) (dName 1))
  (wFreezeD 1 (wForget 0 (wRet (wCB dTupleOf (wCons (wFz (wCB dSortedI (wCons (wFz (wLc (wIK (wVar 1)) (dName 2) wYes (wCB dInt (wCons (wVar 2) wNil)) [2])) wNil))) wNil))))))
/-- Map.__init__ -/
def w_map_init (g : GM) : WS := (wSeq (wIfS (wOr (wNot (wTest (wCall (sp_is_integer g) [] [] (wCons (wVar 1) wNil)))) (wTest (wOp dLt (wVar 1) (wC (.int 1))))) wNever wNext)
  (wSeq (wSFld g.Map "many" (wVar 1) (wVar 0))
  (wSFld g.Map "touches" (wCall (sp_ordered_touches g) [] [] (wCons (wVar 1) (wCons (wVar 2) wNil))) (wVar 0))))
/-- Map.check_cells -/
def w_check_cells (g : GM) : WS := (wFor (wISeq (wVar 1)) (dName 2)
  (wIfS (wNot (wTest (wChain dLe dLt (wC (.int 0)) (wVar 2) (wFld g.Map "many" (wVar 0))))) wNever wNext))
/-- Map.cells -/
def w_cells (g : GM) : WS := (wSeq (wDrop (wMeth g.Map "check_cells" (sp_check_cells g) [] [] (wVar 0) (wCons (wVar 1) wNil)))
  (wRet (wCall (sp_ascending g) [] [] (wCons (wVar 1) wNil))))
/-- Map.around -/
def w_around (g : GM) : WS := (wSeq (wAsg (wFz (wLc (wISeq (wFld g.Map "touches" (wVar 0))) (dTup 2 (dCons (dName 3) (dCons (dName 4) dNil))) (wTest (wOp dEq (wVar 3) (wVar 1))) (wVar 4) [3, 4])) (dName 2))
  (wRet (wCB dTupleOf (wCons (wFz (wOp dCat (wFz (wLc (wISeq (wFld g.Map "touches" (wVar 0))) (dTup 2 (dCons (dName 3) (dCons (dName 4) dNil))) (wTest (wOp dEq (wVar 4) (wVar 1))) (wVar 3) [3, 4])) (wVar 2))) wNil))))
/-- Map.beside -/
def w_beside (g : GM) : WS := (wSeq (wDrop (wMeth g.Map "check_cells" (sp_check_cells g) [] [] (wVar 0) (wCons (wTup (wCons (wVar 1) wNil)) wNil)))
  (wRet (wMeth g.Map "around" (sp_around g) [] [] (wVar 0) (wCons (wVar 1) wNil))))
/-- Map.grown -/
def w_grown (g : GM) : WS := (wSeq (wAsg (wMeth g.Map "cells" (sp_cells g) [] [] (wVar 0) (wCons (wVar 1) wNil)) (dName 3))
  (wSeq (wFor (wIR1 (wCons (wVar 2) wNil)) (dName 4)
  (wSeq (wAsg (wFz (wLc2 (wISeq (wVar 3)) (dName 6) wYes (wISeq (wMeth g.Map "around" (sp_around g) [] [] (wVar 0) (wCons (wVar 6) wNil))) (dName 7) wYes (wVar 7) [6, 7] [7])) (dName 5))
  (wAsg (wCall (sp_ascending g) [] [] (wCons (wFz (wLst (wStar (wVar 3) (wStar (wVar 5) wNil)))) wNil)) (dName 3))))
  (wRet (wVar 3))))
/-- Map.shrunk -/
def w_shrunk (g : GM) : WS := (wSeq (wDrop (wMeth g.Map "check_cells" (sp_check_cells g) [] [] (wVar 0) (wCons (wVar 1) wNil)))
  (wSeq (wAsg (wFz (wLc (wIR1 (wCons (wFld g.Map "many" (wVar 0)) wNil)) (dName 5) (wTest (wOp (dIn true) (wVar 5) (wVar 1))) (wVar 5) [5])) (dName 3))
  (wSeq (wAsg (wMeth g.Map "grown" (sp_grown g) [] [] (wVar 0) (wCons (wVar 3) (wCons (wVar 2) wNil))) (dName 4))
  (wRet (wCB dTupleOf (wCons (wFz (wLc (wIR1 (wCons (wFld g.Map "many" (wVar 0)) wNil)) (dName 5) (wTest (wOp (dIn true) (wVar 5) (wVar 4))) (wVar 5) [5])) wNil))))))
/-- Map.__eq__ -/
def w_map_eq (g : GM) : WS := (wRet (wAndV (wCB (dIsi g.K) (wCons (wVar 1) (wCons (wC (.glob g.Map)) wNil))) (wAndV (wOp dEq (wFld g.Map "many" (wVar 0)) (wFld g.Map "many" (wVar 1))) (wOp dEq (wFld g.Map "touches" (wVar 0)) (wFld g.Map "touches" (wVar 1))))))
end DP

set_option Elab.async false
set_option linter.all false
set_option maxRecDepth 100000
set_option maxHeartbeats 1000000
namespace DP
open PySem PySem.Spec PyProof.Rows L2
open Evl (Ex ex_l ex_t ex_rd fresh_back)

theorem tyD_plain {K : PySem.W.Frag} {S : Store} {d : D} {k : Value → Prop} (h : Plain d) (q : ∀ n, tyD d = some n → k (.type n)) : TyD K S (.d d) k := by
  unfold Plain at h
  cases d <;> first | (cases h; done) | exact q _ rfl
theorem tyD_names {d : D} {n : String} (h : tyD d = some n) : n = "NoneType" ∨ n = "bool" ∨ n = "int" ∨ n = "str" ∨ n = "tuple" ∨ n = "list" ∨ n = "dict" := by
  cases d <;> simp [tyD] at h <;> subst h <;> simp
theorem hw_is_integer (g : GM) (xs : List X) (S : Store) (Q : XQ) (E : Exn → Store → Prop) (h : sp_is_integer g xs S Q E) : w_is_integer g { nx := fun _ S' => Q (.d .non) S', rt := Q } (startD ["value"] xs) S (fun _ _ _ => False) := by
  unfold sp_is_integer at h
  split at h
  · rename_i d
    obtain ⟨hp, hq⟩ := h
    unfold w_is_integer
    simp only [x_ret, x_andV, x_notV, x_cb, x_cons, x_nil, x_var, x_c, x_start2, x_start0, List.getElem?_cons_zero]
    cases d <;> first | (cases hp; done) | skip
    all_goals first
      | exact ⟨.type "int", false, rfl, rfl, hq⟩
      | exact ⟨.type "int", true, rfl, rfl, .type "bool", true, rfl, rfl, hq⟩
      | exact ⟨.type "int", true, rfl, rfl, .type "bool", false, rfl, rfl, hq⟩
  · exact h.elim
theorem hw_is_sequence (g : GM) (xs : List X) (S : Store) (Q : XQ) (E : Exn → Store → Prop) (h : sp_is_sequence g xs S Q E) : w_is_sequence g { nx := fun _ S' => Q (.d .non) S', rt := Q } (startD ["value"] xs) S (fun _ _ _ => False) := by
  unfold sp_is_sequence at h
  split at h
  · rename_i d
    obtain ⟨hp, hq⟩ := h
    unfold w_is_sequence
    cases d <;> first | (cases hp; done) | skip
    all_goals first
      | exact ⟨by show 2 ≤ sizeLine; decide, [.type "list", .type "tuple"], false, rfl, rfl, hq⟩
      | exact ⟨by show 2 ≤ sizeLine; decide, [.type "list", .type "tuple"], true, rfl, rfl, hq⟩
  · exact h.elim
theorem hw_ordered_pair (g : GM) (xs : List X) (S : Store) (Q : XQ) (E : Exn → Store → Prop) (h : sp_ordered_pair g xs S Q E) : w_ordered_pair g { nx := fun _ S' => Q (.d .non) S', rt := Q } (startD ["one", "other"] xs) S (fun _ _ _ => False) := by
  unfold sp_ordered_pair at h
  split at h
  · rename_i a b
    unfold w_ordered_pair
    simp
    by_cases hab : a < b
    · simp [hab]
      simp [ordP, hab] at h
      exact ⟨by decide, h⟩
    · simp [hab]
      simp [ordP, hab] at h
      exact ⟨by decide, h⟩
  · exact h.elim
end DP

set_option Elab.async false
set_option linter.all false
set_option maxRecDepth 100000
set_option maxHeartbeats 1000000
namespace DP
open PySem PySem.Spec PyProof.Rows L2
open Evl (Ex ex_l ex_t ex_rd fresh_back)

theorem seqD_not {d : D} (h : seqD d = none) : isSeqD d = false := by cases d <;> first | rfl | cases h
theorem seqD_yes {d : D} {b ds} (h : seqD d = some (b, ds)) : isSeqD d = true ∧ Plain d := by cases d <;> first | exact ⟨rfl, rfl⟩ | cases h
theorem ix_seq {d : D} {b : Bool} {ds : List D} {S : Store} {Q : XQ} {i : Int} (h : seqD d = some (b, ds)) : dIx (.d d) (.d (.int i)) S Q = ∃ e, atI (ds.map X.d) i = some e ∧ Q e S := by
  cases d <;> first | (cases h; done) | skip
  all_goals (cases h; rfl)
theorem len_seq {d : D} {b : Bool} {ds : List D} {S : Store} {Q : XQ} (h : seqD d = some (b, ds)) : dLen [.d d] S Q = Q (.d (.int ds.length)) S := by
  cases d <;> first | (cases h; done) | skip
  all_goals (cases h; simp)
theorem isT_none {n : Int} {d : D} (h : seqD d = none) : isTouchB n d = false := by unfold isTouchB; rw [h]
theorem isT_two {n : Int} {d : D} {b : Bool} {x y : D} (h : seqD d = some (b, [x, y])) : isTouchB n d = (inR n x && inR n y && match x, y with | .int a, .int c => !decide (a = c) | _, _ => true) := by
  unfold isTouchB; simp only [h]
  cases x <;> cases y <;> simp [inR]
theorem isT_len {n : Int} {d : D} {b : Bool} {ds : List D} (h : seqD d = some (b, ds)) (hl : ds.length ≠ 2) : isTouchB n d = false := by
  unfold isTouchB; rw [h]
  split
  · rename_i e; cases e; exact absurd rfl hl
  · rfl
theorem hw_is_touch (g : GM) (xs : List X) (S : Store) (Q : XQ) (E : Exn → Store → Prop) (h : sp_is_touch g xs S Q E) : w_is_touch g { nx := fun _ S' => Q (.d .non) S', rt := Q } (startD ["many", "pair", "cell"] xs) S (fun _ _ _ => False) := by
  unfold sp_is_touch at h
  split at h
  · rename_i n d
    obtain ⟨⟨hp, he⟩, hq⟩ := h
    unfold w_is_touch
    simp
    refine callP fun Q' E' hQ => ⟨hp, hQ _ ?_⟩
    cases hs : seqD d with
    | none =>
      rw [seqD_not hs]
      rw [isT_none hs] at hq
      simpa using hq
    | some bd =>
      obtain ⟨b, ds⟩ := bd
      rw [(seqD_yes hs).1]
      simp [len_seq hs, ix_seq hs]
      by_cases hl : ds.length = 2
      · match ds, hl with
        | [x, y], _ =>
          simp
          intro ad
          have hx : Plain x := he _ _ hs x (by simp)
          have hy : Plain y := he _ _ hs y (by simp)
          refine lcz (S0 := S) (fun d : D => X.d d) (fun _ => true) (fun d => .bl (inR n d)) [x, y] (by show 2 ≤ sizeLine; decide) ?_ ?_ ad
          · intro a ha S K Kf hc h1 hk
            have hpa : Plain a := by
              rcases List.mem_cons.mp ha with rfl | ha
              · exact hx
              · rcases List.mem_cons.mp ha with rfl | ha
                · exact hy
                · cases ha
            simp
            refine callP fun Q' E' hQ => ⟨hpa, hQ _ ?_⟩
            replace h1 := h1 rfl
            clear hk hc
            cases a <;> simp [isIntD]
            case int c =>
              by_cases h0 : 0 ≤ c
              · simp [h0]; simpa [inR, h0] using h1
              · simp [h0]; simpa [inR, h0] using h1
            all_goals simpa [inR] using h1
          · refine ⟨[inR n x, inR n y], rfl, ?_⟩
            have e := isT_two (n := n) hs
            rw [e] at hq
            cases e1 : inR n x
            · rw [e1] at hq; simpa using hq
            · cases e2 : inR n y
              · rw [e1, e2] at hq; simpa using hq
              · rw [e1, e2] at hq
                simp
                cases x <;> simp [inR] at e1
                cases y <;> simp [inR] at e2
                rename_i a c
                refine ⟨_, rfl, _, rfl, ?_⟩
                simpa using hq
      · rw [isT_len hs hl] at hq
        have : ¬ ((ds.length : Int) = 2) := by omega
        simpa [this] using hq
  · exact h.elim
end DP

set_option Elab.async false
set_option linter.all false
set_option maxRecDepth 100000
set_option maxHeartbeats 1000000
namespace DP
open PySem PySem.Spec PyProof.Rows L2
open Evl (Ex ex_l ex_t ex_rd fresh_back)

theorem mulw {i j : Int} (h1 : i.natAbs < 2 ^ 100) (h2 : j.natAbs < 2 ^ 100) : CMulW i j := by
  have a : ∀ x : Nat, x < 2 ^ 100 → x.log2 < 100 := fun x h => by
    by_cases hz : x = 0
    · subst hz; decide
    · exact (Nat.log2_lt hz).mpr h
  unfold CMulW
  have := a _ h1; have := a _ h2
  omega
theorem kvT_keys (ks : List Int) : (kvT ks).map (fun kv => X.d (kD kv.1)) = IX ks := by
  unfold kvT IX; rw [List.map_map]; rfl
theorem kvT_len (ks : List Int) : (kvT ks).length = ks.length := by unfold kvT; rw [List.length_map]
theorem hw_ascending (g : GM) (xs : List X) (S : Store) (Q : XQ) (E : Exn → Store → Prop) (h : sp_ascending g xs S Q E) : w_ascending g { nx := fun _ S' => Q (.d .non) S', rt := Q } (startD ["cells", "known", "cell"] xs) S (fun _ _ _ => False) := by
  unfold sp_ascending at h
  split at h
  · rename_i d
    obtain ⟨rfl, cs, hs, hl, hq⟩ := h
    unfold w_ascending
    simp [hs]
    intro p
    have hsz : sizeLine = 16777216 := rfl
    refine dcD_T (S0 := []) cs (by omega) (fun a ha S' K Kf hc hK => by simpa using hK) p ?_
    simp
    refine ⟨0, kvT (cs.foldl addK []), by simp, ?_⟩
    rw [kvT_keys]
    have hn : (cs.foldl addK []).Nodup := fold_nodup List.nodup_nil
    have hm : ∀ x, x ∈ cs.foldl addK [] ↔ x ∈ cs := fun x => by rw [mem_fold]; simp
    have hlen : (cs.foldl addK []).length ≤ cs.length := by have := fold_len (l := cs) (ks := []); simpa using this
    intro q
    refine lcz (S0 := []) (fun n : Int => X.d (.int n)) (fun _ => true) (fun n => .int n) (cs.foldl addK []) (by omega) ?_ ?_ q
    · intro a ha S' K Kf hc h1 hk
      simpa using h1 rfl
    rw [filter_yes]
    refine q_sorted hn fun ns h1 h2 _ => ?_
    simp
    exact hq ns h1 fun x => (h2 x).trans (hm x)
  · exact h.elim

theorem hw_check_cells {EE : XR} (g : GM) (xs : List X) (S : Store) (Q : XQ) (E : Exn → Store → Prop) (h : sp_check_cells g xs S Q E) : w_check_cells g { nx := fun _ S' => Q (.d .non) S', rt := Q } (startD ["self", "cells", "cell"] xs) S EE := by
  unfold sp_check_cells at h
  split at h
  · rename_i m d
    obtain ⟨n, ts, b, cs, rfl, hs, hr, hq⟩ := h
    unfold w_check_cells
    simp [hs]
    suffices hh : ∀ (cs : List Int) (o : Option X), (∀ c ∈ cs, 0 ≤ c ∧ c < n) → loopD (dName 2) (wIfS (wNot (wTest (wChain dLe dLt (wC (.int 0)) (wVar 2) (wFld g.Map "many" (wVar 0))))) wNever wNext) ⟨fun _ S' => Q (.d .non) S', Q, fun _ _ => False, fun _ _ => False⟩ EE (IX cs) [some (.d (mapO g n ts)), some (.d d), o] S from hh cs none hr
    intro cs
    induction cs with
    | nil => intro o _; exact hq
    | cons c cs ih =>
      intro o hr
      obtain ⟨h0, h1⟩ := hr c List.mem_cons_self
      show loopD _ _ _ _ (.d (.int c) :: IX cs) _ _
      rw [loop_cons]
      simp [h0]
      refine ⟨rfl, .int n, rfl, ?_⟩
      simp [h1]
      exact ih _ fun c hc => hr c (List.mem_cons_of_mem _ hc)
  · exact h.elim
theorem objAt_map {g : GM} {n : Int} {ts : List (Int × Int)} {S : Store} {m : Str} (h1 : ((m : Str) == "many") = false := by decide) (h2 : ((m : Str) == "touches") = false := by decide) : objAt (.d (mapO g n ts)) S g.Map m := by
  refine ⟨rfl, ?_⟩
  rw [List.lookup_cons, h1, List.lookup_cons, h2]
  rfl
theorem hw_cells {EE : XR} (g : GM) (xs : List X) (S : Store) (Q : XQ) (E : Exn → Store → Prop) (h : sp_cells g xs S Q E) : w_cells g { nx := fun _ S' => Q (.d .non) S', rt := Q } (startD ["self", "cells"] xs) S EE := by
  unfold sp_cells at h
  split at h
  · rename_i m d
    obtain ⟨n, ts, b, cs, rfl, hs, hl, hr, hq⟩ := h
    unfold w_cells
    simp
    refine ⟨objAt_map, callP fun Q' E' hQ => ⟨n, ts, b, cs, rfl, hs, hr, hQ _ ?_⟩⟩
    refine callP fun Q' E' hQ => ⟨rfl, cs, walk_seq hs, hl, fun ys h1 h2 => hQ _ ?_⟩
    have e : ys = part n cs := by
      refine (asc_part h1 fun x hx => hr x ((h2 x).mp hx)).trans ?_
      unfold part
      exact List.filter_congr fun x _ => decide_eq_decide.mpr (h2 x)
    rw [e]; exact hq
  · exact h.elim
theorem hw_beside {EE : XR} (g : GM) (xs : List X) (S : Store) (Q : XQ) (E : Exn → Store → Prop) (h : sp_beside g xs S Q E) : w_beside g { nx := fun _ S' => Q (.d .non) S', rt := Q } (startD ["self", "cell"] xs) S EE := by
  unfold sp_beside at h
  split at h
  · rename_i m c
    obtain ⟨n, ts, rfl, ok, h0, h1, hq⟩ := h
    unfold w_beside
    simp
    refine ⟨objAt_map, by decide, callP fun Q' E' hQ => ⟨n, ts, true, [c], rfl, rfl, by simpa using ⟨h0, h1⟩, hQ _ ?_⟩⟩
    exact ⟨objAt_map, callP fun Q' E' hQ => ⟨n, ts, rfl, ok, hQ _ hq⟩⟩
  · exact h.elim
theorem hw_map_eq (g : GM) (xs : List X) (S : Store) (Q : XQ) (E : Exn → Store → Prop) (h : sp_map_eq g xs S Q E) : w_map_eq g { nx := fun _ S' => Q (.d .non) S', rt := Q } (startD ["self", "other"] xs) S (fun _ _ _ => False) := by
  unfold sp_map_eq at h
  split at h
  · rename_i m m'
    obtain ⟨n, ts, n', ts', rfl, rfl, ow, hq⟩ := h
    unfold w_map_eq
    simp
    refine ⟨ow, .ref g.Map, true, rfl, by unfold PySem.W.kitOne; simp, ?_⟩
    simp
    refine ⟨rfl, .int n, rfl, rfl, .int n', rfl, ?_⟩
    simp
    by_cases e : n = n'
    · simp [e]
      refine ⟨rfl, .tup (PD ts), rfl, rfl, .tup (PD ts'), rfl, q_pt ?_⟩
      simpa [e] using hq
    · simp [e]
      simpa [e] using hq
  · exact h.elim
end DP

set_option Elab.async false
set_option linter.all false
set_option maxRecDepth 100000
set_option maxHeartbeats 1000000
namespace DP
open PySem PySem.Spec PyProof.Rows L2
open Evl (Ex ex_l ex_t ex_rd fresh_back)

@[simp] theorem growN0 {n : Int} {ts : List (Int × Int)} {ys : List Int} : growN n ts 0 ys = ys := rfl
@[simp] theorem growN1 {n : Int} {ts : List (Int × Int)} {k : Nat} {ys : List Int} : growN n ts (k + 1) ys = growN n ts k (grow n ts ys) := rfl
def PX (ts : List (Int × Int)) : List X := ts.map fun p => X.d (.tup [.int p.1, .int p.2])
@[simp] theorem PX_eq (ts : List (Int × Int)) : (PD ts).map X.d = PX ts := by unfold PD PX; rw [List.map_map]; rfl
theorem around_len {ts : List (Int × Int)} {c : Int} : (around ts c).length ≤ 2 * ts.length := by
  unfold around
  rw [List.length_append, List.length_map, List.length_map]
  have := List.length_filter_le (fun p : Int × Int => decide (p.2 = c)) ts
  have := List.length_filter_le (fun p : Int × Int => decide (p.1 = c)) ts
  omega
theorem hw_around {EE : XR} (g : GM) (xs : List X) (S : Store) (Q : XQ) (E : Exn → Store → Prop) (h : sp_around g xs S Q E) : w_around g { nx := fun _ S' => Q (.d .non) S', rt := Q } (startD ["self", "cell", "after", "one", "other"] xs) S EE := by
  unfold sp_around at h
  split at h
  · rename_i m c
    obtain ⟨n, ts, rfl, ok, hq⟩ := h
    have hsz : sizeLine = 16777216 := rfl
    have hl := ok.sz
    unfold w_around
    simp
    refine ⟨rfl, .tup (PD ts), rfl, ?_⟩
    simp
    refine lczI (fun p : Int × Int => X.d (.tup [.int p.1, .int p.2])) (fun p => decide (p.1 = c)) (fun p => p.2) ts (by omega) ?_ ?_
    · intro a ha S' K Kf hc h1 hk
      simp
      by_cases e : a.1 = c
      · simpa [e] using h1 (by simpa using e)
      · simpa [e] using hk (by simpa using e)
    have hlen := around_len (ts := ts) (c := c)
    unfold around at hlen hq
    generalize (ts.filter fun p => decide (p.1 = c)).map (fun p : Int × Int => p.2) = as at hlen hq ⊢
    refine ⟨rfl, .tup (PD ts), rfl, ?_⟩
    simp
    refine lczI (fun p : Int × Int => X.d (.tup [.int p.1, .int p.2])) (fun p => decide (p.2 = c)) (fun p => p.1) ts (by omega) ?_ ?_
    · intro a ha S' K Kf hc h1 hk
      simp
      by_cases e : a.2 = c
      · simpa [e] using h1 (by simpa using e)
      · simpa [e] using hk (by simpa using e)
    generalize (ts.filter fun p => decide (p.2 = c)).map (fun p : Int × Int => p.1) = bs at hlen hq ⊢
    rw [List.length_append] at hlen
    simp
    exact ⟨by omega, hq⟩
  · exact h.elim
theorem mem_part {n x : Int} {xs : List Int} : x ∈ part n xs ↔ (0 ≤ x ∧ x < n) ∧ x ∈ xs := by
  unfold part; rw [List.mem_filter, mem_rng]; simp
theorem mem_rest {n x : Int} {xs : List Int} : x ∈ rest n xs ↔ (0 ≤ x ∧ x < n) ∧ x ∉ xs := by
  unfold rest; rw [List.mem_filter, mem_rng]; simp
theorem part_asc (n : Int) (xs : List Int) : (part n xs).Pairwise (· < ·) := (rng_sorted n).filter _
theorem rest_asc (n : Int) (xs : List Int) : (rest n xs).Pairwise (· < ·) := (rng_sorted n).filter _
theorem part_len (n : Int) (xs : List Int) : (part n xs).length ≤ n.toNat := rng_small (p := fun x => decide (x ∈ xs)) rfl
theorem rest_len (n : Int) (xs : List Int) : (rest n xs).length ≤ n.toNat := rng_small (p := fun x => decide (x ∉ xs)) rfl
theorem part_part {n : Int} {xs ys : List Int} (h : ∀ x, 0 ≤ x → x < n → (x ∈ xs ↔ x ∈ ys)) : part n xs = part n ys := by
  unfold part
  exact List.filter_congr fun x hx => decide_eq_decide.mpr (h x (mem_rng.mp hx).1 (mem_rng.mp hx).2)
theorem around_in {n : Int} {ts : List (Int × Int)} (ok : OkM n ts) {c x : Int} (h : x ∈ around ts c) : 0 ≤ x ∧ x < n := by
  unfold around at h
  rcases List.mem_append.mp h with h | h
  · obtain ⟨p, hp, rfl⟩ := List.mem_map.mp h
    have := ok.pr p (List.mem_filter.mp hp).1; omega
  · obtain ⟨p, hp, rfl⟩ := List.mem_map.mp h
    have := ok.pr p (List.mem_filter.mp hp).1; omega
theorem flat_len {ts : List (Int × Int)} : ∀ ys : List Int, (ys.flatMap (around ts)).length ≤ ys.length * (2 * ts.length)
  | [] => by simp
  | y :: ys => by
    rw [List.flatMap_cons, List.length_append, List.length_cons, Nat.add_mul, Nat.one_mul]
    have := flat_len (ts := ts) ys
    have := around_len (ts := ts) (c := y)
    omega
theorem hw_grown {EE : XR} (g : GM) (xs : List X) (S : Store) (Q : XQ) (E : Exn → Store → Prop) (h : sp_grown g xs S Q E) : w_grown g { nx := fun _ S' => Q (.d .non) S', rt := Q } (startD ["self", "cells", "many", "found", "turn", "near", "cell", "other"] xs) S EE := by
  unfold sp_grown at h
  split at h
  · rename_i m d k
    obtain ⟨n, ts, b, cs, rfl, ok, hs, hl, hr, h0, h1, hq⟩ := h
    have hsz : sizeLine = 16777216 := rfl
    unfold w_grown
    simp
    refine ⟨objAt_map, callP fun Q' E' hQ => ⟨n, ts, b, cs, rfl, hs, hl, hr, hQ _ ?_⟩⟩
    refine ⟨by omega, by omega, ?_⟩
    have hp : ∀ ys, (∃ zs, ys = part n zs) → ys.length ≤ 64 := fun ys ⟨zs, e⟩ => by
      subst e; have := part_len n zs; have := ok.hi; omega
    generalize hys : part n cs = ys at hq ⊢
    have hz : ∃ zs, ys = part n zs := ⟨cs, hys.symm⟩
    clear hys
    rw [rgX_rng]
    have hlen : (rng k).length = k.toNat := rng_len k
    rw [← hlen] at hq
    generalize rng k = turns at hq ⊢
    clear hlen
    suffices hh : ∀ (turns ys : List Int) (o1 o2 : Option X), (∃ zs, ys = part n zs) → Q (.d (.tup (ID (growN n ts turns.length ys)))) S →
        loopD (dName 4) (wSeq (wAsg (wFz (wLc2 (wISeq (wVar 3)) (dName 6) wYes (wISeq (wMeth g.Map "around" (sp_around g) [] [] (wVar 0) (wCons (wVar 6) wNil))) (dName 7) wYes (wVar 7) [6, 7] [7])) (dName 5))
          (wAsg (wCall (sp_ascending g) [] [] (wCons (wFz (wLst (wStar (wVar 3) (wStar (wVar 5) wNil)))) wNil)) (dName 3)))
          ⟨fun δ1 S1 => wRet (wVar 3) { nx := fun _ S' => Q (.d .non) S', rt := Q } δ1 S1 EE, Q, fun _ _ => False, fun _ _ => False⟩ EE (IX turns)
          [some (.d (mapO g n ts)), some (.d d), some (.d (.int k)), some (.d (.tup (ID ys))), o1, o2, none, none] S from hh turns ys none none hz hq
    intro turns
    induction turns with
    | nil =>
      intro ys o1 o2 hz hq
      show loopD _ _ _ _ [] _ _
      rw [loop_nil]
      simpa using hq
    | cons t turns ih =>
      intro ys o1 o2 hz hq
      show loopD _ _ _ _ (.d (.int t) :: IX turns) _ _
      rw [loop_cons]
      simp
      have hy := hp ys hz
      have hfl := flat_len (ts := ts) ys
      have hfl2 : (ys.flatMap (around ts)).length ≤ 640000 := Nat.le_trans hfl (Nat.le_trans (Nat.mul_le_mul hy (Nat.mul_le_mul_left 2 ok.sz)) (by decide))
      refine lc2zI (fun c : Int => X.d (.int c)) (around ts) (fun c => [some (.d (mapO g n ts)), some (.d d), some (.d (.int k)), some (.d (.tup (ID ys))), some (.d (.int t)), o2, some (.d (.int c)), none]) (fun c : Int => X.d (.int c)) (fun c => c) ys (by omega) ?_ ?_ ?_
      · intro a ha S' K Kf hc hK
        simp
        exact ⟨objAt_map, callP fun Q' E' hQ => ⟨n, ts, rfl, ok, hQ _ (by simp; exact hK)⟩⟩
      · intro a ha b hb S' K Kf hc hK
        simpa using hK
      rw [List.map_id']
      have hfm : ∀ x, x ∈ ys.flatMap (around ts) ↔ ∃ c ∈ ys, x ∈ around ts c := fun x => List.mem_flatMap
      have hgr : grow n ts ys = part n (ys ++ ys.flatMap (around ts)) := rfl
      generalize ys.flatMap (around ts) = fl at hfl2 hfm hgr ⊢
      simp
      refine ⟨by omega, ?_⟩
      refine callP fun Q' E' hQ => ⟨rfl, _, rfl, by rw [List.length_append]; omega, fun zs h1 h2 => hQ _ ?_⟩
      have e : zs = grow n ts ys := by
        have hin : ∀ x ∈ zs, 0 ≤ x ∧ x < n := fun x hx => by
          rcases List.mem_append.mp ((h2 x).mp hx) with hx | hx
          · obtain ⟨ws, rfl⟩ := hz
            exact (mem_part.mp hx).1
          · obtain ⟨c, _, hx⟩ := (hfm x).mp hx
            exact around_in ok hx
        refine (asc_part h1 hin).trans ?_
        rw [hgr]
        unfold part
        exact List.filter_congr fun x _ => decide_eq_decide.mpr (h2 x)
      rw [e]
      exact ih (grow n ts ys) _ _ ⟨_, rfl⟩ hq
  · exact h.elim
theorem hw_shrunk {EE : XR} (g : GM) (xs : List X) (S : Store) (Q : XQ) (E : Exn → Store → Prop) (h : sp_shrunk g xs S Q E) : w_shrunk g { nx := fun _ S' => Q (.d .non) S', rt := Q } (startD ["self", "cells", "many", "others", "gone", "cell"] xs) S EE := by
  unfold sp_shrunk at h
  split at h
  · rename_i m d k
    obtain ⟨n, ts, b, cs, rfl, ok, hs, hl, hr, h0, h1, hq⟩ := h
    have hsz : sizeLine = 16777216 := rfl
    have hn := ok.hi
    have hn1 := ok.lo
    unfold w_shrunk
    simp
    refine ⟨objAt_map, callP fun Q' E' hQ => ⟨n, ts, b, cs, rfl, hs, hr, hQ _ ?_⟩⟩
    refine ⟨rfl, .int n, rfl, ?_⟩
    simp
    refine ⟨by omega, by omega, ?_⟩
    rw [rgX_rng]
    intro p
    refine lczI (fun n : Int => X.d (.int n)) (fun x => decide (x ∉ cs)) (fun n => n) (rng n) (by rw [rng_len]; omega) ?_ ?_ p
    · intro a ha S' K Kf hc h1 hk
      simp
      refine q_notInI hs ?_
      by_cases e : a ∈ cs
      · simpa [e] using hk (by simpa using e)
      · simpa [e] using h1 (by simpa using e)
    rw [List.map_id']
    have hre : (rng n).filter (fun x => decide (x ∉ cs)) = rest n cs := rfl
    rw [hre]
    refine ⟨objAt_map, callP fun Q' E' hQ => ⟨n, ts, false, rest n cs, rfl, ok, rfl, by have := rest_len n cs; omega, fun c hc => (mem_rest.mp hc).1, h0, h1, hQ _ ?_⟩⟩
    have e2 : part n (rest n cs) = rest n cs := ((asc_part (rest_asc n cs) fun x hx => (mem_rest.mp hx).1).trans rfl).symm
    rw [e2]
    refine ⟨rfl, .int n, rfl, ?_⟩
    simp
    refine ⟨by omega, by omega, ?_⟩
    rw [rgX_rng]
    intro p
    refine lczI (fun n : Int => X.d (.int n)) (fun x => decide (x ∉ growN n ts k.toNat (rest n cs))) (fun n => n) (rng n) (by rw [rng_len]; omega) ?_ ?_ p
    · intro a ha S' K Kf hc h1 hk
      simp
      refine q_notInI (b := true) (zs := growN n ts k.toNat (rest n cs)) rfl ?_
      by_cases e : a ∈ growN n ts k.toNat (rest n cs)
      · simpa [e] using hk (by simpa using e)
      · simpa [e] using h1 (by simpa using e)
    rw [List.map_id']
    have hre2 : (rng n).filter (fun x => decide (x ∉ growN n ts k.toNat (rest n cs))) = rest n (growN n ts k.toNat (rest n cs)) := rfl
    rw [hre2]
    simp
    exact hq
  · exact h.elim
end DP

set_option Elab.async false
set_option linter.all false
set_option maxRecDepth 100000
set_option maxHeartbeats 1000000
namespace DP
open PySem PySem.Spec PyProof.Rows L2
open Evl (Ex ex_l ex_t ex_rd fresh_back)

theorem touch_form {n : Int} {e : D} (h : isTouchB n e = true) : ∃ b x y, seqD e = some (b, [.int x, .int y]) ∧ 0 ≤ x ∧ x < n ∧ 0 ≤ y ∧ y < n ∧ x ≠ y := by
  unfold isTouchB at h
  split at h
  · rename_i b x y hs
    simp at h
    exact ⟨b, x, y, hs, by omega, by omega, by omega, by omega, h.2⟩
  · cases h
theorem ordP_in {n x y : Int} (h1 : 0 ≤ x) (h2 : x < n) (h3 : 0 ≤ y) (h4 : y < n) (h5 : x ≠ y) : 0 ≤ (ordP x y).1 ∧ (ordP x y).1 < (ordP x y).2 ∧ (ordP x y).2 < n := by
  unfold ordP
  split <;> simp <;> omega
theorem code_lt {n a b : Int} (h1 : 0 ≤ a) (h2 : a < n) (h3 : 0 ≤ b) (h4 : b < n) : 0 ≤ a * n + b ∧ a * n + b < n * n := by
  have h := Int.mul_nonneg h1 (by omega : (0:Int) ≤ n)
  have h' : (a + 1) * n ≤ n * n := Int.mul_le_mul_of_nonneg_right (by omega) (by omega)
  rw [Int.add_mul, Int.one_mul] at h'
  omega
theorem code_div {n a b : Int} (h3 : 0 ≤ b) (h4 : b < n) : (a * n + b) / n = a ∧ (a * n + b) % n = b := by
  have hn : n ≠ 0 := by omega
  constructor
  · rw [Int.add_comm, Int.add_mul_ediv_right _ _ hn, Int.ediv_eq_zero_of_lt h3 h4]; omega
  · rw [Int.add_comm, Int.add_mul_emod_self_right, Int.emod_eq_of_lt h3 h4]
theorem pairOf_seq {e : D} {b : Bool} {x y : Int} (h : seqD e = some (b, [.int x, .int y])) : pairOf e = ordP x y := by
  unfold pairOf; rw [h]
theorem codeD_in {n : Int} {e : D} (h : isTouchB n e = true) : 0 ≤ codeD n e ∧ codeD n e < n * n ∧ codeD n e / n = (pairOf e).1 ∧ codeD n e % n = (pairOf e).2 ∧ 0 ≤ (pairOf e).1 ∧ (pairOf e).1 < (pairOf e).2 ∧ (pairOf e).2 < n := by
  obtain ⟨b, x, y, hs, h1, h2, h3, h4, h5⟩ := touch_form h
  have hp := pairOf_seq hs
  obtain ⟨a1, a2, a3⟩ := ordP_in h1 h2 h3 h4 h5
  rw [← hp] at a1 a2 a3
  unfold codeD
  obtain ⟨c1, c2⟩ := code_lt (n := n) a1 (by omega) (by omega : 0 ≤ (pairOf e).2) a3
  obtain ⟨d1, d2⟩ := code_div (n := n) (a := (pairOf e).1) (by omega : 0 ≤ (pairOf e).2) a3
  exact ⟨c1, c2, d1, d2, a1, a2, a3⟩
/-- what stands in the touches -/
theorem mem_normT {n : Int} {ds : List D} (h : ∀ e ∈ ds, isTouchB n e = true) (p : Int × Int) : p ∈ normT n ds ↔ ∃ e ∈ ds, pairOf e = p := by
  unfold normT
  rw [List.mem_map]
  constructor
  · rintro ⟨q, hq, rfl⟩
    rw [List.mem_filter] at hq
    simp at hq
    obtain ⟨_, e, he, rfl⟩ := hq
    obtain ⟨c1, c2, d1, d2, _⟩ := codeD_in (h e he)
    exact ⟨e, he, by rw [d1, d2]⟩
  · rintro ⟨e, he, rfl⟩
    obtain ⟨c1, c2, d1, d2, _⟩ := codeD_in (h e he)
    refine ⟨codeD n e, ?_, by rw [d1, d2]⟩
    rw [List.mem_filter]
    simp
    exact ⟨mem_rng.mpr ⟨c1, c2⟩, e, he, rfl⟩
theorem normT_len (n : Int) (ds : List D) (h0 : 1 ≤ n) (h : n ≤ 64) : (normT n ds).length ≤ 4096 := by
  unfold normT
  rw [List.length_map]
  have h1 : ((rng (n * n)).filter fun q => decide (q ∈ ds.map (codeD n))).length ≤ (n * n).toNat := rng_small rfl
  have h2 : n * n ≤ 64 * 64 := Int.mul_le_mul h h (by omega) (by omega)
  omega
theorem okM_normT {n : Int} {ds : List D} (h0 : 1 ≤ n) (h1 : n ≤ 64) (h : ∀ e ∈ ds, isTouchB n e = true) : OkM n (normT n ds) := ⟨h0, h1, fun p hp => by
  obtain ⟨e, he, rfl⟩ := (mem_normT h p).mp hp
  obtain ⟨_, _, _, _, a1, a2, a3⟩ := codeD_in (h e he)
  exact ⟨a1, a2, a3⟩, Nat.le_trans (normT_len n ds h0 h1) (by decide)⟩
theorem hw_ordered_touches (g : GM) (xs : List X) (S : Store) (Q : XQ) (E : Exn → Store → Prop) (h : sp_ordered_touches g xs S Q E) : w_ordered_touches g { nx := fun _ S' => Q (.d .non) S', rt := Q } (startD ["many", "touches", "found", "pair", "one", "other", "place"] xs) S (fun _ _ _ => False) := by
  unfold sp_ordered_touches at h
  split at h
  · rename_i n d
    obtain ⟨rfl, hn1, hn2, b, ds, hs, hl, ht, hq⟩ := h
    have hsz : sizeLine = 16777216 := rfl
    unfold w_ordered_touches
    simp
    refine callP fun Q' E' hQ => ⟨(seqD_yes hs).2, hQ _ ?_⟩
    rw [(seqD_yes hs).1]
    simp [hs]
    intro p
    have htb : ∀ e ∈ ds, isTouchB n e = true := fun e he => (ht e he).2
    -- the loop
    suffices hh : ∀ (ds : List D) (ks : List Int) (o3 o4 o5 : Option X), ks.length + ds.length ≤ 100000 → (∀ e ∈ ds, OkT e ∧ isTouchB n e = true) → ∀ Fin : Env → Store → Prop,
        (∀ o3 o4 o5, Fin [some (.d (.int n)), some (.d d), some (.h p), o3, o4, o5, none] [(p, .dct (kvT ((ds.map (codeD n)).foldl addK ks)))]) →
        loopD (dName 3) (wSeq (wIfS (wNot (wTest (wCall (sp_is_touch g) [] [] (wCons (wVar 0) (wCons (wVar 3) wNil))))) wNever wNext)
          (wSeq (wAsg (wCall (sp_ordered_pair g) [] [] (wCons (wOp dIx (wVar 3) (wC (.int 0))) (wCons (wOp dIx (wVar 3) (wC (.int 1))) wNil))) (dTup 2 (dCons (dName 4) (dCons (dName 5) dNil))))
          (wDPut (wVar 2) (wCB dInt (wCons (wOp dAdd (wOp dMul (wVar 4) (wVar 0)) (wVar 5)) wNil)) (wC (.bl true)))))
          ⟨Fin, Q, fun _ _ => False, fun _ _ => False⟩ (fun _ _ _ => False) (ds.map X.d) [some (.d (.int n)), some (.d d), some (.h p), o3, o4, o5, none] [(p, .dct (kvT ks))] from by
      refine hh ds [] none none none (by simpa using hl) ht _ fun o3 o4 o5 => ?_
      simp
      refine ⟨0, kvT ((ds.map (codeD n)).foldl addK []), by simp, ?_⟩
      rw [kvT_keys]
      generalize hks : (ds.map (codeD n)).foldl addK [] = ks
      have hnd : ks.Nodup := by rw [← hks]; exact fold_nodup List.nodup_nil
      have hm : ∀ x, x ∈ ks ↔ x ∈ ds.map (codeD n) := fun x => by rw [← hks, mem_fold]; simp
      have hlen : ks.length ≤ ds.length := by rw [← hks]; have := fold_len (l := ds.map (codeD n)) (ks := []); simpa using this
      intro r
      refine lczI (S0 := []) (fun n : Int => X.d (.int n)) (fun _ => true) (fun n => n) ks (by omega) ?_ ?_ r
      · intro a ha S' K Kf hc h1 hk
        simpa using h1 rfl
      rw [filter_yes, List.map_id']
      refine q_sorted hnd fun ns h1 h2 h3 => ?_
      simp
      have e : ns = (rng (n * n)).filter fun q => decide (q ∈ ds.map (codeD n)) := by
        refine (asc_part h1 (n := n * n) fun x hx => ?_).trans (List.filter_congr fun x _ => decide_eq_decide.mpr ((h2 x).trans (hm x)))
        obtain ⟨e, he, rfl⟩ := List.mem_map.mp ((hm x).mp ((h2 x).mp hx))
        exact ⟨(codeD_in (htb e he)).1, (codeD_in (htb e he)).2.1⟩
      intro r2
      refine lcz (S0 := []) (fun n : Int => X.d (.int n)) (fun _ => true) (fun q => .tup [.int (q / n), .int (q % n)]) ns (by omega) ?_ ?_ r2
      · intro a ha S' K Kf hc h1 hk
        simp
        exact ⟨⟨by omega, by omega⟩, by omega, by decide, h1 rfl⟩
      rw [filter_yes]
      simp
      have e2 : ns.map (fun q => D.tup [.int (q / n), .int (q % n)]) = PD (normT n ds) := by
        unfold PD normT
        rw [List.map_map, ← e]; rfl
      rw [e2]; exact hq
    clear hq ht htb hs hl
    intro ds
    induction ds with
    | nil => intro ks o3 o4 o5 _ _ Fin hF; exact hF o3 o4 o5
    | cons e ds ih =>
      intro ks o3 o4 o5 hl ht Fin hF
      rw [List.length_cons] at hl
      rw [List.map_cons, loop_cons]
      obtain ⟨ok, hte⟩ := ht e List.mem_cons_self
      obtain ⟨b', x, y, hse, h1, h2, h3, h4, h5⟩ := touch_form hte
      simp
      refine callP fun Q' E' hQ => ⟨ok, hQ _ ?_⟩
      rw [hte]
      simp [ix_seq hse]
      refine ⟨_, rfl, _, rfl, ?_⟩
      refine callP fun Q' E' hQ => hQ _ ?_
      obtain ⟨a1, a2, a3⟩ := ordP_in h1 h2 h3 h4 h5
      simp
      refine ⟨mulw (by omega) (by omega), 0, kvT ks, by simp, by rw [kvT_len]; omega, ?_⟩
      rw [put_kvT]
      have hcode : (ordP x y).1 * n + (ordP x y).2 = codeD n e := by unfold codeD; rw [pairOf_seq hse]
      rw [hcode]
      simp
      refine ih (addK ks (codeD n e)) _ _ _ ?_ (fun e he => ht e (List.mem_cons_of_mem _ he)) Fin fun o3 o4 o5 => ?_
      · have : (addK ks (codeD n e)).length ≤ ks.length + 1 := by unfold addK; split <;> simp
        omega
      · have := hF o3 o4 o5
        rw [List.map_cons, List.foldl_cons] at this
        exact this
  · exact h.elim
theorem hw_map_init (g : GM) (xs : List X) (S : Store) (Q : XQ) (E : Exn → Store → Prop) (h : sp_map_init g xs S Q E) : w_map_init g { nx := fun _ S' => Q (.d .non) S', rt := Q } (startD ["self", "many", "touches"] xs) S (fun _ _ _ => False) := by
  unfold sp_map_init at h
  split at h
  · rename_i a n d
    obtain ⟨rfl, hn1, hn2, b, ds, hs, hl, ht, hq⟩ := h
    unfold w_map_init
    simp
    refine callP fun Q' E' hQ => ⟨rfl, hQ _ ?_⟩
    simp [isIntD]
    rw [if_neg (by omega)]
    refine ⟨0, [], rfl, by decide, ?_⟩
    simp
    refine callP fun Q' E' hQ => ⟨rfl, hn1, hn2, b, ds, hs, hl, ht, hQ _ ?_⟩
    exact ⟨0, _, rfl, by show 1 < 1000; omega, hq⟩
  · exact h.elim
end DP

set_option Elab.async false
set_option linter.all false
set_option maxRecDepth 100000
set_option maxHeartbeats 1000000
namespace DP
open PySem PySem.Spec PyProof.Rows L2
open Evl (Ex ex_l ex_t ex_rd fresh_back)

/-! ### the laws' own draws -/
def dealS (b p : Addr) (ys : List Int) (m : Int) : Store := [(b, .lst (IX ys)), (p, .lst [.h b, .d (.int m)])]
structure DealOk (ys : List Int) (m : Int) : Prop where
  ge : ∀ y ∈ ys, 0 ≤ y
  m0 : 0 ≤ m
  m1 : m < 2147483647
  sz : ys.length ≤ 63
def sp_Ldeal (g : GM) : DSp := fun xs S Q _ => match xs with
  | [.d (.scr ds)] => S = [] ∧ ∃ ns : List Int, ds = ns.map D.int ∧ ns.length ≤ 63 ∧ ∀ b p ys m, DealOk ys m → Q (.h p) (dealS b p ys m)
  | _ => False
def sp_Ldraw (g : GM) : DSp := fun xs S Q _ => match xs with
  | [.h p, .d (.int n)] => 0 < n ∧ n < 1000000 ∧ ∃ b ys m, S = dealS b p ys m ∧ DealOk ys m ∧ ∀ ys' m' v, DealOk ys' m' → 0 ≤ v → v < n → Q (.d (.int v)) (dealS b p ys' m')
  | _ => False
def sp_Lmixed (g : GM) : DSp := fun xs S Q _ => match xs with
  | [.h p, .d d] => ∃ b ys m bb cs, S = dealS b p ys m ∧ DealOk ys m ∧ seqD d = some (bb, ID cs) ∧ cs.length < 1000 ∧ ∀ ys' m' cs' q, DealOk ys' m' → cs'.Perm cs → Q (.h q) (dealS b p ys' m' ++ [(q, .lst (IX cs'))])
  | _ => False
/-- a chart: pairs, ascending, the lesser first -/
def Lex (p q : Int × Int) : Prop := p.1 < q.1 ∨ (p.1 = q.1 ∧ p.2 < q.2)
structure OkC (n : Int) (ps : List (Int × Int)) : Prop where
  lo : 1 ≤ n
  hi : n ≤ 24
  pr : ∀ p ∈ ps, 0 ≤ p.1 ∧ p.1 < p.2 ∧ p.2 < n
  st : ps.Pairwise Lex
  sz : ps.length ≤ 576
def chartD (n : Int) (ps : List (Int × Int)) : D := .tup [.int n, .lst (PD ps)]
def sp_Lchart (g : GM) : DSp := fun xs S Q _ => match xs with
  | [.h p, .d (.int k)] => 1 ≤ k ∧ k ≤ 24 ∧ ∃ b ys m, S = dealS b p ys m ∧ DealOk ys m ∧ ∀ ys' m' n ps, DealOk ys' m' → OkC n ps → n ≤ k → Q (.d (chartD n ps)) (dealS b p ys' m')
  | _ => False
def sp_Lmap_of (g : GM) : DSp := fun xs S Q _ => match xs with
  | [.d d] => ∃ n ps, d = chartD n ps ∧ OkC n ps ∧ S = [] ∧ ∀ a, Q (.h a) [(a, .obj g.Map [("many", .d (.int n)), ("touches", .d (.tup (PD (normT n (PD ps)))))])]
  | _ => False
def sp_Lcells (g : GM) : DSp := fun xs S Q _ => match xs with
  | [.h p, .d (.int n)] => 0 ≤ n ∧ n ≤ 1000 ∧ ∃ b ys m, S = dealS b p ys m ∧ DealOk ys m ∧ ∀ ys' m' cs, DealOk ys' m' → cs.Pairwise (· < ·) → (∀ c ∈ cs, 0 ≤ c ∧ c < n) → Q (.d (.tup (ID cs))) (dealS b p ys' m')
  | _ => False
section
variable {g : GM} (xs : List X) (S : Store) (Q : XQ) (E : Exn → Store → Prop)
theorem len_Ldeal (h : sp_Ldeal g xs S Q E) : xs.length = 1 := by
  unfold sp_Ldeal at h
  split at h
  · rfl
  · exact h.elim
theorem len_Ldraw (h : sp_Ldraw g xs S Q E) : xs.length = 2 := by
  unfold sp_Ldraw at h
  split at h
  · rfl
  · exact h.elim
theorem len_Lmixed (h : sp_Lmixed g xs S Q E) : xs.length = 2 := by
  unfold sp_Lmixed at h
  split at h
  · rfl
  · exact h.elim
theorem len_Lchart (h : sp_Lchart g xs S Q E) : xs.length = 2 := by
  unfold sp_Lchart at h
  split at h
  · rfl
  · exact h.elim
theorem len_Lmap_of (h : sp_Lmap_of g xs S Q E) : xs.length = 1 := by
  unfold sp_Lmap_of at h
  split at h
  · rfl
  · exact h.elim
theorem len_Lcells (h : sp_Lcells g xs S Q E) : xs.length = 2 := by
  unfold sp_Lcells at h
  split at h
  · rfl
  · exact h.elim
end
/-! ### calls of them -/
section
variable {g : GM} {b p : Addr} {ys : List Int} {m n : Int} {R : Store} {Q : XQ} {E : Exn → Store → Prop}
theorem back2 {r : X} {a b c d : Addr × Cell} {Se : Store} (q : Q r (a :: b :: (R ++ Se))) : Q r (putBack (c :: d :: R) [0, 1] [a, b] ++ Se) := q
theorem call_draw (ok : DealOk ys m) (h0 : 0 < n) (h1 : n < 1000000) (h : ∀ ys' m' v, DealOk ys' m' → 0 ≤ v → v < n → Q (.d (.int v)) (dealS b p ys' m' ++ R)) : callD (sp_Ldraw g) [0, 1] [.h p, .d (.int n)] (dealS b p ys m ++ R) Q E :=
  callI (Sc := dealS b p ys m) rfl (by decide) fun Q' E' hQ => ⟨h0, h1, b, ys, m, rfl, ok, fun ys' m' v o a1 a2 => by
    have := hQ (.d (.int v)) (dealS b p ys' m') [] rfl (by have := h ys' m' v o a1 a2; unfold dealS at this ⊢; exact back2 (by simpa using this))
    rw [List.append_nil] at this
    exact this⟩
end
end DP

set_option Elab.async false
set_option linter.all false
set_option maxRecDepth 100000
set_option maxHeartbeats 1000000
namespace DP
open PySem PySem.Spec PyProof.Rows L2
open Evl (Ex ex_l ex_t ex_rd fresh_back)
/-! ### the readings of the laws' own draws (printed by the generator) -/
/-- _law_deal -/
def w_Ldeal (g : GM) : WS := (wSeq (wPar 1 2 (wCons (wFz (wLc (wISeq (wFz (wSlL (wVar 0) wNoPart (wPart (wC (.int 60)))))) (dName 3) wYes (wCB dAbs (wCons (wVar 3) wNil)) [3])) (wCons (wC (.int 49979687)) wNil)))
  (wSeq (wFor (wISeq (wVar 1)) (dName 3)
  (wAsg (wOp dMod (wCB dInt (wCons (wOp dAdd (wOp dMul (wVar 2) (wC (.int 16807))) (wOp dMod (wCB dInt (wCons (wVar 3) wNil)) (wC (.int 2147483629)))) wNil)) (wC (.int 2147483647))) (dName 2)))
  (wRet (wLst (wCons (wRevL (wFz (wLc (wISeq (wVar 1)) (dName 3) (wTest (wOp dGe (wVar 3) (wOp dPow (wC (.int 10)) (wC (.int 18))))) (wVar 3) [3]))) (wCons (wVar 2) wNil))))))
/-- _law_draw -/
def w_Ldraw (g : GM) : WS := (wSeq (wWhile (wAnd (wTest (wOp dNe (wOp dIx (wVar 0) (wC (.int 0))) (wFz (wLst wNil)))) (wTest (wOp dEq (wOp dIx (wOp dIx (wVar 0) (wC (.int 0))) (wUn dNegI (wC (.int 1)))) (wC (.int 0)))))
  (wDrop (wBM dPop (wOp dIx (wVar 0) (wC (.int 0))) wNil)))
  (wSeq (wIfS (wTest (wOp dNe (wOp dIx (wVar 0) (wC (.int 0))) (wFz (wLst wNil)))) (wSeq (wAsg (wBM dPop (wOp dIx (wVar 0) (wC (.int 0))) wNil) (dName 2))
  (wSeq (wDrop (wBM dAppend (wOp dIx (wVar 0) (wC (.int 0))) (wCons (wOp dFdiv (wVar 2) (wVar 1)) wNil)))
  (wRet (wOp dMod (wCB dInt (wCons (wVar 2) wNil)) (wVar 1))))) wNext)
  (wSeq (wSub (wOp dMod (wCB dInt (wCons (wOp dAdd (wOp dMul (wOp dIx (wVar 0) (wC (.int 1))) (wC (.int 48271))) (wC (.int 11))) wNil)) (wC (.int 2147483647))) (wVar 0) (wC (.int 1)) dSetL)
  (wRet (wOp dMod (wCB dInt (wCons (wOp dFdiv (wOp dIx (wVar 0) (wC (.int 1))) (wC (.int 8))) wNil)) (wVar 1))))))
/-- _law_mixed -/
def w_Lmixed (g : GM) : WS := (wSeq (wPar 2 3 (wCons (wCB dListOf (wCons (wVar 1) wNil)) (wCons (wLst wNil) wNil)))
  (wSeq (wWhile (wTest (wOp dNe (wVar 2) (wFz (wLst wNil))))
  (wDrop (wBM dAppend (wVar 3) (wCons (wBM dPopAt (wVar 2) (wCons (wCall (sp_Ldraw g) [0, 1] [] (wCons (wVar 0) (wCons (wCB dLen (wCons (wVar 2) wNil)) wNil))) wNil)) wNil))))
  (wDropC 2 (wRet (wVar 3)))))
/-- _law_chart -/
def w_Lchart (g : GM) : WS := (wSeq (wAsgT 3 (wCons (wOp dAdd (wC (.int 1)) (wCall (sp_Ldraw g) [0, 1] [] (wCons (wVar 0) (wCons (wVar 1) wNil)))) (wCons (wOp dAdd (wC (.int 1)) (wCall (sp_Ldraw g) [0, 1] [] (wCons (wVar 0) (wCons (wC (.int 3)) wNil)))) (wCons (wLst wNil) wNil))) (dCons (dName 2) (dCons (dName 3) (dCons (dName 4) dNil))))
  (wSeq (wFor (wIR1 (wCons (wVar 2) wNil)) (dName 5)
  (wDrop (wBM dExtend (wVar 4) (wCons (wFz (wLc (wIR2 (wCons (wOp dAdd (wVar 5) (wC (.int 1))) (wCons (wVar 2) wNil))) (dName 6) (wTest (wOp dLt (wCall (sp_Ldraw g) [0, 1] [] (wCons (wVar 0) (wCons (wC (.int 4)) wNil))) (wVar 3))) (wTup (wCons (wVar 5) (wCons (wVar 6) wNil))) [6])) wNil))))
  (wFreeze 4 (wForget 2 (wRet (wTup (wCons (wVar 2) (wCons (wVar 4) wNil))))))))
/-- _law_map_of -/
def w_Lmap_of (g : GM) : WS := (wRet (wMake g.Map (sp_map_init g) [] (wCons (wOp dIx (wVar 0) (wC (.int 0))) (wCons (wFz (wCB dListOf (wCons (wOp dIx (wVar 0) (wC (.int 1))) wNil))) wNil))))
/-- _law_cells -/
def w_Lcells (g : GM) : WS := (wRet (wCB dTupleOf (wCons (wFz (wLc (wIR1 (wCons (wVar 1) wNil)) (dName 2) (wTest (wOp dEq (wCall (sp_Ldraw g) [0, 1] [] (wCons (wVar 0) (wCons (wC (.int 2)) wNil))) (wC (.int 0)))) (wVar 2) [2])) wNil)))
end DP

set_option Elab.async false
set_option linter.all false
set_option maxRecDepth 100000
set_option maxHeartbeats 1000000
namespace DP
open PySem PySem.Spec PyProof.Rows L2
open Evl (Ex ex_l ex_t ex_rd fresh_back)

theorem while_succ {wt : WT} {wb : WS} {Δ : DEnds} {E : XR} {n : Nat} {δ : Env} {S : Store} : whileD wt wb Δ E (n + 1) δ S = wt δ S (fun b S1 => if b = true then wb ⟨fun δ2 S2 => whileD wt wb Δ E n δ2 S2, Δ.rt, Δ.nx, fun δ2 S2 => whileD wt wb Δ E n δ2 S2⟩ δ S1 E else Δ.nx δ S1) E := rfl
theorem IX_dl (ys : List Int) : (IX ys).dropLast = IX ys.dropLast := by unfold IX; rw [List.map_dropLast]
theorem IX_last {ys : List Int} (h : ys ≠ []) : (IX ys)[(IX ys).length - 1]? = some (.d (.int (ys.getLast h))) := by
  rw [← List.getLast?_eq_getElem?]
  unfold IX
  rw [List.getLast?_map, List.getLast?_eq_some_getLast h]; rfl
theorem IX_at (ys : List Int) (h : ys ≠ []) : atI (IX ys) (-1) = some (.d (.int (ys.getLast h))) := by
  have e : ys = ys.dropLast ++ [ys.getLast h] := (List.dropLast_concat_getLast h).symm
  have : IX ys = IX ys.dropLast ++ [.d (.int (ys.getLast h))] := by
    conv => lhs; rw [e]
    unfold IX; rw [List.map_append]; rfl
  rw [this]
  exact atI_last _ _
theorem hw_Ldraw (g : GM) (xs : List X) (S : Store) (Q : XQ) (E : Exn → Store → Prop) (h : sp_Ldraw g xs S Q E) : w_Ldraw g { nx := fun _ S' => Q (.d .non) S', rt := Q } (startD ["_law_deal_here", "_law_count", "_law_left"] xs) S (fun _ _ _ => False) := by
  unfold sp_Ldraw at h
  split at h
  · rename_i p n
    obtain ⟨hn, hn2, b, ys, m, rfl, ok, hq⟩ := h
    have hsz : sizeLine = 16777216 := rfl
    unfold w_Ldraw
    simp
    refine ⟨ys.length + 1, ?_⟩
    suffices hh : ∀ (Fin : Env → Store → Prop) (ys : List Int), (∀ y ∈ ys, 0 ≤ y) → ys.length ≤ 63 → (∀ ys', (∀ y ∈ ys', 0 ≤ y) → ys'.length ≤ 63 → Fin [some (.h p), some (.d (.int n)), none] (dealS b p ys' m)) →
        whileD (wAnd (wTest (wOp dNe (wOp dIx (wVar 0) (wC (.int 0))) (wFz (wLst wNil)))) (wTest (wOp dEq (wOp dIx (wOp dIx (wVar 0) (wC (.int 0))) (wUn dNegI (wC (.int 1)))) (wC (.int 0)))))
          (wDrop (wBM dPop (wOp dIx (wVar 0) (wC (.int 0))) wNil)) ⟨Fin, Q, fun _ _ => False, fun _ _ => False⟩ (fun _ _ _ => False) (ys.length + 1) [some (.h p), some (.d (.int n)), none] (dealS b p ys m) from by
      refine hh _ ys ok.ge ok.sz fun ys' hg hl => ?_
      have hm0 := ok.m0
      have hm1 := ok.m1
      simp
      refine ⟨1, _, rfl, .h b, rfl, ?_⟩
      refine qn_hnil (i := 0) (xs := ys') rfl ?_
      by_cases he : ys' = []
      · subst he
        simp
        refine ⟨1, _, rfl, .d (.int m), rfl, ?_⟩
        simp
        refine ⟨mulw (by omega) (by decide), 1, _, rfl, 1, rfl, 1, _, rfl, _, rfl, ?_⟩
        simp
        refine ⟨⟨by decide, by decide⟩, hn, ?_⟩
        exact hq [] ((m * 48271 + 11) % 2147483647) _ ⟨by simp, by omega, by omega, by simp⟩ (Int.emod_nonneg _ (by omega)) (Int.emod_lt_of_pos _ hn)
      · simp [he]
        have hl1 : 0 < ys'.length := List.length_pos_iff.mpr he
        refine ⟨1, _, rfl, .h b, rfl, ?_⟩
        simp
        refine ⟨⟨0, _, rfl⟩, 0, _, rfl, _, IX_last he, ?_⟩
        refine ⟨1, _, rfl, .h b, rfl, ?_⟩
        simp
        refine ⟨⟨0, _, rfl⟩, ?_⟩
        refine ⟨⟨hn, by omega⟩, 0, _, rfl, by simp; omega, ?_⟩
        refine ⟨hn, ?_⟩
        have e : dealS b p ys' m = dealS b p ys' m := rfl
        have := hq (ys'.dropLast ++ [ys'.getLast he / n]) m (ys'.getLast he % n) ⟨fun y hy => ?_, hm0, hm1, by simp; omega⟩ (Int.emod_nonneg _ (by omega)) (Int.emod_lt_of_pos _ hn)
        · unfold dealS at this ⊢
          rw [IX_dl]
          simpa [IX] using this
        · rcases List.mem_append.mp hy with hy | hy
          · exact hg y (List.dropLast_subset _ hy)
          · simp at hy
            subst hy
            exact Int.ediv_nonneg (hg _ (List.getLast_mem he)) (by omega)
    intro Fin ys
    induction hk : ys.length generalizing ys with
    | zero =>
      intro hg hl hF
      have e : ys = [] := List.eq_nil_of_length_eq_zero hk
      subst e
      rw [while_succ]
      simp
      refine ⟨1, _, rfl, .h b, rfl, ?_⟩
      refine qn_hnil (i := 0) (xs := []) rfl ?_
      simp
      exact hF [] (by simp) (by simp)
    | succ k ih =>
      intro hg hl hF
      have he : ys ≠ [] := fun e => by rw [e] at hk; simp at hk
      rw [while_succ]
      simp
      refine ⟨1, _, rfl, .h b, rfl, ?_⟩
      refine qn_hnil (i := 0) (xs := ys) rfl ?_
      simp [he]
      refine ⟨1, _, rfl, .h b, rfl, ?_⟩
      simp
      refine ⟨0, _, rfl, _, IX_at ys he, ?_⟩
      simp
      by_cases h0 : ys.getLast he = 0
      · simp [h0]
        refine ⟨1, _, rfl, .h b, rfl, ?_⟩
        simp
        refine ⟨⟨0, _, rfl⟩, 0, _, rfl, ⟨_, IX_last he⟩, ?_⟩
        have := ih ys.dropLast (by simp; omega) (fun y hy => hg y (List.dropLast_subset _ hy)) (by omega) hF
        unfold dealS at this ⊢
        rw [IX_dl]
        simpa using this
      · simp [h0]
        exact hF ys hg (by omega)
  · exact h.elim

theorem cut_IX (ns : List Int) (lo hi : Option Int) : ∃ zs, cutX (IX ns) lo hi = IX zs ∧ zs.length ≤ ns.length := by
  unfold cutX IX
  refine ⟨_, by rw [← List.map_drop, ← List.map_take], ?_⟩
  simp
  omega
theorem hw_Ldeal (g : GM) (xs : List X) (S : Store) (Q : XQ) (E : Exn → Store → Prop) (h : sp_Ldeal g xs S Q E) : w_Ldeal g { nx := fun _ S' => Q (.d .non) S', rt := Q } (startD ["_law_script", "_law_cells_here", "_law_mixed_here", "_law_cell"] xs) S (fun _ _ _ => False) := by
  unfold sp_Ldeal at h
  split at h
  · rename_i ds
    obtain ⟨rfl, ns, rfl, hl, hq⟩ := h
    have hsz : sizeLine = 16777216 := rfl
    unfold w_Ldeal
    simp
    intro q
    obtain ⟨zs, hz, hzl⟩ := cut_IX ns none (some 60)
    rw [show List.map X.d (List.map D.int ns) = IX ns from IX_eq ns, hz, x_fzIX]
    simp
    intro q2
    refine lczI (S0 := []) (fun n : Int => X.d (.int n)) (fun _ => true) (fun c => if c < 0 then -c else c) zs (by omega) ?_ ?_ q2
    · intro a ha S' K Kf hc h1 hk
      simpa using h1 rfl
    rw [filter_yes]
    have hge : ∀ y ∈ zs.map (fun c : Int => if c < 0 then -c else c), 0 ≤ y := fun y hy => by
      obtain ⟨c, _, rfl⟩ := List.mem_map.mp hy
      split <;> omega
    have hlen : (zs.map (fun c : Int => if c < 0 then -c else c)).length ≤ 63 := by rw [List.length_map]; omega
    generalize zs.map (fun c : Int => if c < 0 then -c else c) = as at hge hlen ⊢
    simp
    suffices hh : ∀ (Fin : Env → Store → Prop) (l : List Int) (m : Int) (o : Option X), (∀ y ∈ l, 0 ≤ y) → 0 ≤ m → m < 2147483647 →
        (∀ m o, 0 ≤ m → m < 2147483647 → Fin [some (.d (.scr (ns.map D.int))), some (.d (.lst (ID as))), some (.d (.int m)), o] []) →
        loopD (dName 3) (wAsg (wOp dMod (wCB dInt (wCons (wOp dAdd (wOp dMul (wVar 2) (wC (.int 16807))) (wOp dMod (wCB dInt (wCons (wVar 3) wNil)) (wC (.int 2147483629)))) wNil)) (wC (.int 2147483647))) (dName 2))
          ⟨Fin, Q, fun _ _ => False, fun _ _ => False⟩ (fun _ _ _ => False) (IX l) [some (.d (.scr (ns.map D.int))), some (.d (.lst (ID as))), some (.d (.int m)), o] [] from by
      refine hh _ as _ _ hge (by decide) (by decide) fun m o h0 h1 => ?_
      simp
      intro q3
      refine lczI (S0 := []) (fun n : Int => X.d (.int n)) (fun c => decide (10 ^ 18 ≤ c)) (fun c => c) as (by omega) ?_ ?_ q3
      · intro a ha S' K Kf hc h1 hk
        simp
        refine ⟨⟨by decide, by decide, by decide⟩, ?_⟩
        by_cases e : (10 : Int) ^ 18 ≤ a
        · have := h1 (by simpa using e)
          simpa [show (1000000000000000000 : Int) ≤ a from e] using this
        · have := hk (by simpa using e)
          simpa [show ¬ (1000000000000000000 : Int) ≤ a from e] using this
      rw [List.map_id']
      have hge2 : ∀ y ∈ (as.filter fun c => decide ((10 : Int) ^ 18 ≤ c)).reverse, 0 ≤ y := fun y hy => hge y (List.mem_filter.mp (List.mem_reverse.mp hy)).1
      have hlen2 : ((as.filter fun c => decide ((10 : Int) ^ 18 ≤ c)).reverse).length ≤ 63 := by
        rw [List.length_reverse]; exact Nat.le_trans (List.length_filter_le _ _) hlen
      have hrev : (IX (as.filter fun c => decide ((10 : Int) ^ 18 ≤ c))).reverse = IX (as.filter fun c => decide ((10 : Int) ^ 18 ≤ c)).reverse := by unfold IX; rw [List.map_reverse]
      simp only [IX_eqm, hrev]
      generalize (as.filter fun c => decide ((10 : Int) ^ 18 ≤ c)).reverse = bs at hge2 hlen2 ⊢
      simp
      intro b
      refine ⟨by decide, fun p => ?_⟩
      exact hq b p bs m ⟨hge2, h0, h1, hlen2⟩
    intro Fin l
    induction l with
    | nil => intro m o _ h0 h1 hF; exact hF m o h0 h1
    | cons c l ih =>
      intro m o hl h0 h1 hF
      show loopD _ _ _ _ (.d (.int c) :: IX l) _ _
      rw [loop_cons]
      simp
      refine ⟨mulw (by omega) (by decide), ?_⟩
      have hc := hl c List.mem_cons_self
      exact ih _ _ (fun y hy => hl y (List.mem_cons_of_mem _ hy)) (by omega) (by omega) hF
  · exact h.elim
end DP

set_option Elab.async false
set_option linter.all false
set_option maxRecDepth 100000
set_option maxHeartbeats 1000000
namespace DP
open PySem PySem.Spec PyProof.Rows L2
open Evl (Ex ex_l ex_t ex_rd fresh_back)

theorem IX_erase : ∀ (k : Nat) (xs : List Int), (IX xs).eraseIdx k = IX (xs.eraseIdx k)
  | _, [] => rfl
  | 0, _ :: _ => rfl
  | k + 1, x :: xs => by
    show X.d (.int x) :: (IX xs).eraseIdx k = X.d (.int x) :: IX (xs.eraseIdx k)
    rw [IX_erase k xs]
theorem IX_get {k : Nat} {xs : List Int} (h : k < xs.length) : (IX xs)[k]? = some (.d (.int xs[k])) := by
  unfold IX; rw [List.getElem?_map, List.getElem?_eq_getElem h]; rfl
theorem perm_erase : ∀ (k : Nat) (xs : List Int) (h : k < xs.length), (xs[k] :: xs.eraseIdx k).Perm xs
  | _, [], h => absurd h (by simp)
  | 0, x :: xs, _ => List.Perm.refl _
  | k + 1, x :: xs, h => by
    have hk : k < xs.length := by simpa using h
    have := perm_erase k xs hk
    show (xs[k] :: x :: xs.eraseIdx k).Perm (x :: xs)
    exact (List.Perm.swap _ _ _).trans (this.cons x)
theorem seq_ix {v : Int} {n : Nat} (h0 : 0 ≤ v) (h1 : v < n) : seqIndex? v n = some v.toNat := by
  have : ixN n v = some v.toNat := by unfold ixN; rw [if_pos h0, if_pos h1]
  exact (ixN_seq this).1
theorem hw_Lmixed (g : GM) (xs : List X) (S : Store) (Q : XQ) (E : Exn → Store → Prop) (h : sp_Lmixed g xs S Q E) : w_Lmixed g { nx := fun _ S' => Q (.d .non) S', rt := Q } (startD ["_law_deal_here", "_law_some", "_law_left", "_law_found"] xs) S (fun _ _ _ => False) := by
  unfold sp_Lmixed at h
  split at h
  · rename_i p d
    obtain ⟨b, ys, m, bb, cs, rfl, ok, hs, hl, hq⟩ := h
    have hsz : sizeLine = 16777216 := rfl
    unfold w_Lmixed
    have hlist : ∀ (S : Store) (Q : XQ), (∀ q, Q (.h q) (S ++ [(q, .lst (IX cs))])) → dListOf [.d d] S Q := fun S Q h => by
      cases d <;> first | (cases hs; done) | skip
      all_goals
        cases hs
        simp
        exact h
    simp
    refine hlist _ _ fun q1 => ?_
    simp
    intro q2
    refine ⟨cs.length + 1, ?_⟩
    suffices hh : ∀ (Fin : Env → Store → Prop) (k : Nat) (left found ys : List Int) (m : Int), left.length = k → DealOk ys m → (left ++ found).Perm cs →
        (∀ ys m found, DealOk ys m → found.Perm cs → Fin [some (.h p), some (.d d), some (.h q1), some (.h q2)] (dealS b p ys m ++ [(q1, .lst (IX [])), (q2, .lst (IX found))])) →
        whileD (wTest (wOp dNe (wVar 2) (wFz (wLst wNil))))
          (wDrop (wBM dAppend (wVar 3) (wCons (wBM dPopAt (wVar 2) (wCons (wCall (sp_Ldraw g) [0, 1] [] (wCons (wVar 0) (wCons (wCB dLen (wCons (wVar 2) wNil)) wNil))) wNil)) wNil)))
          ⟨Fin, Q, fun _ _ => False, fun _ _ => False⟩ (fun _ _ _ => False) (k + 1) [some (.h p), some (.d d), some (.h q1), some (.h q2)] (dealS b p ys m ++ [(q1, .lst (IX left)), (q2, .lst (IX found))]) from by
      refine hh _ cs.length cs [] ys m rfl ok (by simp) fun ys m found ok hp => ?_
      simp
      exact hq ys m found q2 ok hp
    intro Fin k
    induction k with
    | zero =>
      intro left found ys m hk ok hp hF
      have e : left = [] := List.eq_nil_of_length_eq_zero hk
      subst e
      rw [while_succ]
      simp
      refine qn_hnil (i := 2) (xs := []) rfl ?_
      simp
      exact hF ys m found ok (by simpa using hp)
    | succ k ih =>
      intro left found ys m hk ok hp hF
      have he : left ≠ [] := fun e => by rw [e] at hk; simp at hk
      have hlen : left.length + found.length = cs.length := by rw [← List.length_append]; exact hp.length_eq
      rw [while_succ]
      simp
      refine qn_hnil (i := 2) (xs := left) rfl ?_
      simp [he]
      refine ⟨⟨3, _, rfl⟩, ⟨2, _, rfl⟩, 2, _, rfl, ?_⟩
      rw [IX_len]
      refine call_draw ok (by omega) (by omega) fun ys' m' v ok' h0 h1 => ?_
      have hv : v.toNat < left.length := by omega
      simp
      refine ⟨2, _, rfl, by omega, by omega, v.toNat, ?_⟩
      rw [IX_len]
      refine ⟨seq_ix h0 (by omega), _, IX_get hv, ?_⟩
      refine ⟨3, _, rfl, by rw [IX_len]; omega, ?_⟩
      have hp2 : (left.eraseIdx v.toNat ++ (found ++ [left[v.toNat]])).Perm cs := by
        refine List.Perm.trans ?_ hp
        rw [← List.append_assoc]
        refine (List.perm_append_comm (l₁ := left.eraseIdx v.toNat ++ found) (l₂ := [left[v.toNat]])).trans ?_
        rw [← List.append_assoc]
        exact (perm_erase v.toNat left hv).append_right found
      have := ih (left.eraseIdx v.toNat) (found ++ [left[v.toNat]]) ys' m' (by rw [List.length_eraseIdx]; split <;> omega) ok' hp2 hF
      rw [IX_erase]
      have e : IX found ++ [X.d (.int left[v.toNat])] = IX (found ++ [left[v.toNat]]) := by unfold IX; rw [List.map_append]; rfl
      rw [e]
      exact this
  · exact h.elim

@[simp] theorem dealS_len {b p : Addr} {ys : List Int} {m : Int} : (dealS b p ys m).length = 2 := rfl
/-- a comprehension whose turns draw -/
theorem lcD_nd {α σ : Type} {dg : DTg} {wt : WT} {we : WE} {ad : Addr} {Q : XQ} {δ0 : Env} {n : Nat} (st : σ → Store) (good : σ → Prop) (hn : ∀ s, (st s).length = n) (inj : α → X) (f : α → D) : ∀ (l : List α) (acc : List X) (s : σ), good s → acc.length + l.length ≤ sizeLine →
    (∀ a ∈ l, ∀ (s : σ), good s → ∀ (acc : List X) (K : X → Store → Prop) (Kf : Store → Prop), (∀ s', good s' → K (.d (f a)) (st s' ++ [(ad, .lst acc)])) → (∀ s', good s' → Kf (st s' ++ [(ad, .lst acc)])) →
      dg (inj a) δ0 (st s ++ [(ad, .lst acc)]) fun δ2 S2 => wt δ2 S2 (fun b S3 => if b = true then we δ2 S3 K E0' else Kf S3) E0') →
    (∀ (s : σ) (l' : List α), good s → l'.Sublist l → Q (.h ad) (st s ++ [(ad, .lst (acc ++ l'.map fun a => .d (f a)))])) → lcD dg wt we n ad Q δ0 (l.map inj) (st s ++ [(ad, .lst acc)])
  | [], acc, s, hg, _, _, q => by
    have := q s [] hg (List.Sublist.refl _)
    rw [List.map_nil, List.append_nil] at this
    exact this
  | a :: l, acc, s, hg, hl, hs, q => by
    have hs' := fun b hb => hs b (List.mem_cons_of_mem _ hb)
    rw [List.length_cons] at hl
    show dg (inj a) δ0 _ _
    refine hs a List.mem_cons_self s hg acc _ _ (fun s' hg' => ?_) fun s' hg' => ?_
    · refine ⟨acc, by rw [← hn s']; simp, by omega, ?_⟩
      rw [← hn s', List.set_append_right _ _ (Nat.le_refl _), Nat.sub_self, List.set_cons_zero, hn s']
      refine lcD_nd st good hn inj f l (acc ++ [.d (f a)]) s' hg' (by rw [List.length_append]; simp; omega) hs' fun s2 l' hg2 hsub => ?_
      have := q s2 (a :: l') hg2 (hsub.cons_cons a)
      rw [List.append_assoc]; exact this
    · exact lcD_nd st good hn inj f l acc s' hg' (by omega) hs' fun s2 l' hg2 hsub => q s2 l' hg2 (hsub.cons a)
structure DS where
  ys : List Int
  m : Int
/-- .. that draw from the deal; R stands behind it -/
theorem lcz_draw {α : Type} {dg : DTg} {wt : WT} {we : WE} {Q : XQ} {δ0 : Env} {n : Nat} {b p : Addr} {ys : List Int} {m : Int} {R : Store} (ok : DealOk ys m) (inj : α → X) (f : α → D) (l : List α) (hl : l.length ≤ sizeLine)
    (hs : ∀ a ∈ l, ∀ (ys : List Int) (m : Int), DealOk ys m → ∀ (R' : Store) (K : X → Store → Prop) (Kf : Store → Prop), (∀ ys m, DealOk ys m → K (.d (f a)) (dealS b p ys m ++ R')) → (∀ ys m, DealOk ys m → Kf (dealS b p ys m ++ R')) →
      dg (inj a) δ0 (dealS b p ys m ++ R') fun δ2 S2 => wt δ2 S2 (fun b S3 => if b = true then we δ2 S3 K E0' else Kf S3) E0')
    (q : ∀ (ys : List Int) (m : Int) (l' : List α), DealOk ys m → l'.Sublist l → Q (.d (.lst (l'.map f))) (dealS b p ys m ++ R)) (ad : Addr) (hn : n = 2 + R.length := by simp) : lcD dg wt we n ad (fzQ Q) δ0 (l.map inj) (dealS b p ys m ++ R ++ [(ad, .lst [])]) := by
  refine lcD_nd (σ := DS) (fun s => dealS b p s.ys s.m ++ R) (fun s => DealOk s.ys s.m) (fun s => by rw [hn, List.length_append]; rfl) inj f l [] ⟨ys, m⟩ ok (by simpa using hl) (fun a ha s hg acc K Kf h1 h2 => ?_) fun s l' hg hsub => ?_
  · rw [List.append_assoc]
    exact hs a ha s.ys s.m hg _ K Kf (fun ys m o => by rw [← List.append_assoc]; exact h1 ⟨ys, m⟩ o) fun ys m o => by rw [← List.append_assoc]; exact h2 ⟨ys, m⟩ o
  · refine ⟨_, _, .lst (l'.map f), rfl, ?_, q s.ys s.m l' hg hsub⟩
    show (xdata _).map D.lst = _
    rw [List.nil_append, show (l'.map fun a => X.d (f a)) = (l'.map f).map X.d from by rw [List.map_map]; rfl, xdata_map]; rfl
theorem lcz_draw0 {α : Type} {dg : DTg} {wt : WT} {we : WE} {Q : XQ} {δ0 : Env} {n : Nat} {b p : Addr} {ys : List Int} {m : Int} (ok : DealOk ys m) (inj : α → X) (f : α → D) (l : List α) (hl : l.length ≤ sizeLine)
    (hs : ∀ a ∈ l, ∀ (ys : List Int) (m : Int), DealOk ys m → ∀ (R' : Store) (K : X → Store → Prop) (Kf : Store → Prop), (∀ ys m, DealOk ys m → K (.d (f a)) (dealS b p ys m ++ R')) → (∀ ys m, DealOk ys m → Kf (dealS b p ys m ++ R')) →
      dg (inj a) δ0 (dealS b p ys m ++ R') fun δ2 S2 => wt δ2 S2 (fun b S3 => if b = true then we δ2 S3 K E0' else Kf S3) E0')
    (q : ∀ (ys : List Int) (m : Int) (l' : List α), DealOk ys m → l'.Sublist l → Q (.d (.lst (l'.map f))) (dealS b p ys m)) (ad : Addr) (hn : n = 2 := by simp) : lcD dg wt we n ad (fzQ Q) δ0 (l.map inj) (dealS b p ys m ++ [(ad, .lst [])]) := by
  have := lcz_draw (R := []) (n := n) (Q := Q) (dg := dg) (wt := wt) (we := we) (δ0 := δ0) ok inj f l hl hs (fun ys m l' o h => by rw [List.append_nil]; exact q ys m l' o h) ad (by simpa using hn)
  rw [List.append_nil] at this
  exact this
theorem hw_Lcells (g : GM) (xs : List X) (S : Store) (Q : XQ) (E : Exn → Store → Prop) (h : sp_Lcells g xs S Q E) : w_Lcells g { nx := fun _ S' => Q (.d .non) S', rt := Q } (startD ["_law_deal_here", "_law_count", "_law_cell"] xs) S (fun _ _ _ => False) := by
  unfold sp_Lcells at h
  split at h
  · rename_i p n
    obtain ⟨h0, h1, b, ys, m, rfl, ok, hq⟩ := h
    have hsz : sizeLine = 16777216 := rfl
    unfold w_Lcells
    simp
    refine ⟨by omega, by omega, ?_⟩
    rw [rgX_rng]
    intro ad
    refine lcz_draw0 ok (fun n : Int => X.d (.int n)) (fun n => .int n) (rng n) (by rw [rng_len]; omega) ?_ ?_ ad
    · intro a ha ys m ok R' K Kf h1 h2
      simp
      refine call_draw ok (by decide) (by decide) fun ys' m' v ok' v0 v1 => ?_
      simp
      by_cases e : v = 0
      · simpa [e] using h1 ys' m' ok'
      · simpa [e] using h2 ys' m' ok'
    · intro ys m l' ok hsub
      have e : List.map (fun n => D.int n) l' = ID l' := rfl
      rw [e]
      simp
      exact hq ys m l' ok (List.Pairwise.sublist hsub (rng_sorted n)) fun c hc => mem_rng.mp (hsub.subset hc)
  · exact h.elim
end DP

set_option Elab.async false
set_option linter.all false
set_option maxRecDepth 100000
set_option maxHeartbeats 1000000
namespace DP
open PySem PySem.Spec PyProof.Rows L2
open Evl (Ex ex_l ex_t ex_rd fresh_back)

theorem call_draw0 {g : GM} {b p : Addr} {ys : List Int} {m n : Int} {Q : XQ} {E : Exn → Store → Prop} (ok : DealOk ys m) (h0 : 0 < n) (h1 : n < 1000000) (h : ∀ ys' m' v, DealOk ys' m' → 0 ≤ v → v < n → Q (.d (.int v)) (dealS b p ys' m')) : callD (sp_Ldraw g) [0, 1] [.h p, .d (.int n)] (dealS b p ys m) Q E := by
  have := call_draw (g := g) (b := b) (p := p) (R := []) (Q := Q) (E := E) ok h0 h1 fun ys' m' v o a1 a2 => by rw [List.append_nil]; exact h ys' m' v o a1 a2
  rw [List.append_nil] at this
  exact this
def rng2 (a b : Int) : List Int := (List.range (b - a).toNat).map fun i : Nat => a + (i : Int)
theorem rgX_rng2 (a b : Int) : rgX a (b - a).toNat = IX (rng2 a b) := by
  unfold rgX IX rng2
  rw [List.map_map]; rfl
theorem mem_rng2 {a b x : Int} : x ∈ rng2 a b ↔ a ≤ x ∧ x < b := by
  unfold rng2
  rw [List.mem_map]
  constructor
  · rintro ⟨i, hi, rfl⟩
    have := List.mem_range.mp hi
    omega
  · intro h
    exact ⟨(x - a).toNat, List.mem_range.mpr (by omega), by omega⟩
theorem rng2_sorted (a b : Int) : (rng2 a b).Pairwise (· < ·) := by
  unfold rng2
  rw [List.pairwise_map]
  refine List.Pairwise.imp ?_ (List.pairwise_lt_range (n := (b - a).toNat))
  intro x y h
  omega
theorem rng2_len (a b : Int) : (rng2 a b).length = (b - a).toNat := by unfold rng2; simp
theorem xdata_PX (ts : List (Int × Int)) : xdata (PX ts) = some (PD ts) := by rw [← PX_eq]; exact xdata_map _
theorem PX_app (a b : List (Int × Int)) : PX (a ++ b) = PX a ++ PX b := by unfold PX; rw [List.map_append]
theorem PX_len (a : List (Int × Int)) : (PX a).length = a.length := by unfold PX; rw [List.length_map]
theorem hw_Lchart (g : GM) (xs : List X) (S : Store) (Q : XQ) (E : Exn → Store → Prop) (h : sp_Lchart g xs S Q E) : w_Lchart g { nx := fun _ S' => Q (.d .non) S', rt := Q } (startD ["_law_deal_here", "_law_most", "_law_count", "_law_thick", "_law_pairs", "_law_one", "_law_other"] xs) S (fun _ _ _ => False) := by
  unfold sp_Lchart at h
  split at h
  · rename_i p k
    obtain ⟨hk0, hk1, b, ys, m, rfl, ok, hq⟩ := h
    have hsz : sizeLine = 16777216 := rfl
    unfold w_Lchart
    simp
    refine call_draw0 ok (by omega) (by omega) fun ys m v ok v0 v1 => ?_
    simp
    refine call_draw0 ok (by omega) (by omega) fun ys m u ok u0 u1 => ?_
    simp
    intro q
    refine ⟨by decide, by omega, by omega, ?_⟩
    rw [rgX_rng]
    generalize hn : 1 + v = n
    have hn0 : 1 ≤ n := by omega
    have hn1 : n ≤ k := by omega
    suffices hh : ∀ (Fin : Env → Store → Prop) (l : List Int) (ps : List (Int × Int)) (ys : List Int) (m : Int) (o5 : Option X), DealOk ys m → l.Pairwise (· < ·) → (∀ x ∈ l, 0 ≤ x ∧ x < n) → (∀ p ∈ ps, (0 ≤ p.1 ∧ p.1 < p.2 ∧ p.2 < n) ∧ ∀ x ∈ l, p.1 < x) → ps.Pairwise Lex → ps.length + 24 * l.length ≤ 576 →
        (∀ ys m ps o5, DealOk ys m → OkC n ps → Fin [some (.h p), some (.d (.int k)), some (.d (.int n)), some (.d (.int (1 + u))), some (.h q), o5, none] (dealS b p ys m ++ [(q, .lst (PX ps))])) →
        loopD (dName 5) (wDrop (wBM dExtend (wVar 4) (wCons (wFz (wLc (wIR2 (wCons (wOp dAdd (wVar 5) (wC (.int 1))) (wCons (wVar 2) wNil))) (dName 6) (wTest (wOp dLt (wCall (sp_Ldraw g) [0, 1] [] (wCons (wVar 0) (wCons (wC (.int 4)) wNil))) (wVar 3))) (wTup (wCons (wVar 5) (wCons (wVar 6) wNil))) [6])) wNil)))
          ⟨Fin, Q, fun _ _ => False, fun _ _ => False⟩ (fun _ _ _ => False) (IX l) [some (.h p), some (.d (.int k)), some (.d (.int n)), some (.d (.int (1 + u))), some (.h q), o5, none] (dealS b p ys m ++ [(q, .lst (PX ps))]) from by
      refine hh _ (rng n) [] ys m none ok (rng_sorted n) (fun x hx => mem_rng.mp hx) (by simp) List.Pairwise.nil (by rw [rng_len]; simp; omega) fun ys m ps o5 ok okc => ?_
      simp
      refine ⟨2, .lst (PX ps), rfl, .lst (PD ps), by rw [x_dataL, xdata_PX]; rfl, ?_⟩
      refine ⟨by decide, ?_⟩
      exact hq ys m n ps ok okc (by omega)
    intro Fin l
    induction l with
    | nil =>
      intro ps ys m o5 ok _ _ hp hl hz hF
      exact hF ys m ps o5 ok ⟨hn0, by omega, fun p hp' => (hp p hp').1, hl, by simpa using hz⟩
    | cons x l ih =>
      intro ps ys m o5 ok hs hr hp hl hz hF
      obtain ⟨hs1, hs2⟩ := List.pairwise_cons.mp hs
      obtain ⟨hx0, hx1⟩ := hr x List.mem_cons_self
      show loopD _ _ _ _ (.d (.int x) :: IX l) _ _
      rw [loop_cons]
      simp
      refine ⟨⟨2, _, rfl⟩, ⟨by omega, by omega, by omega, by omega⟩, ?_⟩
      rw [rgX_rng2]
      intro ad
      refine lcz_draw (R := [(q, .lst (PX ps))]) ok (fun n : Int => X.d (.int n)) (fun y => .tup [.int x, .int y]) (rng2 (x + 1) n) (by rw [rng2_len]; omega) ?_ ?_ ad
      · intro a ha ys m ok R' K Kf h1 h2
        simp
        refine call_draw ok (by decide) (by decide) fun ys' m' w ok' w0 w1 => ?_
        simp
        by_cases e : w < 1 + u
        · simp [e]; exact ⟨by decide, h1 ys' m' ok'⟩
        · simp [e]; exact h2 ys' m' ok'
      · intro ys m l' ok hsub
        have hmem : ∀ y ∈ l', x < y ∧ y < n := fun y hy => by have := mem_rng2.mp (hsub.subset hy); omega
        have hlen : l'.length ≤ 24 := by have := hsub.length_le; rw [rng2_len] at this; omega
        have hso : l'.Pairwise (· < ·) := List.Pairwise.sublist hsub (rng2_sorted _ _)
        have e : l'.map (fun y => D.tup [.int x, .int y]) = PD (l'.map fun y => (x, y)) := by unfold PD; rw [List.map_map]; rfl
        rw [e]
        simp
        rw [List.length_cons] at hz
        have hpl : (PD (l'.map fun y => (x, y))).length = l'.length := by unfold PD; simp
        refine ⟨2, PX ps, rfl, by rw [PX_len, hpl]; omega, ?_⟩
        have := ih (ps ++ l'.map fun y => (x, y)) ys m (some (.d (.int x))) ok hs2 (fun y hy => hr y (List.mem_cons_of_mem _ hy)) ?_ ?_ ?_ hF
        · rw [PX_app] at this
          exact this
        · intro r hr'
          rcases List.mem_append.mp hr' with hr' | hr'
          · exact ⟨(hp r hr').1, fun z hz => (hp r hr').2 z (List.mem_cons_of_mem _ hz)⟩
          · obtain ⟨y, hy, rfl⟩ := List.mem_map.mp hr'
            have := hmem y hy
            exact ⟨⟨hx0, this.1, this.2⟩, fun z hz => hs1 z hz⟩
        · refine List.pairwise_append.mpr ⟨hl, ?_, fun r hr' s hs' => ?_⟩
          · rw [List.pairwise_map]
            exact hso.imp fun h => .inr ⟨rfl, h⟩
          · obtain ⟨y, hy, rfl⟩ := List.mem_map.mp hs'
            exact .inl ((hp r hr').2 x List.mem_cons_self)
        · rw [List.length_append, List.length_map]; omega
  · exact h.elim
theorem touch_pair {n : Int} {p : Int × Int} (h : 0 ≤ p.1 ∧ p.1 < p.2 ∧ p.2 < n) : OkT (.tup [.int p.1, .int p.2]) ∧ isTouchB n (.tup [.int p.1, .int p.2]) = true := by
  refine ⟨⟨rfl, fun b ds e x hx => ?_⟩, ?_⟩
  · cases e
    rcases List.mem_cons.mp hx with rfl | hx
    · rfl
    · rcases List.mem_cons.mp hx with rfl | hx
      · rfl
      · cases hx
  · unfold isTouchB
    simp [seqD]
    omega
theorem hw_Lmap_of (g : GM) (xs : List X) (S : Store) (Q : XQ) (E : Exn → Store → Prop) (h : sp_Lmap_of g xs S Q E) : w_Lmap_of g { nx := fun _ S' => Q (.d .non) S', rt := Q } (startD ["_law_chart_here"] xs) S (fun _ _ _ => False) := by
  unfold sp_Lmap_of at h
  split at h
  · rename_i d
    obtain ⟨n, ps, rfl, ok, rfl, hq⟩ := h
    unfold w_Lmap_of chartD
    simp
    refine ⟨.d (.int n), rfl, .d (.lst (PD ps)), rfl, ?_⟩
    simp
    refine ⟨_, ⟨_, xdata_PX ps, rfl⟩, fun a => ?_⟩
    refine callI (Sc := [(a, .obj g.Map [])]) rfl (by simp) fun Q' E' hQ => ⟨rfl, ok.lo, by have := ok.hi; omega, false, PD ps, rfl, ?_, fun e he => ?_, ?_⟩
    · have := ok.sz
      unfold PD; rw [List.length_map]; omega
    · unfold PD at he
      obtain ⟨p, hp, rfl⟩ := List.mem_map.mp he
      exact touch_pair (ok.pr p hp)
    · have := hQ (.d .non) [(a, .obj g.Map [("many", .d (.int n)), ("touches", .d (.tup (PD (normT n (PD ps)))))])] [] rfl ⟨rfl, hq a⟩
      exact this
  · exact h.elim
end DP

set_option Elab.async false
set_option linter.all false
set_option maxRecDepth 100000
set_option maxHeartbeats 1000000
namespace DP
open PySem PySem.Spec PyProof.Rows L2
open Evl (Ex ex_l ex_t ex_rd fresh_back)

/-! ### pouring, parts -/
inductive Pour (ts : List (Int × Int)) (cs ws : List Int) : Int → Prop
  | base {x : Int} : x ∈ cs → x ∈ ws → Pour ts cs ws x
  | step {x y : Int} : Pour ts cs ws y → x ∈ around ts y → x ∈ ws → Pour ts cs ws x
noncomputable def pourL (n : Int) (ts : List (Int × Int)) (cs ws : List Int) : List Int := (rng n).filter fun x => @decide (Pour ts cs ws x) (Classical.propDecidable _)
theorem mem_pourL {n : Int} {ts : List (Int × Int)} {cs ws : List Int} {x : Int} : x ∈ pourL n ts cs ws ↔ (0 ≤ x ∧ x < n) ∧ Pour ts cs ws x := by
  unfold pourL
  rw [List.mem_filter, mem_rng]; simp
theorem pourL_asc (n : Int) (ts : List (Int × Int)) (cs ws : List Int) : (pourL n ts cs ws).Pairwise (· < ·) := (rng_sorted n).filter _
theorem pourL_len (n : Int) (ts : List (Int × Int)) (cs ws : List Int) : (pourL n ts cs ws).length ≤ n.toNat := rng_small (p := fun x => @decide (Pour ts cs ws x) (Classical.propDecidable _)) rfl
noncomputable def partsF (n : Int) (ts : List (Int × Int)) (cs : List Int) : List Int → List (List Int) → List (List Int)
  | [], acc => acc
  | c :: l, acc => partsF n ts cs l (if acc.all (fun p => decide (c ∉ p)) then acc ++ [pourL n ts [c] cs] else acc)
noncomputable def partsL (n : Int) (ts : List (Int × Int)) (cs : List Int) : List (List Int) := partsF n ts cs (part n cs) []
def TD (xs : List (List Int)) : List D := xs.map fun l => .tup (ID l)
def sp_poured (g : GM) : DSp := fun xs S Q _ => match xs with
  | [.d m, .d d, .d e] => S = [] ∧ ∃ n ts b cs b' ws, m = mapO g n ts ∧ OkM n ts ∧ seqD d = some (b, ID cs) ∧ seqD e = some (b', ID ws) ∧ ws.length ≤ 10000 ∧ (∀ c ∈ cs, 0 ≤ c ∧ c < n) ∧ (∀ c ∈ ws, 0 ≤ c ∧ c < n) ∧ Q (.d (.tup (ID (pourL n ts cs ws)))) []
  | _ => False
def sp_parts (g : GM) : DSp := fun xs S Q _ => match xs with
  | [.d m, .d d] => S = [] ∧ ∃ n ts b cs, m = mapO g n ts ∧ OkM n ts ∧ seqD d = some (b, ID cs) ∧ cs.length ≤ 10000 ∧ (∀ c ∈ cs, 0 ≤ c ∧ c < n) ∧ Q (.d (.tup (TD (partsL n ts cs)))) []
  | _ => False
def sp_is_joined (g : GM) : DSp := fun xs S Q _ => match xs with
  | [.d m, .d d] => S = [] ∧ ∃ n ts b cs, m = mapO g n ts ∧ OkM n ts ∧ seqD d = some (b, ID cs) ∧ cs.length ≤ 10000 ∧ (∀ c ∈ cs, 0 ≤ c ∧ c < n) ∧ Q (.d (.bl (decide ((partsL n ts cs).length < 2)))) []
  | _ => False
section
variable {g : GM} (xs : List X) (S : Store) (Q : XQ) (E : Exn → Store → Prop)
theorem len_poured (h : sp_poured g xs S Q E) : xs.length = 3 := by
  unfold sp_poured at h
  split at h
  · rfl
  · exact h.elim
theorem len_parts (h : sp_parts g xs S Q E) : xs.length = 2 := by
  unfold sp_parts at h
  split at h
  · rfl
  · exact h.elim
theorem len_is_joined (h : sp_is_joined g xs S Q E) : xs.length = 2 := by
  unfold sp_is_joined at h
  split at h
  · rfl
  · exact h.elim
end
theorem pour_ws {ts : List (Int × Int)} {cs ws : List Int} {x : Int} (h : Pour ts cs ws x) : x ∈ ws := by
  cases h with
  | base _ h => exact h
  | step _ _ h => exact h
end DP

set_option Elab.async false
set_option linter.all false
set_option maxRecDepth 100000
set_option maxHeartbeats 1000000
namespace DP
open PySem PySem.Spec PyProof.Rows L2
open Evl (Ex ex_l ex_t ex_rd fresh_back)
/-! ### the readings of pouring and parting (printed by the generator) -/
def w_poured_b1 (g : GM) : WS := (wIfS (wAnd (wTest (wOp (dIn false) (wVar 5) (wVar 2))) (wTest (wDIn true (wVar 5) (wVar 4)))) (wSeq (wDPut (wVar 4) (wVar 5) (wC (.bl true)))
  (wDrop (wBM dAppend (wVar 3) (wCons (wVar 5) wNil)))) wNext)
/-- Map.poured -/
def w_poured (g : GM) : WS := (wSeq (wDrop (wMeth g.Map "check_cells" (sp_check_cells g) [] [] (wVar 0) (wCons (wVar 1) wNil)))
  (wSeq (wDrop (wMeth g.Map "check_cells" (sp_check_cells g) [] [] (wVar 0) (wCons (wVar 2) wNil)))
  (wSeq (wAsg (wLc (wISeq (wVar 2)) (dName 5) (wTest (wOp (dIn false) (wVar 5) (wVar 1))) (wVar 5) [5]) (dName 3))
  (wSeq (wAsg (wDcH (wVar 3) (dName 5) wYes (wVar 5) (wC (.bl true)) [5]) (dName 4))
  (wSeq (wWhile (wTest (wOp dNe (wVar 3) (wFz (wLst wNil))))
  (wFor (wISeq (wMeth g.Map "around" (sp_around g) [] [] (wVar 0) (wCons (wBM dPop (wVar 3) wNil) wNil))) (dName 5)
  (w_poured_b1 g)))
  (wFreezeD 4 (wForget 0 (wRet (wCall (sp_ascending g) [] [] (wCons (wVar 4) wNil))))))))))
/-- Map.parts -/
def w_parts (g : GM) : WS := (wSeq (wAsg (wLst wNil) (dName 2))
  (wSeq (wFor (wISeq (wMeth g.Map "cells" (sp_cells g) [] [] (wVar 0) (wCons (wVar 1) wNil))) (dName 3)
  (wIfS (wTest (wCB dAll (wCons (wFz (wLcH (wVar 2) (dName 4) wYes (wOp (dIn true) (wVar 3) (wVar 4)) [4])) wNil))) (wDrop (wBM dAppend (wVar 2) (wCons (wMeth g.Map "poured" (sp_poured g) [] [] (wVar 0) (wCons (wTup (wCons (wVar 3) wNil)) (wCons (wVar 1) wNil))) wNil))) wNext))
  (wFreeze 2 (wForget 0 (wRet (wCB dTupleOf (wCons (wVar 2) wNil)))))))
/-- Map.is_joined -/
def w_is_joined (g : GM) : WS := (wRet (wOp dLt (wCB dLen (wCons (wMeth g.Map "parts" (sp_parts g) [] [] (wVar 0) (wCons (wVar 1) wNil)) wNil)) (wC (.int 2))))
end DP

set_option Elab.async false
set_option linter.all false
set_option maxRecDepth 100000
set_option maxHeartbeats 1000000
namespace DP
open PySem PySem.Spec PyProof.Rows L2
open Evl (Ex ex_l ex_t ex_rd fresh_back)

def miss (n : Int) (found : List Int) : Nat := ((rng n).filter fun x => decide (x ∉ found)).length
theorem miss_le (n : Int) (f : List Int) : miss n f ≤ n.toNat := rng_small (p := fun x => decide (x ∉ f)) rfl
theorem miss_add {n x : Int} {f : List Int} (h0 : 0 ≤ x) (h1 : x < n) (hx : x ∉ f) : miss n (f ++ [x]) + 1 ≤ miss n f := by
  unfold miss
  have h : (rng n).filter (fun y => decide (y ∉ f ++ [x])) = ((rng n).filter fun y => decide (y ∉ f)).filter fun y => decide (y ≠ x) := by
    rw [List.filter_filter]
    exact List.filter_congr fun y _ => by simp [and_comm]
  rw [h]
  have : x ∈ (rng n).filter fun y => decide (y ∉ f) := by rw [List.mem_filter, mem_rng]; simp [h0, h1, hx]
  have h2 := List.length_filter_lt_length_iff_exists (p := fun y => decide (y ≠ x)) (l := (rng n).filter fun y => decide (y ∉ f))
  have := h2.mpr ⟨x, this, by simp⟩
  omega
theorem valKD_kvT (ks : List Int) (k : Int) : (valKD (kvT ks) (.inl k)).isSome = decide (k ∈ ks) := by
  unfold valKD kvT
  induction ks with
  | nil => rfl
  | cons x xs ih =>
    rw [List.map_cons, List.find?_cons]
    by_cases h : x = k
    · subst h; simp
    · have hk : ¬ k = x := fun e => h e.symm
      have h2 : decide (((Sum.inl x : Key), D.bl true).1 = Sum.inl k) = false := by simpa using h
      rw [h2]
      rw [ih]
      exact decide_eq_decide.mpr (by rw [List.mem_cons]; simp [hk])
/-- what holds while it pours -/
structure PInv (n : Int) (ts : List (Int × Int)) (cs ws : List Int) (w f : List Int) : Prop where
  pour : ∀ x ∈ f, Pour ts cs ws x
  sub : ∀ x ∈ w, x ∈ f
  base : ∀ x ∈ cs, x ∈ ws → x ∈ f
  z1 : w.length + miss n f ≤ 11000
  z2 : f.length + miss n f ≤ 11000
theorem pour_all {n : Int} {ts : List (Int × Int)} {cs ws f : List Int} (h : PInv n ts cs ws [] f) (hd : ∀ x ∈ f, ∀ y ∈ around ts x, y ∈ ws → y ∈ f) (x : Int) : x ∈ f ↔ Pour ts cs ws x := by
  refine ⟨h.pour x, fun hp => ?_⟩
  induction hp with
  | base h1 h2 => exact h.base _ h1 h2
  | step _ h1 h2 ih => exact hd _ ih _ h1 h2
theorem poured_b1 {g : GM} {Δ : DEnds} {E : XR} {n : Int} {ts : List (Int × Int)} {s d : Option X} {e : D} {b' : Bool} {q1 q2 : Addr} {cs ws w f : List Int} (hs : seqD e = some (b', ID ws)) (inv : PInv n ts cs ws w f) {x : Int} (hx : x ∈ ws → Pour ts cs ws x) (hr : x ∈ ws → 0 ≤ x ∧ x < n)
    (h : ∀ w' f', PInv n ts cs ws w' f' → (∀ y, y ∈ w → y ∈ w') → (∀ y, y ∈ f → y ∈ f') → (∀ y, y ∈ f' → y ∉ w' → y ∈ f ∧ y ∉ w) → (x ∈ ws → x ∈ f') → w'.length + miss n f' ≤ w.length + miss n f → Δ.nx [s, d, some (.d e), some (.h q1), some (.h q2), some (.d (.int x))] [(q1, .lst (IX w')), (q2, .dct (kvT f'))]) :
    w_poured_b1 g Δ [s, d, some (.d e), some (.h q1), some (.h q2), some (.d (.int x))] [(q1, .lst (IX w)), (q2, .dct (kvT f))] E := by
  have hsz : sizeLine = 16777216 := rfl
  have z1 := inv.z1
  have z2 := inv.z2
  unfold w_poured_b1
  simp
  refine q_inI hs ?_
  by_cases hw : x ∈ ws
  · simp [hw]
    refine ⟨1, kvT f, rfl, ?_⟩
    have hval := valKD_kvT f x
    dsimp only
    by_cases hf : x ∈ f
    · rw [if_neg (fun z => by rw [z] at hval; simp [hf] at hval)]
      exact h w f inv (fun _ h => h) (fun _ h => h) (fun y h1 h2 => ⟨h1, h2⟩) (fun _ => hf) (Nat.le_refl _)
    · have hno : valKD (kvT f) (.inl x) = none := by
        cases e : valKD (kvT f) (.inl x) with
        | none => rfl
        | some v => rw [e] at hval; simp [hf] at hval
      rw [if_pos hno]
      refine ⟨1, kvT f, rfl, by rw [kvT_len]; omega, ?_⟩
      rw [put_kvT]
      have ea : addK f x = f ++ [x] := by unfold addK; rw [if_neg hf]
      rw [ea]
      refine ⟨⟨0, _, rfl⟩, 0, _, rfl, by rw [IX_len]; omega, ?_⟩
      have e1 : IX w ++ [X.d (.int x)] = IX (w ++ [x]) := by unfold IX; rw [List.map_append]; rfl
      rw [e1]
      have hm := miss_add (hr hw).1 (hr hw).2 hf
      refine h (w ++ [x]) (f ++ [x]) ⟨fun y hy => ?_, fun y hy => ?_, fun y h1 h2 => List.mem_append_left _ (inv.base y h1 h2), ?_, ?_⟩ (fun y hy => List.mem_append_left _ hy) (fun y hy => List.mem_append_left _ hy) (fun y h1 h2 => ?_) (fun _ => by simp) ?_
      · rcases List.mem_append.mp hy with hy | hy
        · exact inv.pour y hy
        · simp at hy; subst hy; exact hx hw
      · rcases List.mem_append.mp hy with hy | hy
        · exact List.mem_append_left _ (inv.sub y hy)
        · exact List.mem_append_right _ hy
      · rw [List.length_append]; simp; omega
      · rw [List.length_append]; simp; omega
      · simp at h1 h2
        exact ⟨h1.resolve_right h2.2, h2.1⟩
      · rw [List.length_append]; simp; omega
  · simp [hw]
    exact h w f inv (fun _ h => h) (fun _ h => h) (fun y h1 h2 => ⟨h1, h2⟩) (fun z => absurd z hw) (Nat.le_refl _)
end DP

set_option Elab.async false
set_option linter.all false
set_option maxRecDepth 100000
set_option maxHeartbeats 1000000
namespace DP
open PySem PySem.Spec PyProof.Rows L2
open Evl (Ex ex_l ex_t ex_rd fresh_back)

theorem hw_poured {EE : XR} (g : GM) (xs : List X) (S : Store) (Q : XQ) (E : Exn → Store → Prop) (h : sp_poured g xs S Q E) : w_poured g { nx := fun _ S' => Q (.d .non) S', rt := Q } (startD ["self", "cells", "within", "waiting", "found", "cell"] xs) S EE := by
  unfold sp_poured at h
  split at h
  · rename_i m d e
    obtain ⟨rfl, n, ts, b, cs, b', ws, rfl, ok, hs, hs', hl, hr, hr', hq⟩ := h
    have hsz : sizeLine = 16777216 := rfl
    have hn := ok.hi
    unfold w_poured
    simp
    refine ⟨objAt_map, callP fun Q' E' hQ => ⟨n, ts, b, cs, rfl, hs, hr, hQ _ ?_⟩⟩
    refine ⟨objAt_map, callP fun Q' E' hQ => ⟨n, ts, b', ws, rfl, hs', hr', hQ _ ?_⟩⟩
    simp [hs']
    intro q1
    refine lcrawI (S0 := []) (fun n : Int => X.d (.int n)) (fun x => decide (x ∈ cs)) (fun n => n) ws (by omega) ?_ q1 ?_
    · intro a ha S' K Kf hc h1 hk
      simp
      refine q_inI hs ?_
      by_cases e : a ∈ cs
      · simpa [e] using h1 (by simpa using e)
      · simpa [e] using hk (by simpa using e)
    rw [List.map_id']
    have hw0 : ∀ x, x ∈ ws.filter (fun x => decide (x ∈ cs)) ↔ x ∈ ws ∧ x ∈ cs := fun x => by rw [List.mem_filter]; simp
    have hl0 : (ws.filter fun x => decide (x ∈ cs)).length ≤ 10000 := Nat.le_trans (List.length_filter_le _ _) hl
    generalize ws.filter (fun x => decide (x ∈ cs)) = w0 at hw0 hl0 ⊢
    simp
    refine ⟨⟨0, _, rfl⟩, fun q2 => ?_⟩
    refine dcH_T (S0 := [(q1, Cell.lst (IX w0))]) (j := 0) w0 (by omega) rfl ?_ q2 ?_
    · intro a ha S' K Kf hc hK
      simpa using hK
    simp
    have hf0 : ∀ x, x ∈ w0.foldl addK [] ↔ x ∈ w0 := fun x => by rw [mem_fold]; simp
    have hl1 : (w0.foldl addK []).length ≤ 10000 := by have := fold_len (l := w0) (ks := []); simp at this; omega
    generalize w0.foldl addK [] = f0 at hf0 hl1 ⊢
    have hm0 := miss_le n f0
    have inv0 : PInv n ts cs ws w0 f0 := ⟨fun x hx => .base ((hw0 x).mp ((hf0 x).mp hx)).2 ((hw0 x).mp ((hf0 x).mp hx)).1, fun x hx => (hf0 x).mpr hx, fun x h1 h2 => (hf0 x).mpr ((hw0 x).mpr ⟨h2, h1⟩), by omega, by omega⟩
    have hd0 : ∀ x ∈ f0, x ∉ w0 → ∀ y ∈ around ts x, y ∈ ws → y ∈ f0 := fun x hx hnw => absurd ((hf0 x).mp hx) hnw
    refine ⟨w0.length + miss n f0 + 1, ?_⟩
    suffices hh : ∀ (Fin : Env → Store → Prop) (k : Nat) (w f : List Int) (o : Option X), w.length + miss n f ≤ k → PInv n ts cs ws w f → (∀ x ∈ f, x ∉ w → ∀ y ∈ around ts x, y ∈ ws → y ∈ f) →
        (∀ f o, PInv n ts cs ws [] f → (∀ x ∈ f, ∀ y ∈ around ts x, y ∈ ws → y ∈ f) → Fin [some (.d (mapO g n ts)), some (.d d), some (.d e), some (.h q1), some (.h q2), o] [(q1, .lst (IX [])), (q2, .dct (kvT f))]) →
        whileD (wTest (wOp dNe (wVar 3) (wFz (wLst wNil)))) (wFor (wISeq (wMeth g.Map "around" (sp_around g) [] [] (wVar 0) (wCons (wBM dPop (wVar 3) wNil) wNil))) (dName 5) (w_poured_b1 g))
          ⟨Fin, Q, fun _ _ => False, fun _ _ => False⟩ EE (k + 1) [some (.d (mapO g n ts)), some (.d d), some (.d e), some (.h q1), some (.h q2), o] [(q1, .lst (IX w)), (q2, .dct (kvT f))] from by
      refine hh _ _ w0 f0 none (Nat.le_refl _) inv0 hd0 fun f o inv hd => ?_
      simp
      refine ⟨1, kvT f, rfl, ?_⟩
      have hz := inv.z2
      have hwalk : walkD (.dct (kvT f)) = some (ID f) := by
        show some _ = _
        unfold kvT ID
        rw [List.map_map]; rfl
      refine callP fun Q' E' hQ => ⟨rfl, f, hwalk, by omega, fun ys h1 h2 => hQ _ ?_⟩
      have e : ys = pourL n ts cs ws := by
        refine asc_ext h1 (pourL_asc n ts cs ws) fun x => ?_
        rw [h2, mem_pourL, pour_all inv hd]
        exact ⟨fun hp => ⟨hr' x (pour_ws hp), hp⟩, fun hp => hp.2⟩
      rw [e]
      exact hq
    intro Fin k
    induction k with
    | zero =>
      intro w f o hk inv hd hF
      have e : w = [] := List.eq_nil_of_length_eq_zero (by omega)
      subst e
      rw [while_succ]
      simp
      refine qn_hnil (i := 0) (xs := []) rfl ?_
      simp
      exact hF f o inv fun x hx => hd x hx (by simp)
    | succ k ih =>
      intro w f o hk inv hd hF
      rw [while_succ]
      simp
      refine qn_hnil (i := 0) (xs := w) rfl ?_
      by_cases he : w = []
      · subst he
        simp
        exact hF f o inv fun x hx => hd x hx (by simp)
      · simp [he]
        refine ⟨objAt_map, ⟨0, _, rfl⟩, 0, _, rfl, _, IX_last he, ?_⟩
        rw [IX_dl]
        have hx0 : w.getLast he ∈ w := List.getLast_mem he
        have hxf := inv.sub _ hx0
        have hwl : 0 < w.length := List.length_pos_iff.mpr he
        have hsplit : ∀ y, y ∈ w → y ∈ w.dropLast ∨ y = w.getLast he := fun y hy => by
          have e : w = w.dropLast ++ [w.getLast he] := (List.dropLast_concat_getLast he).symm
          rw [e] at hy
          rcases List.mem_append.mp hy with hy | hy
          · exact .inl hy
          · simp at hy; exact .inr hy
        refine callP fun Q' E' hQ => ⟨n, ts, rfl, ok, hQ _ ?_⟩
        simp
        have inv1 : PInv n ts cs ws w.dropLast f := ⟨inv.pour, fun x hx => inv.sub x (List.dropLast_subset _ hx), inv.base, by have := inv.z1; rw [List.length_dropLast]; omega, inv.z2⟩
        have hk1 : w.dropLast.length + miss n f ≤ k := by rw [List.length_dropLast]; omega
        have hd1 : ∀ x ∈ f, x ∉ w.dropLast → x ≠ w.getLast he → ∀ y ∈ around ts x, y ∈ ws → y ∈ f := fun x hx h1 h2 => hd x hx fun hw => (hsplit x hw).elim h1 h2
        generalize w.getLast he = x0 at hxf hd1 ⊢
        generalize w.dropLast = w1 at inv1 hk1 hd1 ⊢
        have hp0 := inv.pour x0 hxf
        suffices hh : ∀ (l w f : List Int) (o : Option X), w.length + miss n f ≤ k → PInv n ts cs ws w f → x0 ∈ f → (∀ y ∈ l, y ∈ around ts x0) → (∀ x ∈ f, x ∉ w → x ≠ x0 → ∀ y ∈ around ts x, y ∈ ws → y ∈ f) → (∀ y ∈ around ts x0, y ∈ ws → y ∈ l ∨ y ∈ f) →
            loopD (dName 5) (w_poured_b1 g) ⟨fun δ2 S2 => whileD (wTest (wOp dNe (wVar 3) (wFz (wLst wNil)))) (wFor (wISeq (wMeth g.Map "around" (sp_around g) [] [] (wVar 0) (wCons (wBM dPop (wVar 3) wNil) wNil))) (dName 5) (w_poured_b1 g)) ⟨Fin, Q, fun _ _ => False, fun _ _ => False⟩ EE (k + 1) δ2 S2, Q, Fin,
              fun δ2 S2 => whileD (wTest (wOp dNe (wVar 3) (wFz (wLst wNil)))) (wFor (wISeq (wMeth g.Map "around" (sp_around g) [] [] (wVar 0) (wCons (wBM dPop (wVar 3) wNil) wNil))) (dName 5) (w_poured_b1 g)) ⟨Fin, Q, fun _ _ => False, fun _ _ => False⟩ EE (k + 1) δ2 S2⟩ EE (IX l)
              [some (.d (mapO g n ts)), some (.d d), some (.d e), some (.h q1), some (.h q2), o] [(q1, .lst (IX w)), (q2, .dct (kvT f))] from
          hh (around ts x0) w1 f o hk1 inv1 hxf (fun y hy => hy) hd1 fun y hy _ => .inl hy
        intro l
        induction l with
        | nil =>
          intro w f o hk inv hx0 hl hd hb
          refine ih w f o hk inv (fun x hx hnw y hy hyw => ?_) hF
          by_cases e : x = x0
          · subst e; exact (hb y hy hyw).resolve_left (by simp)
          · exact hd x hx hnw e y hy hyw
        | cons y l ih2 =>
          intro w f o hk inv hx0 hl hd hb
          show loopD _ _ _ _ (.d (.int y) :: IX l) _ _
          rw [loop_cons]
          simp
          refine poured_b1 hs' inv (fun hyw => .step hp0 (hl y List.mem_cons_self) hyw) (fun hyw => hr' y hyw) fun w' f' inv' h1 h2 h3 h4 h5 => ?_
          refine ih2 w' f' _ (by omega) inv' (h2 x0 hx0) (fun z hz => hl z (List.mem_cons_of_mem _ hz)) (fun x hx hnw hne z hz hzw => ?_) fun z hz hzw => ?_
          · obtain ⟨a1, a2⟩ := h3 x hx hnw
            exact h2 z (hd x a1 a2 hne z hz hzw)
          · rcases hb z hz hzw with hz' | hz'
            · rcases List.mem_cons.mp hz' with rfl | hz'
              · exact .inr (h4 hzw)
              · exact .inl hz'
            · exact .inr (h2 z hz')
  · exact h.elim
end DP

set_option Elab.async false
set_option linter.all false
set_option maxRecDepth 100000
set_option maxHeartbeats 1000000
namespace DP
open PySem PySem.Spec PyProof.Rows L2
open Evl (Ex ex_l ex_t ex_rd fresh_back)

/-- a comprehension over a list that may change, each of its turns told -/
theorem lcHz {α : Type} {dg : DTg} {wt : WT} {we : WE} {Q : XQ} {δ0 : Env} {S0 : Store} {n : Nat} {a : Addr} {j : Nat} (inj : α → X) (p : α → Bool) (f : α → D) (l : List α) (hl : l.length ≤ sizeLine) (hj : S0[j]? = some (a, Cell.lst (l.map inj)))
    (hs : ∀ a ∈ l, ∀ (S : Store) (K : X → Store → Prop) (Kf : Store → Prop), (∃ c, S = S0 ++ [c]) → (p a = true → K (.d (f a)) S) → (p a = false → Kf S) →
      dg (inj a) δ0 S fun δ2 S2 => wt δ2 S2 (fun b S3 => if b = true then we δ2 S3 K E0' else Kf S3) E0')
    (q : Q (.d (.lst ((l.filter p).map f))) S0) (ad : Addr) (hn : n = S0.length := by simp) : ∃ fu, lcH dg wt we n ad (fzQ Q) δ0 a fu 0 (S0 ++ [(ad, .lst [])]) := by
  subst hn
  have hjl : j < S0.length := (List.getElem?_eq_some_iff.mp hj).1
  have key : ∀ (r : List α) (i : Nat) (acc : List D), l.drop i = r → acc.length + r.length ≤ sizeLine → Q (.d (.lst (acc ++ (r.filter p).map f))) S0 → lcH dg wt we S0.length ad (fzQ Q) δ0 a (r.length + 1) i (S0 ++ [(ad, .lst (acc.map X.d))]) := by
    intro r
    induction r with
    | nil =>
      intro i acc hr _ q
      refine ⟨j, l.map inj, by rw [List.getElem?_append_left hjl]; exact hj, ?_⟩
      have : l.length ≤ i := by
        have := congrArg List.length hr
        rw [List.length_drop] at this
        simp at this; omega
      rw [List.getElem?_eq_none (by rw [List.length_map]; exact this)]
      rw [List.filter_nil, List.map_nil, List.append_nil] at q
      show fzQ Q (.h ad) (S0 ++ [(ad, .lst (acc.map X.d))])
      rw [x_fzh, x_dataL, xdata_map]
      exact ⟨_, rfl, q⟩
    | cons x r ih =>
      intro i acc hr hz q
      rw [List.length_cons] at hz
      refine ⟨j, l.map inj, by rw [List.getElem?_append_left hjl]; exact hj, ?_⟩
      have hx : l[i]? = some x := by
        have := congrArg (fun z => z[0]?) hr
        simpa using this
      have hX : (l.map inj)[i]? = some (inj x) := by rw [List.getElem?_map, hx]; rfl
      have hdr : l.drop (i + 1) = r := by rw [← List.drop_drop, hr]; rfl
      rw [hX]
      refine hs x (List.mem_of_getElem? hx) _ _ _ ⟨_, rfl⟩ (fun hp => ?_) fun hp => ?_
      · refine ⟨acc.map X.d, by simp, by rw [List.length_map]; omega, ?_⟩
        rw [List.set_append_right _ _ (Nat.le_refl _), Nat.sub_self, List.set_cons_zero]
        have e : acc.map X.d ++ [X.d (f x)] = (acc ++ [f x]).map X.d := by rw [List.map_append]; rfl
        rw [e]
        refine ih (i + 1) (acc ++ [f x]) hdr (by rw [List.length_append]; simp; omega) ?_
        rw [List.filter_cons, if_pos hp, List.map_cons] at q
        rw [List.append_assoc]; exact q
      · refine ih (i + 1) acc hdr (by omega) ?_
        rw [List.filter_cons, hp] at q
        exact q
  exact ⟨l.length + 1, key l 0 [] (by simp) (by simpa using hl) (by simpa using q)⟩
def TX (xs : List (List Int)) : List X := xs.map fun l => .d (.tup (ID l))
theorem TX_eq (xs : List (List Int)) : (TD xs).map X.d = TX xs := by unfold TD TX; rw [List.map_map]; rfl
theorem TX_app (a b : List (List Int)) : TX (a ++ b) = TX a ++ TX b := by unfold TX; rw [List.map_append]
theorem xdata_TX (xs : List (List Int)) : xdata (TX xs) = some (TD xs) := by rw [← TX_eq]; exact xdata_map _
theorem hw_parts {EE : XR} (g : GM) (xs : List X) (S : Store) (Q : XQ) (E : Exn → Store → Prop) (h : sp_parts g xs S Q E) : w_parts g { nx := fun _ S' => Q (.d .non) S', rt := Q } (startD ["self", "cells", "found", "cell", "part"] xs) S EE := by
  unfold sp_parts at h
  split at h
  · rename_i m d
    obtain ⟨rfl, n, ts, b, cs, rfl, ok, hs, hl, hr, hq⟩ := h
    have hsz : sizeLine = 16777216 := rfl
    have hn := ok.hi
    unfold w_parts
    simp
    intro q1
    refine ⟨objAt_map, callP fun Q' E' hQ => ⟨n, ts, b, cs, rfl, hs, by omega, hr, hQ _ ?_⟩⟩
    simp
    suffices hh : ∀ (Fin : Env → Store → Prop) (l : List Int) (acc : List (List Int)) (o : Option X), (∀ x ∈ l, 0 ≤ x ∧ x < n) → acc.length + l.length ≤ 1000 →
        (∀ o, Fin [some (.d (mapO g n ts)), some (.d d), some (.h q1), o, none] [(q1, .lst (TX (partsF n ts cs l acc)))]) →
        loopD (dName 3) (wIfS (wTest (wCB dAll (wCons (wFz (wLcH (wVar 2) (dName 4) wYes (wOp (dIn true) (wVar 3) (wVar 4)) [4])) wNil))) (wDrop (wBM dAppend (wVar 2) (wCons (wMeth g.Map "poured" (sp_poured g) [] [] (wVar 0) (wCons (wTup (wCons (wVar 3) wNil)) (wCons (wVar 1) wNil))) wNil))) wNext)
          ⟨Fin, Q, fun _ _ => False, fun _ _ => False⟩ EE (IX l) [some (.d (mapO g n ts)), some (.d d), some (.h q1), o, none] [(q1, .lst (TX acc))] from by
      refine hh _ (part n cs) [] none (fun x hx => (mem_part.mp hx).1) (by have := part_len n cs; simp; omega) fun o => ?_
      simp
      refine ⟨0, _, rfl, .lst (TD (partsL n ts cs)), by rw [x_dataL, xdata_TX]; rfl, ?_⟩
      rw [x_tupL]
      exact hq
    intro Fin l
    induction l with
    | nil => intro acc o _ _ hF; exact hF o
    | cons c l ih =>
      intro acc o hlr hz hF
      rw [List.length_cons] at hz
      show loopD _ _ _ _ (.d (.int c) :: IX l) _ _
      rw [loop_cons]
      simp
      refine ⟨⟨0, _, rfl⟩, fun q2 => ?_⟩
      refine lcHz (S0 := [(q1, Cell.lst (TX acc))]) (j := 0) (fun p : List Int => X.d (.tup (ID p))) (fun _ => true) (fun p => .bl (decide (c ∉ p))) acc (by omega) rfl ?_ ?_ q2
      · intro a ha S' K Kf hc h1 hk
        simp
        refine q_notInI (b := true) (zs := a) rfl ?_
        simpa using h1 rfl
      rw [filter_yes]
      refine ⟨acc.map fun p => decide (c ∉ p), by simp, ?_⟩
      have e : (acc.map fun p => decide (c ∉ p)).all id = acc.all fun p => decide (c ∉ p) := by rw [List.all_map]; rfl
      rw [e]
      have hF' : ∀ o, Fin [some (.d (mapO g n ts)), some (.d d), some (.h q1), o, none] [(q1, .lst (TX (partsF n ts cs l (if acc.all (fun p => decide (c ∉ p)) then acc ++ [pourL n ts [c] cs] else acc))))] := hF
      cases hall : acc.all fun p => decide (c ∉ p) with
      | true =>
        rw [hall] at hF'
        simp
        refine ⟨⟨0, _, rfl⟩, objAt_map, by decide, ?_⟩
        refine callP fun Q' E' hQ => ⟨rfl, n, ts, true, [c], b, cs, rfl, ok, rfl, hs, hl, by simpa using hlr c List.mem_cons_self, hr, hQ _ ?_⟩
        refine ⟨0, _, rfl, by unfold TX; rw [List.length_map]; omega, ?_⟩
        have := ih (acc ++ [pourL n ts [c] cs]) (some (.d (.int c))) (fun x hx => hlr x (List.mem_cons_of_mem _ hx)) (by rw [List.length_append]; simp; omega) hF'
        rw [TX_app] at this
        exact this
      | false =>
        rw [hall] at hF'
        simp
        exact ih acc _ (fun x hx => hlr x (List.mem_cons_of_mem _ hx)) (by omega) hF'
  · exact h.elim
theorem hw_is_joined {EE : XR} (g : GM) (xs : List X) (S : Store) (Q : XQ) (E : Exn → Store → Prop) (h : sp_is_joined g xs S Q E) : w_is_joined g { nx := fun _ S' => Q (.d .non) S', rt := Q } (startD ["self", "cells"] xs) S EE := by
  unfold sp_is_joined at h
  split at h
  · rename_i m d
    obtain ⟨rfl, n, ts, b, cs, rfl, ok, hs, hl, hr, hq⟩ := h
    unfold w_is_joined
    simp
    refine ⟨objAt_map, callP fun Q' E' hQ => ⟨rfl, n, ts, b, cs, rfl, ok, hs, hl, hr, hQ _ ?_⟩⟩
    have e : ((TD (partsL n ts cs)).length : Int) < 2 ↔ (partsL n ts cs).length < 2 := by unfold TD; rw [List.length_map]; omega
    simp
    rw [decide_eq_decide.mpr e]
    exact hq
  · exact h.elim
end DP

set_option Elab.async false
set_option linter.all false
set_option maxRecDepth 100000
set_option maxHeartbeats 1000000
namespace DP
open PySem PySem.Spec PyProof.Rows L2
open Evl (Ex ex_l ex_t ex_rd fresh_back)

/-! ### data of small numbers, nested: repr, == -/
/-- of depth k at most, b parts at most -/
def Tr (k b : Nat) (d : D) : Prop := ∃ p, d.py = some p ∧ p.canLay0 = true ∧ p.depth ≤ k ∧ p.showable = true ∧ p.leavesShort 8 = true ∧ p.bulk ≤ b
theorem tr_int {i : Int} (h0 : 0 ≤ i) (h1 : i < 1000) : Tr 0 0 (.int i) := by
  obtain ⟨a1, a2, a3⟩ := short_ints [i] (by simpa using ⟨h0, h1⟩)
  refine ⟨.int i, rfl, rfl, Nat.le_refl _, ?_, ?_, Nat.le_refl _⟩
  · rw [List.map_cons] at a2
    unfold PyData.showableAll at a2
    exact (Bool.and_eq_true_iff.mp a2).1
  · rw [List.map_cons] at a1
    unfold PyData.leavesShortAll at a1
    exact (Bool.and_eq_true_iff.mp a1).1
theorem tr_bl {c : Bool} : Tr 0 0 (.bl c) := ⟨.bool c, rfl, rfl, Nat.le_refl _, rfl, rfl, Nat.le_refl _⟩
theorem tr_all {k b : Nat} : ∀ ds : List D, (∀ d ∈ ds, Tr k b d) → ∃ ps, pys ds = some ps ∧ PyData.canLayAll0 ps = true ∧ PyData.depthAll ps ≤ k ∧ PyData.showableAll ps = true ∧ PyData.leavesShortAll 8 ps = true ∧ PyData.bulkAll ps ≤ ds.length * (b + 1)
  | [], _ => ⟨[], rfl, rfl, Nat.zero_le _, rfl, rfl, Nat.zero_le _⟩
  | d :: ds, h => by
    obtain ⟨p, e, c1, c2, c3, c4, c5⟩ := h d List.mem_cons_self
    obtain ⟨ps, es, d1, d2, d3, d4, d5⟩ := tr_all ds fun x hx => h x (List.mem_cons_of_mem _ hx)
    refine ⟨p :: ps, ?_, ?_, ?_, ?_, ?_, ?_⟩
    · unfold pys; rw [e, es]
    · unfold PyData.canLayAll0; rw [c1, d1]; rfl
    · unfold PyData.depthAll; exact Nat.max_le.mpr ⟨c2, d2⟩
    · unfold PyData.showableAll; rw [c3, d3]; rfl
    · unfold PyData.leavesShortAll; rw [c4, d4]; rfl
    · unfold PyData.bulkAll
      rw [List.length_cons, Nat.add_mul, Nat.one_mul]; omega
theorem tr_tup {k b : Nat} {ds : List D} (h : ∀ d ∈ ds, Tr k b d) : Tr (k + 1) (ds.length * (b + 1)) (.tup ds) := by
  obtain ⟨ps, es, d1, d2, d3, d4, d5⟩ := tr_all ds h
  exact ⟨.tuple ps, by unfold D.py; rw [es]; rfl, d1, Nat.succ_le_succ d2, d3, d4, d5⟩
theorem tr_lst {k b : Nat} {ds : List D} (h : ∀ d ∈ ds, Tr k b d) : Tr (k + 1) (ds.length * (b + 1)) (.lst ds) := by
  obtain ⟨ps, es, d1, d2, d3, d4, d5⟩ := tr_all ds h
  exact ⟨.list ps, by unfold D.py; rw [es]; rfl, d1, Nat.succ_le_succ d2, d3, d4, d5⟩
theorem Tr.up {k k' b b' : Nat} {d : D} (h : Tr k b d) (hk : k ≤ k') (hb : b ≤ b') : Tr k' b' d := by
  obtain ⟨p, e, c1, c2, c3, c4, c5⟩ := h
  exact ⟨p, e, c1, Nat.le_trans c2 hk, c3, c4, Nat.le_trans c5 hb⟩
mutual
theorem eqv_self : ∀ p : PyData, p.canLay0 = true → PyData.eqv p p = true
  | .none, _ => rfl
  | .bool b, _ => by unfold PyData.eqv; exact beq_self_eq_true b
  | .int i, _ => by unfold PyData.eqv; exact beq_self_eq_true i
  | .str x, _ => by unfold PyData.eqv; exact beq_self_eq_true x
  | .list xs, h => by unfold PyData.eqv; exact eqvs_self xs h
  | .tuple xs, h => by unfold PyData.eqv; exact eqvs_self xs h
  | .dict _, h => by cases h
theorem eqvs_self : ∀ ps : List PyData, PyData.canLayAll0 ps = true → PyData.eqvAll ps ps = true
  | [], _ => rfl
  | p :: ps, h => by
    unfold PyData.canLayAll0 at h
    obtain ⟨h1, h2⟩ := Bool.and_eq_true_iff.mp h
    unfold PyData.eqvAll
    rw [eqv_self p h1, eqvs_self ps h2]; rfl
end
section
variable {S : Store} {Q : XQ} {k b : Nat} {d : D}
theorem tr_shaped {p : PyData} (h1 : p.canLay0 = true) (h2 : p.depth ≤ 64) : SeqAt.shaped p = true := by
  unfold SeqAt.shaped
  rw [h1, Bool.true_and]; exact decide_eq_true h2
theorem q_eqT (h : Tr 64 b d) (q : Q (.d (.bl true)) S) : dEq (.d d) (.d d) S Q := by
  obtain ⟨p, e, c1, c2, _⟩ := h
  exact ⟨p, e, p, e, tr_shaped c1 c2, tr_shaped c1 c2, by rw [eqv_self p c1]; exact q⟩
theorem q_neT (h : Tr 64 b d) (q : Q (.d (.bl false)) S) : dNe (.d d) (.d d) S Q := by
  obtain ⟨p, e, c1, c2, _⟩ := h
  exact ⟨p, e, p, e, tr_shaped c1 c2, tr_shaped c1 c2, by rw [eqv_self p c1]; exact q⟩
/-- repr, twice the same -/
theorem q_reprTr (h : Tr 64 (2 ^ 20) d) (q : ∀ s : Str, (∀ (S : Store) (Q : XQ), Q (.d (.str s)) S → dRepr [.d d] S Q) → Q (.d (.str s)) S) : dRepr [.d d] S Q := by
  obtain ⟨p, e, c1, c2, c3, c4, c5⟩ := h
  have key : ∀ (S : Store) (Q : XQ), Q (.d (.str p.shown)) S → dRepr [.d d] S Q := fun S Q q => ⟨p, e, c3, PyData.shown_fits_bulk (B := 8) (by decide) (by decide) c4 c5, tr_shaped c1 c2, q⟩
  exact key S Q (q _ key)
end
end DP

set_option Elab.async false
set_option linter.all false
set_option maxRecDepth 100000
set_option maxHeartbeats 1000000
namespace DP
open PySem PySem.Spec PyProof.Rows L2
open Evl (Ex ex_l ex_t ex_rd fresh_back)

/-! ### the laws' own reckoning on charts -/
def besideL (n : Int) (ps : List (Int × Int)) (c : Int) : List Int := (rng n).filter fun o => decide ((c, o) ∈ ps) || decide ((o, c) ∈ ps)
def sp_Lbeside (g : GM) : DSp := fun xs S Q _ => match xs with
  | [.d d, .d (.int c)] => ∃ n ps, d = chartD n ps ∧ OkC n ps ∧ S = [] ∧ ∀ q, Q (.h q) [(q, .lst (IX (besideL n ps c)))]
  | _ => False
def sp_Lgiven (g : GM) : DSp := fun xs S Q _ => match xs with
  | [.h p, .d d] => ∃ b ys m cs, S = dealS b p ys m ∧ DealOk ys m ∧ d = .tup (ID cs) ∧ cs.length ≤ 400 ∧ ∀ ys m e bb zs, DealOk ys m → (e = .lst (ID zs) ∨ e = .tup (ID zs)) → seqD e = some (bb, ID zs) → (∀ x, x ∈ zs ↔ x ∈ cs) → zs.length ≤ 800 → Q (.d e) (dealS b p ys m)
  | _ => False
section
variable {g : GM} (xs : List X) (S : Store) (Q : XQ) (E : Exn → Store → Prop)
theorem len_Lbeside (h : sp_Lbeside g xs S Q E) : xs.length = 2 := by
  unfold sp_Lbeside at h
  split at h
  · rfl
  · exact h.elim
theorem len_Lgiven (h : sp_Lgiven g xs S Q E) : xs.length = 2 := by
  unfold sp_Lgiven at h
  split at h
  · rfl
  · exact h.elim
end
/-! ### the touches of a chart's map -/
theorem mem_norm {n : Int} {ps : List (Int × Int)} (ok : OkC n ps) (p : Int × Int) : p ∈ normT n (PD ps) ↔ p ∈ ps := by
  have ht : ∀ e ∈ PD ps, isTouchB n e = true := fun e he => by
    unfold PD at he
    obtain ⟨q, hq, rfl⟩ := List.mem_map.mp he
    exact (touch_pair (ok.pr q hq)).2
  rw [mem_normT ht]
  unfold PD
  constructor
  · rintro ⟨e, he, rfl⟩
    obtain ⟨q, hq, rfl⟩ := List.mem_map.mp he
    have : pairOf (.tup [.int q.1, .int q.2]) = q := by
      rw [pairOf_seq (b := true) (x := q.1) (y := q.2) rfl]
      unfold ordP; rw [if_pos (ok.pr q hq).2.1]
    rw [this]; exact hq
  · intro hp
    refine ⟨_, List.mem_map.mpr ⟨p, hp, rfl⟩, ?_⟩
    rw [pairOf_seq (b := true) (x := p.1) (y := p.2) rfl]
    unfold ordP; rw [if_pos (ok.pr p hp).2.1]
theorem okM_norm {n : Int} {ps : List (Int × Int)} (ok : OkC n ps) : OkM n (normT n (PD ps)) := ⟨ok.lo, by have := ok.hi; omega, fun p hp => ok.pr p ((mem_norm ok p).mp hp), Nat.le_trans (normT_len n _ ok.lo (by have := ok.hi; omega)) (by decide)⟩
theorem normT_lex (n : Int) (hn : 1 ≤ n) (ds : List D) : (normT n ds).Pairwise Lex := by
  unfold normT
  rw [List.pairwise_map]
  refine ((rng_sorted (n * n)).filter _).imp fun {a b} h => ?_
  have h1 : a / n ≤ b / n := Int.ediv_le_ediv (by omega) (by omega)
  by_cases e : a / n = b / n
  · refine .inr ⟨e, ?_⟩
    have ha := Int.emod_def a n
    have hb := Int.emod_def b n
    show a % n < b % n
    rw [ha, hb, e]; omega
  · exact .inl (by show a / n < b / n; omega)
theorem mem_around {ts : List (Int × Int)} {c x : Int} : x ∈ around ts c ↔ (x, c) ∈ ts ∨ (c, x) ∈ ts := by
  unfold around
  rw [List.mem_append, List.mem_map, List.mem_map]
  constructor
  · rintro (⟨p, hp, rfl⟩ | ⟨p, hp, rfl⟩)
    · obtain ⟨h1, h2⟩ := List.mem_filter.mp hp
      simp at h2
      subst h2
      exact .inl h1
    · obtain ⟨h1, h2⟩ := List.mem_filter.mp hp
      simp at h2
      subst h2
      exact .inr h1
  · rintro (h | h)
    · exact .inl ⟨_, List.mem_filter.mpr ⟨h, by simp⟩, rfl⟩
    · exact .inr ⟨_, List.mem_filter.mpr ⟨h, by simp⟩, rfl⟩
theorem around_asc {ts : List (Int × Int)} {c : Int} (hl : ts.Pairwise Lex) (hp : ∀ p ∈ ts, p.1 < p.2) : (around ts c).Pairwise (· < ·) := by
  unfold around
  refine List.pairwise_append.mpr ⟨?_, ?_, fun a ha b hb => ?_⟩
  · rw [List.pairwise_map]
    refine List.Pairwise.imp_of_mem ?_ (hl.filter _)
    intro a b ha hb h
    have h1 := (List.mem_filter.mp ha).2
    have h2 := (List.mem_filter.mp hb).2
    simp at h1 h2
    unfold Lex at h
    omega
  · rw [List.pairwise_map]
    refine List.Pairwise.imp_of_mem ?_ (hl.filter _)
    intro a b ha hb h
    have h1 := (List.mem_filter.mp ha).2
    have h2 := (List.mem_filter.mp hb).2
    simp at h1 h2
    unfold Lex at h
    omega
  · obtain ⟨p, h1, rfl⟩ := List.mem_map.mp ha
    obtain ⟨q, h2, rfl⟩ := List.mem_map.mp hb
    obtain ⟨h1, h3⟩ := List.mem_filter.mp h1
    obtain ⟨h2, h4⟩ := List.mem_filter.mp h2
    simp at h3 h4
    have := hp p h1
    have := hp q h2
    omega
theorem mem_beside {n : Int} {ps : List (Int × Int)} {c x : Int} : x ∈ besideL n ps c ↔ (0 ≤ x ∧ x < n) ∧ ((c, x) ∈ ps ∨ (x, c) ∈ ps) := by
  unfold besideL
  rw [List.mem_filter, mem_rng]; simp
theorem around_beside {n : Int} {ps : List (Int × Int)} (ok : OkC n ps) (c : Int) : around (normT n (PD ps)) c = besideL n ps c := by
  have okm := okM_norm ok
  refine asc_ext (around_asc (normT_lex n ok.lo _) fun p hp => (okm.pr p hp).2.1) ((rng_sorted n).filter _) fun x => ?_
  rw [mem_around, mem_norm ok, mem_norm ok]
  show _ ↔ x ∈ besideL n ps c
  rw [mem_beside]
  constructor
  · rintro (h | h)
    · have := ok.pr _ h; exact ⟨⟨by simp at this; omega, by simp at this; omega⟩, .inr h⟩
    · have := ok.pr _ h; exact ⟨⟨by simp at this; omega, by simp at this; omega⟩, .inl h⟩
  · rintro ⟨_, h | h⟩
    · exact .inr h
    · exact .inl h
/-- _law_beside -/
def w_Lbeside (g : GM) : WS := (wRet (wLc (wIR1 (wCons (wOp dIx (wVar 0) (wC (.int 0))) wNil)) (dName 2) (wOr (wTest (wOp dInL (wTup (wCons (wVar 1) (wCons (wVar 2) wNil))) (wOp dIx (wVar 0) (wC (.int 1))))) (wTest (wOp dInL (wTup (wCons (wVar 2) (wCons (wVar 1) wNil))) (wOp dIx (wVar 0) (wC (.int 1)))))) (wVar 2) [2]))
/-- _law_given -/
def w_Lgiven (g : GM) : WS := (wSeq (wAsg (wFz (wCall (sp_Lmixed g) [0, 1] [] (wCons (wVar 0) (wCons (wFz (wOp dCat (wFz (wCB dListOf (wCons (wVar 1) wNil))) (wFz (wLc (wISeq (wVar 1)) (dName 3) (wTest (wOp dEq (wCall (sp_Ldraw g) [0, 1] [] (wCons (wVar 0) (wCons (wC (.int 3)) wNil))) (wC (.int 0)))) (wVar 3) [3])))) wNil)))) (dName 2))
  (wRet (wIf (wTest (wOp dEq (wCall (sp_Ldraw g) [0, 1] [] (wCons (wVar 0) (wCons (wC (.int 2)) wNil))) (wC (.int 0)))) (wVar 2) (wCB dTupleOf (wCons (wVar 2) wNil)))))
theorem ch0 {n : Int} {ps : List (Int × Int)} {S : Store} {Q : XQ} (q : Q (.d (.int n)) S) : dIx (.d (chartD n ps)) (.d (.int 0)) S Q := ⟨.d (.int n), rfl, q⟩
theorem ch1 {n : Int} {ps : List (Int × Int)} {S : Store} {Q : XQ} (q : Q (.d (.lst (PD ps))) S) : dIx (.d (chartD n ps)) (.d (.int 1)) S Q := ⟨.d (.lst (PD ps)), rfl, q⟩
theorem hw_Lbeside (g : GM) (xs : List X) (S : Store) (Q : XQ) (E : Exn → Store → Prop) (h : sp_Lbeside g xs S Q E) : w_Lbeside g { nx := fun _ S' => Q (.d .non) S', rt := Q } (startD ["_law_chart_here", "_law_cell", "_law_other"] xs) S (fun _ _ _ => False) := by
  unfold sp_Lbeside at h
  split at h
  · rename_i d c
    obtain ⟨n, ps, rfl, ok, rfl, hq⟩ := h
    have hsz : sizeLine = 16777216 := rfl
    have hn := ok.hi
    have hn1 := ok.lo
    unfold w_Lbeside
    simp
    refine ch0 ⟨by omega, by omega, ?_⟩
    rw [rgX_rng]
    intro ad
    refine lcrawI (S0 := []) (fun n : Int => X.d (.int n)) (fun o => decide ((c, o) ∈ ps) || decide ((o, c) ∈ ps)) (fun n => n) (rng n) (by rw [rng_len]; omega) ?_ ad ?_
    · intro a ha S' K Kf hc h1 hk
      simp
      refine ⟨by decide, ch1 (q_inP ?_)⟩
      by_cases e1 : (c, a) ∈ ps
      · simpa [e1] using h1 (by simp [e1])
      · simp [e1]
        refine ⟨by decide, ch1 (q_inP ?_)⟩
        by_cases e2 : (a, c) ∈ ps
        · simpa [e2] using h1 (by simp [e2])
        · simpa [e2] using hk (by simp [e1, e2])
    · rw [List.map_id']
      exact hq ad
  · exact h.elim
theorem beside_len {n : Int} {ps : List (Int × Int)} {c : Int} : (besideL n ps c).length ≤ n.toNat := rng_small (p := fun o => decide ((c, o) ∈ ps) || decide ((o, c) ∈ ps)) rfl
theorem listOf_seq {d : D} {b : Bool} {cs : List Int} {S : Store} {Q : XQ} (hs : seqD d = some (b, ID cs)) (h : ∀ q, Q (.h q) (S ++ [(q, .lst (IX cs))])) : dListOf [.d d] S Q := by
  have key : ∀ es, es = ID cs → dListOf [.d (.lst es)] S Q := fun es e => by subst e; simp; exact h
  cases d <;> first | (cases hs; done) | skip
  all_goals
    cases hs
    exact key _ rfl
theorem call_mixed0 {g : GM} {b p : Addr} {ys : List Int} {m : Int} {d : D} {bb : Bool} {cs : List Int} {Q : XQ} {E : Exn → Store → Prop} (ok : DealOk ys m) (hs : seqD d = some (bb, ID cs)) (hl : cs.length < 1000)
    (h : ∀ ys' m' cs' q, DealOk ys' m' → cs'.Perm cs → Q (.h q) (dealS b p ys' m' ++ [(q, .lst (IX cs'))])) : callD (sp_Lmixed g) [0, 1] [.h p, .d d] (dealS b p ys m) Q E :=
  callI (Sc := dealS b p ys m) rfl (by decide) fun Q' E' hQ => ⟨b, ys, m, bb, cs, rfl, ok, hs, hl, fun ys' m' cs' q o hp => hQ (.h q) (dealS b p ys' m') [(q, .lst (IX cs'))] rfl (h ys' m' cs' q o hp)⟩
theorem hw_Lgiven (g : GM) (xs : List X) (S : Store) (Q : XQ) (E : Exn → Store → Prop) (h : sp_Lgiven g xs S Q E) : w_Lgiven g { nx := fun _ S' => Q (.d .non) S', rt := Q } (startD ["_law_deal_here", "_law_cells_here", "_law_found", "_law_cell"] xs) S (fun _ _ _ => False) := by
  unfold sp_Lgiven at h
  split at h
  · rename_i p d
    obtain ⟨b, ys, m, cs, rfl, ok, rfl, hl, hq⟩ := h
    have hsz : sizeLine = 16777216 := rfl
    unfold w_Lgiven
    simp
    intro ad
    refine lcz_draw0 ok (fun n : Int => X.d (.int n)) (fun n => .int n) cs (by omega) ?_ ?_ ad
    · intro a ha ys m ok R' K Kf h1 h2
      simp
      refine call_draw ok (by decide) (by decide) fun ys' m' v ok' v0 v1 => ?_
      simp
      by_cases e : v = 0
      · simpa [e] using h1 ys' m' ok'
      · simpa [e] using h2 ys' m' ok'
    · intro ys m l' ok hsub
      have e : List.map (fun n => D.int n) l' = ID l' := rfl
      rw [e]
      have hlen := hsub.length_le
      simp
      refine ⟨by omega, ?_⟩
      refine call_mixed0 ok (bb := false) (cs := cs ++ l') rfl (by rw [List.length_append]; omega) fun ys m zs q ok hp => ?_
      rw [x_fzIX]
      simp
      have hm : ∀ x, x ∈ zs ↔ x ∈ cs := fun x => by
        rw [hp.mem_iff, List.mem_append]
        exact ⟨fun h => h.elim id fun h => hsub.subset h, .inl⟩
      have hzl : zs.length ≤ 800 := by rw [hp.length_eq, List.length_append]; omega
      refine call_draw0 ok (by decide) (by decide) fun ys m v ok v0 v1 => ?_
      simp
      by_cases e : v = 0
      · simp [e]
        exact hq ys m _ false zs ok (.inl rfl) rfl hm hzl
      · simp [e]
        exact hq ys m _ true zs ok (.inr rfl) rfl hm hzl
  · exact h.elim
section
variable {g : GM} {b p : Addr} {ys : List Int} {m k n : Int} {ps : List (Int × Int)} {S : Store} {Q : XQ} {E : Exn → Store → Prop}
theorem call_chart0 (ok : DealOk ys m) (h0 : 1 ≤ k) (h1 : k ≤ 24) (h : ∀ ys m n ps, DealOk ys m → OkC n ps → n ≤ k → Q (.d (chartD n ps)) (dealS b p ys m)) : callD (sp_Lchart g) [0, 1] [.h p, .d (.int k)] (dealS b p ys m) Q E :=
  callI (Sc := dealS b p ys m) rfl (by decide) fun Q' E' hQ => ⟨h0, h1, b, ys, m, rfl, ok, fun ys m n ps o oc hn => by
    have := hQ (.d (chartD n ps)) (dealS b p ys m) [] rfl (h ys m n ps o oc hn)
    rw [List.append_nil] at this; exact this⟩
theorem call_cells0 (ok : DealOk ys m) (h0 : 0 ≤ n) (h1 : n ≤ 1000) (h : ∀ ys m cs, DealOk ys m → cs.Pairwise (· < ·) → (∀ c ∈ cs, 0 ≤ c ∧ c < n) → Q (.d (.tup (ID cs))) (dealS b p ys m)) : callD (sp_Lcells g) [0, 1] [.h p, .d (.int n)] (dealS b p ys m) Q E :=
  callI (Sc := dealS b p ys m) rfl (by decide) fun Q' E' hQ => ⟨h0, h1, b, ys, m, rfl, ok, fun ys m cs o h1 h2 => by
    have := hQ (.d (.tup (ID cs))) (dealS b p ys m) [] rfl (h ys m cs o h1 h2)
    rw [List.append_nil] at this; exact this⟩
theorem call_given0 {cs : List Int} (ok : DealOk ys m) (hl : cs.length ≤ 400) (h : ∀ ys m e bb zs, DealOk ys m → (e = .lst (ID zs) ∨ e = .tup (ID zs)) → seqD e = some (bb, ID zs) → (∀ x, x ∈ zs ↔ x ∈ cs) → zs.length ≤ 800 → Q (.d e) (dealS b p ys m)) : callD (sp_Lgiven g) [0, 1] [.h p, .d (.tup (ID cs))] (dealS b p ys m) Q E :=
  callI (Sc := dealS b p ys m) rfl (by decide) fun Q' E' hQ => ⟨b, ys, m, cs, rfl, ok, rfl, hl, fun ys m e bb zs o h1 h2 h3 h4 => by
    have := hQ (.d e) (dealS b p ys m) [] rfl (h ys m e bb zs o h1 h2 h3 h4)
    rw [List.append_nil] at this; exact this⟩
theorem call_map (ok : OkC n ps) (h : Q (.d (mapO g n (normT n (PD ps)))) S) : callD (sp_Lmap_of g) [] [.d (chartD n ps)] S (fzQ Q) E :=
  callF fun Q' E' hQ => ⟨n, ps, rfl, ok, rfl, fun a => hQ _ _ (by rw [x_fzh]; exact ⟨_, rfl, h⟩)⟩
theorem qn_str {a : Str} (q : Q (.d (.bl false)) S) : dNeS (.d (.str a)) (.d (.str a)) S Q := ⟨true, by simp [scalD], q⟩
theorem q_repr {d : D} {zs : List Int} (hd : d = .lst (ID zs) ∨ d = .tup (ID zs)) (h : ∀ x ∈ zs, 0 ≤ x ∧ x < 1000) (hl : zs.length ≤ 100000) (q : ∀ s : Str, (∀ (S : Store) (Q : XQ), Q (.d (.str s)) S → dRepr [.d d] S Q) → Q (.d (.str s)) S) : dRepr [.d d] S Q := by
  rcases hd with rfl | rfl
  · exact q_reprL h hl (q _ fun S Q h' => q_reprL h hl h')
  · exact q_reprT h hl (q _ fun S Q h' => q_reprT h hl h')
end
theorem part_self {n : Int} {xs : List Int} (h : xs.Pairwise (· < ·)) (hr : ∀ x ∈ xs, 0 ≤ x ∧ x < n) : part n xs = xs := (asc_part h hr).symm
theorem asc_small {n : Int} {xs : List Int} (h : xs.Pairwise (· < ·)) (hr : ∀ x ∈ xs, 0 ≤ x ∧ x < n) : xs.length ≤ n.toNat := rng_small (asc_part h hr)
theorem call_Lbeside {g : GM} {n c : Int} {ps : List (Int × Int)} {S : Store} {Q : XQ} {E : Exn → Store → Prop} (ok : OkC n ps) (h : Q (.d (.lst (ID (besideL n ps c)))) S) : callD (sp_Lbeside g) [] [.d (chartD n ps), .d (.int c)] S (fzQ Q) E :=
  callF fun Q' E' hQ => ⟨n, ps, rfl, ok, rfl, fun q => hQ _ _ (by rw [x_fzIX]; exact h)⟩
end DP

set_option Elab.async false
set_option linter.all false
set_option maxRecDepth 100000
set_option maxHeartbeats 1000000
namespace DP
open PySem PySem.Spec PyProof.Rows L2
open Evl (Ex ex_l ex_t ex_rd fresh_back)

/-! ### the laws' own reckoning on charts: grown, poured, pieces -/
def growL (n : Int) (ps : List (Int × Int)) (ys : List Int) : List Int := part n (ys ++ ys.flatMap (besideL n ps))
def sp_Lgrown (g : GM) : DSp := fun xs S Q _ => match xs with
  | [.d d, .d e] => ∃ n ps b cs, d = chartD n ps ∧ OkC n ps ∧ S = [] ∧ seqD e = some (b, ID cs) ∧ cs.length ≤ 1000 ∧ Q (.d (.tup (ID (growL n ps cs)))) []
  | _ => False
def sp_Lpoured (g : GM) : DSp := fun xs S Q _ => match xs with
  | [.d ch, .d d, .d e] => S = [] ∧ ∃ n ps b cs b' ws, ch = chartD n ps ∧ OkC n ps ∧ seqD d = some (b, ID cs) ∧ seqD e = some (b', ID ws) ∧ (∀ c ∈ ws, 0 ≤ c ∧ c < n) ∧ Q (.d (.tup (ID (pourL n (normT n (PD ps)) cs ws)))) []
  | _ => False
def sp_Lpieces (g : GM) : DSp := fun xs S Q _ => match xs with
  | [.d ch, .d d] => S = [] ∧ ∃ n ps b cs, ch = chartD n ps ∧ OkC n ps ∧ seqD d = some (b, ID cs) ∧ (∀ c ∈ cs, 0 ≤ c ∧ c < n) ∧ ∀ q, Q (.h q) [(q, .lst (TX (partsL n (normT n (PD ps)) cs)))]
  | _ => False
theorem len_Lgrown {g : GM} (xs : List X) (S : Store) (Q : XQ) (E : Exn → Store → Prop) (h : sp_Lgrown g xs S Q E) : xs.length = 2 := by
  unfold sp_Lgrown at h
  split at h
  · rfl
  · exact h.elim
theorem len_Lpoured {g : GM} (xs : List X) (S : Store) (Q : XQ) (E : Exn → Store → Prop) (h : sp_Lpoured g xs S Q E) : xs.length = 3 := by
  unfold sp_Lpoured at h
  split at h
  · rfl
  · exact h.elim
theorem len_Lpieces {g : GM} (xs : List X) (S : Store) (Q : XQ) (E : Exn → Store → Prop) (h : sp_Lpieces g xs S Q E) : xs.length = 2 := by
  unfold sp_Lpieces at h
  split at h
  · rfl
  · exact h.elim
/-- _law_grown -/
def w_Lgrown (g : GM) : WS := (wSeq (wAsg (wCB dListOf (wCons (wVar 1) wNil)) (dName 2))
  (wSeq (wFor (wISeq (wVar 1)) (dName 3)
  (wDrop (wBM dExtend (wVar 2) (wCons (wFz (wCall (sp_Lbeside g) [] [] (wCons (wVar 0) (wCons (wVar 3) wNil)))) wNil))))
  (wFreeze 2 (wForget 0 (wRet (wCB dTupleOf (wCons (wFz (wLc (wIR1 (wCons (wOp dIx (wVar 0) (wC (.int 0))) wNil)) (dName 3) (wTest (wOp (dIn false) (wVar 3) (wVar 2))) (wVar 3) [3])) wNil)))))))
def w_Lpoured_b1 (g : GM) : WS := (wDrop (wBM dExtend (wVar 3) (wCons (wFz (wOp dRep (wFz (wLst (wCons (wVar 5) wNil))) (wCB dInt (wCons (wAndV (wOp (dIn false) (wVar 5) (wVar 2)) (wOp (dIn true) (wVar 5) (wVar 3))) wNil)))) wNil)))
/-- _law_poured -/
def w_Lpoured (g : GM) : WS := (wSeq (wAsgT 2 (wCons (wLc (wIR1 (wCons (wOp dIx (wVar 0) (wC (.int 0))) wNil)) (dName 6) (wAnd (wTest (wOp (dIn false) (wVar 6) (wVar 1))) (wTest (wOp (dIn false) (wVar 6) (wVar 2)))) (wVar 6) [6]) (wCons (wC (.int 0)) wNil)) (dCons (dName 3) (dCons (dName 4) dNil)))
  (wSeq (wWhile (wTest (wOp dLt (wVar 4) (wCB dLen (wCons (wVar 3) wNil))))
  (wSeq (wFor (wISeq (wFz (wCall (sp_Lbeside g) [] [] (wCons (wVar 0) (wCons (wOp dIx (wVar 3) (wVar 4)) wNil))))) (dName 5)
  (w_Lpoured_b1 g))
  (wAsg (wOp dAdd (wVar 4) (wC (.int 1))) (dName 4))))
  (wFreeze 3 (wForget 0 (wRet (wCB dTupleOf (wCons (wFz (wLc (wIR1 (wCons (wOp dIx (wVar 0) (wC (.int 0))) wNil)) (dName 6) (wTest (wOp (dIn false) (wVar 6) (wVar 3))) (wVar 6) [6])) wNil)))))))
/-- _law_pieces -/
def w_Lpieces (g : GM) : WS := (wSeq (wAsg (wLst wNil) (dName 2))
  (wSeq (wFor (wIR1 (wCons (wOp dIx (wVar 0) (wC (.int 0))) wNil)) (dName 3)
  (wIfS (wAnd (wTest (wOp (dIn false) (wVar 3) (wVar 1))) (wTest (wOp dEq (wFz (wLcH (wVar 2) (dName 4) (wTest (wOp (dIn false) (wVar 3) (wVar 4))) (wVar 4) [4])) (wFz (wLst wNil))))) (wDrop (wBM dAppend (wVar 2) (wCons (wCall (sp_Lpoured g) [] [] (wCons (wVar 0) (wCons (wTup (wCons (wVar 3) wNil)) (wCons (wVar 1) wNil)))) wNil))) wNext))
  (wRet (wVar 2))))
end DP

set_option Elab.async false
set_option linter.all false
set_option maxRecDepth 100000
set_option maxHeartbeats 1000000
namespace DP
open PySem PySem.Spec PyProof.Rows L2
open Evl (Ex ex_l ex_t ex_rd fresh_back)

theorem hw_Lgrown (g : GM) (xs : List X) (S : Store) (Q : XQ) (E : Exn → Store → Prop) (h : sp_Lgrown g xs S Q E) : w_Lgrown g { nx := fun _ S' => Q (.d .non) S', rt := Q } (startD ["_law_chart_here", "_law_cells_here", "_law_near", "_law_cell"] xs) S (fun _ _ _ => False) := by
  unfold sp_Lgrown at h
  split at h
  · rename_i d e
    obtain ⟨n, ps, b, cs, rfl, ok, rfl, hs, hl, hq⟩ := h
    have hsz : sizeLine = 16777216 := rfl
    have hn := ok.hi
    have hn1 := ok.lo
    unfold w_Lgrown
    simp
    refine listOf_seq hs fun q => ?_
    simp [hs]
    suffices hh : ∀ (Fin : Env → Store → Prop) (l acc : List Int) (o : Option X), acc.length + 24 * l.length ≤ 100000 → (∀ o, Fin [some (.d (chartD n ps)), some (.d e), some (.h q), o] [(q, .lst (IX (acc ++ l.flatMap (besideL n ps))))]) →
        loopD (dName 3) (wDrop (wBM dExtend (wVar 2) (wCons (wFz (wCall (sp_Lbeside g) [] [] (wCons (wVar 0) (wCons (wVar 3) wNil)))) wNil)))
          ⟨Fin, Q, fun _ _ => False, fun _ _ => False⟩ (fun _ _ _ => False) (IX l) [some (.d (chartD n ps)), some (.d e), some (.h q), o] [(q, .lst (IX acc))] from by
      refine hh _ cs cs none (by omega) fun o => ?_
      simp
      refine ⟨0, _, rfl, .lst (ID (cs ++ cs.flatMap (besideL n ps))), by rw [x_dataL, xdata_IX]; rfl, ?_⟩
      refine ch0 ⟨by omega, by omega, ?_⟩
      rw [rgX_rng]
      intro ad
      refine lczI (S0 := []) (fun n : Int => X.d (.int n)) (fun x => decide (x ∈ cs ++ cs.flatMap (besideL n ps))) (fun n => n) (rng n) (by rw [rng_len]; omega) ?_ ?_ ad
      · intro a ha S' K Kf hc h1 hk
        simp only [x_name, x_test, x_op, x_var, List.set_cons_succ, List.set_cons_zero, List.getElem?_cons_succ, List.getElem?_cons_zero]
        refine q_inI (b := false) rfl ?_
        by_cases e : a ∈ cs ++ cs.flatMap (besideL n ps)
        · simp only [decide_eq_true e, if_true]; exact h1 (decide_eq_true e)
        · simp only [decide_eq_false e, Bool.false_eq_true, if_false]; exact hk (decide_eq_false e)
      rw [List.map_id', x_tupL]
      exact hq
    intro Fin l
    induction l with
    | nil => intro acc o _ hF; have := hF o; rw [List.flatMap_nil, List.append_nil] at this; exact this
    | cons c l ih =>
      intro acc o hl hF
      rw [List.length_cons] at hl
      show loopD _ _ _ _ (.d (.int c) :: IX l) _ _
      rw [loop_cons]
      simp
      refine ⟨⟨0, _, rfl⟩, callF fun Q' E' hQ => ⟨n, ps, rfl, ok, rfl, fun q2 => hQ _ _ ?_⟩⟩
      have hb := beside_len (n := n) (ps := ps) (c := c)
      show fzQ _ _ ([(q, Cell.lst (IX acc))] ++ [(q2, Cell.lst (IX (besideL n ps c)))])
      rw [x_fzIX]
      simp
      refine ⟨0, IX acc, rfl, by rw [IX_len]; omega, ?_⟩
      have := ih (acc ++ besideL n ps c) (some (.d (.int c))) (by rw [List.length_append]; omega) fun o => by
        have := hF o
        rw [List.flatMap_cons, ← List.append_assoc] at this
        exact this
      simpa using this
  · exact h.elim

/-- what holds while the law pours -/
structure BInv (n : Int) (ts : List (Int × Int)) (cs ws f : List Int) (h : Nat) : Prop where
  pour : ∀ x ∈ f, Pour ts cs ws x
  base : ∀ x ∈ cs, x ∈ ws → x ∈ f
  done : ∀ i x, i < h → f[i]? = some x → ∀ y ∈ around ts x, y ∈ ws → y ∈ f
  z : f.length + miss n f ≤ 1000
theorem Lpoured_b1 {g : GM} {Δ : DEnds} {E : XR} {n : Int} {ts : List (Int × Int)} {ch d o6 : Option X} {e : D} {b' : Bool} {q1 : Addr} {cs ws f : List Int} {h x : Int} (hs : seqD e = some (b', ID ws)) (hr : 0 ≤ x ∧ x < n) (hz : f.length + miss n f ≤ 1000)
    (hk : ∀ f', (f' = f ∨ (x ∈ ws ∧ x ∉ f ∧ f' = f ++ [x])) → (x ∈ ws → x ∈ f') → f'.length + miss n f' ≤ f.length + miss n f → Δ.nx [ch, d, some (.d e), some (.h q1), some (.d (.int h)), some (.d (.int x)), o6] [(q1, .lst (IX f'))]) :
    w_Lpoured_b1 g Δ [ch, d, some (.d e), some (.h q1), some (.d (.int h)), some (.d (.int x)), o6] [(q1, .lst (IX f))] E := by
  have hsz : sizeLine = 16777216 := rfl
  unfold w_Lpoured_b1
  simp
  have hext : ∀ (k : Nat) (f' : List Int), f' = f ++ (List.replicate k [x]).flatten → k ≤ 1 → Δ.nx [ch, d, some (.d e), some (.h q1), some (.d (.int h)), some (.d (.int x)), o6] [(q1, .lst (IX f'))] →
      ∀ kk : Int, kk = (k : Int) → dRep (.d (.lst [.int x])) (.d (.int kk)) [(q1, Cell.lst (IX f))] (fzQ fun x_3 S1 => dExtend q1 [x_3] S1 fun x_4 S1 => Δ.nx [ch, d, some (.d e), some (.h q1), some (.d (.int h)), some (.d (.int x)), o6] S1) := by
    intro k f' hf' hk1 hF kk hkk
    subst hkk
    refine ⟨by omega, by omega, by simp; omega, fun p => ?_⟩
    have e1 : (List.replicate (k : Int).toNat (List.map X.d [D.int x])).flatten = IX (List.replicate k [x]).flatten := by
      rw [Int.toNat_natCast]
      unfold IX
      rw [List.map_flatten, List.map_replicate]; rfl
    rw [e1]
    show fzQ _ (.h p) ([(q1, Cell.lst (IX f))] ++ [(p, Cell.lst (IX (List.replicate k [x]).flatten))])
    rw [x_fzIX]
    simp
    have hl : (List.replicate k [x]).flatten.length ≤ 1 := by simp; omega
    refine ⟨0, IX f, rfl, by rw [IX_len]; omega, ?_⟩
    rw [hf'] at hF
    simpa using hF
  refine ⟨⟨0, _, rfl⟩, by decide, q_inI hs ?_⟩
  by_cases hw : x ∈ ws
  · simp [hw]
    refine ⟨rfl, 0, _, rfl, ID f, xdata_IX f, flat_ID f, ?_⟩
    rw [any_ID]
    by_cases hf : x ∈ f
    · simp [hf]
      exact hext 0 f (by simp) (by omega) (hk f (.inl rfl) (fun _ => hf) (Nat.le_refl _)) 0 rfl
    · simp [hf]
      have hm := miss_add hr.1 hr.2 hf
      exact hext 1 (f ++ [x]) (by simp) (by omega) (hk _ (.inr ⟨hw, hf, rfl⟩) (fun _ => by simp) (by rw [List.length_append]; simp; omega)) 1 rfl
  · simp [hw]
    exact hext 0 f (by simp) (by omega) (hk f (.inl rfl) (fun z => absurd z hw) (Nat.le_refl _)) 0 rfl

theorem IX_nth {f : List Int} {h : Int} (h0 : 0 ≤ h) (h1 : h < f.length) : ∃ x, f[h.toNat]? = some x ∧ atI (IX f) h = some (.d (.int x)) := by
  have hv : h.toNat < f.length := by omega
  refine ⟨f[h.toNat], List.getElem?_eq_getElem hv, ?_⟩
  have := atI_nat (xs := IX f) (j := h.toNat) (v := .d (.int f[h.toNat])) (IX_get hv)
  rw [Int.toNat_of_nonneg h0] at this
  exact this
theorem hw_Lpoured (g : GM) (xs : List X) (S : Store) (Q : XQ) (E : Exn → Store → Prop) (h : sp_Lpoured g xs S Q E) : w_Lpoured g { nx := fun _ S' => Q (.d .non) S', rt := Q } (startD ["_law_chart_here", "_law_cells_here", "_law_within", "_law_found", "_law_here", "_law_other", "_law_cell"] xs) S (fun _ _ _ => False) := by
  unfold sp_Lpoured at h
  split at h
  · rename_i ch d e
    obtain ⟨rfl, n, ps, b, cs, b', ws, rfl, ok, hs, hs', hr, hq⟩ := h
    have hsz : sizeLine = 16777216 := rfl
    have hn := ok.hi
    have hn1 := ok.lo
    have okm := okM_norm ok
    unfold w_Lpoured
    simp
    refine ch0 ⟨by omega, by omega, ?_⟩
    rw [rgX_rng]
    intro q1
    refine lcrawI (S0 := []) (fun n : Int => X.d (.int n)) (fun x => decide (x ∈ cs) && decide (x ∈ ws)) (fun n => n) (rng n) (by rw [rng_len]; omega) ?_ q1 ?_
    · intro a ha S' K Kf hc h1 hk
      simp
      refine q_inI hs ?_
      by_cases e1 : a ∈ cs
      · simp [e1]
        refine q_inI hs' ?_
        by_cases e2 : a ∈ ws
        · simpa [e2] using h1 (by simp [e1, e2])
        · simpa [e2] using hk (by simp [e1, e2])
      · simpa [e1] using hk (by simp [e1])
    rw [List.map_id']
    refine ⟨by decide, ?_⟩
    have hf0 : ∀ x, x ∈ (rng n).filter (fun x => decide (x ∈ cs) && decide (x ∈ ws)) ↔ (0 ≤ x ∧ x < n) ∧ x ∈ cs ∧ x ∈ ws := fun x => by rw [List.mem_filter, mem_rng]; simp
    have hl0 : ((rng n).filter fun x => decide (x ∈ cs) && decide (x ∈ ws)).length ≤ n.toNat := rng_small (p := fun x => decide (x ∈ cs) && decide (x ∈ ws)) rfl
    generalize (rng n).filter (fun x => decide (x ∈ cs) && decide (x ∈ ws)) = f0 at hf0 hl0 ⊢
    have hm0 := miss_le n f0
    have inv0 : BInv n (normT n (PD ps)) cs ws f0 0 := ⟨fun x hx => .base ((hf0 x).mp hx).2.1 ((hf0 x).mp hx).2.2, fun x h1 h2 => (hf0 x).mpr ⟨hr x h2, h1, h2⟩, fun i x hi => absurd hi (by omega), by omega⟩
    refine ⟨f0.length + miss n f0 + 1, ?_⟩
    suffices hh : ∀ (Fin : Env → Store → Prop) (k : Nat) (f : List Int) (hh : Nat) (o5 : Option X), f.length + miss n f ≤ k + hh → hh ≤ f.length → BInv n (normT n (PD ps)) cs ws f hh →
        (∀ f h o5, BInv n (normT n (PD ps)) cs ws f f.length → Fin [some (.d (chartD n ps)), some (.d d), some (.d e), some (.h q1), some (.d (.int h)), o5, none] [(q1, .lst (IX f))]) →
        whileD (wTest (wOp dLt (wVar 4) (wCB dLen (wCons (wVar 3) wNil)))) (wSeq (wFor (wISeq (wFz (wCall (sp_Lbeside g) [] [] (wCons (wVar 0) (wCons (wOp dIx (wVar 3) (wVar 4)) wNil))))) (dName 5) (w_Lpoured_b1 g)) (wAsg (wOp dAdd (wVar 4) (wC (.int 1))) (dName 4)))
          ⟨Fin, Q, fun _ _ => False, fun _ _ => False⟩ (fun _ _ _ => False) (k + 1) [some (.d (chartD n ps)), some (.d d), some (.d e), some (.h q1), some (.d (.int (hh : Int))), o5, none] [(q1, .lst (IX f))] from by
      refine hh _ _ f0 0 none (Nat.le_refl _) (Nat.zero_le _) inv0 fun f h o5 inv => ?_
      simp
      refine ⟨0, _, rfl, .lst (ID f), by rw [x_dataL, xdata_IX]; rfl, ?_⟩
      refine ch0 ⟨by omega, by omega, ?_⟩
      rw [rgX_rng]
      intro ad
      refine lczI (S0 := []) (fun n : Int => X.d (.int n)) (fun x => decide (x ∈ f)) (fun n => n) (rng n) (by rw [rng_len]; omega) ?_ ?_ ad
      · intro a ha S' K Kf hc h1 hk
        simp
        refine q_inI (b := false) (zs := f) rfl ?_
        by_cases e : a ∈ f
        · simpa [e] using h1 (by simpa using e)
        · simpa [e] using hk (by simpa using e)
      rw [List.map_id', x_tupL]
      have e : (rng n).filter (fun x => decide (x ∈ f)) = pourL n (normT n (PD ps)) cs ws := by
        refine asc_ext ((rng_sorted n).filter _) (pourL_asc _ _ _ _) fun x => ?_
        rw [List.mem_filter, mem_rng, mem_pourL]
        simp
        refine fun h0 h1 => ⟨inv.pour x, fun hp => ?_⟩
        clear h0 h1
        induction hp with
        | base a1 a2 => exact inv.base _ a1 a2
        | step _ a1 a2 ih =>
          obtain ⟨i, hi⟩ := List.getElem?_of_mem ih
          exact inv.done i _ (List.getElem?_eq_some_iff.mp hi).1 hi _ a1 a2
      rw [e]
      exact hq
    intro Fin k
    induction k with
    | zero =>
      intro f h o5 hk hle inv hF
      have e : h = f.length := by omega
      subst e
      rw [while_succ]
      simp
      refine ⟨0, _, rfl, ?_⟩
      rw [IX_len]
      simp
      exact hF f _ o5 inv
    | succ k ih =>
      intro f h o5 hk hle inv hF
      rw [while_succ]
      simp
      refine ⟨0, _, rfl, ?_⟩
      rw [IX_len]
      by_cases hlt : h < f.length
      · have hlt' : (h : Int) < (f.length : Int) := by omega
        simp [hlt]
        obtain ⟨x0, hx0, hat⟩ := IX_nth (f := f) (h := (h : Int)) (by omega) (by omega)
        have hx0 : f[h]? = some x0 := by simpa using hx0
        refine ⟨0, _, rfl, _, hat, ?_⟩
        refine call_Lbeside ok ?_
        simp
        have hp0 := inv.pour x0 (List.mem_of_getElem? hx0)
        rw [← around_beside ok]
        suffices hh : ∀ (Gin : Env → Store → Prop) (Rk Ck : Env → Store → Prop) (l f : List Int) (o5 : Option X), f.length + miss n f ≤ k + 1 + h → h < f.length → BInv n (normT n (PD ps)) cs ws f h → f[h]? = some x0 → (∀ y ∈ l, y ∈ around (normT n (PD ps)) x0) → (∀ y ∈ around (normT n (PD ps)) x0, y ∈ ws → y ∈ l ∨ y ∈ f) →
            (∀ f o5, f.length + miss n f ≤ k + 1 + h → h < f.length → BInv n (normT n (PD ps)) cs ws f (h + 1) → Gin [some (.d (chartD n ps)), some (.d d), some (.d e), some (.h q1), some (.d (.int (h : Int))), o5, none] [(q1, .lst (IX f))]) →
            loopD (dName 5) (w_Lpoured_b1 g) ⟨Gin, Q, Rk, Ck⟩ (fun _ _ _ => False) (IX l) [some (.d (chartD n ps)), some (.d d), some (.d e), some (.h q1), some (.d (.int (h : Int))), o5, none] [(q1, .lst (IX f))] from by
          refine hh _ _ _ (around (normT n (PD ps)) x0) f o5 (by omega) hlt inv hx0 (fun y hy => hy) (fun y hy _ => .inl hy) fun f o5 a1 a2 a3 => ?_
          simp
          have := ih f (h + 1) o5 (by omega) (by omega) a3 hF
          simpa using this
        intro Gin Rk Ck l
        induction l with
        | nil =>
          intro f o5 a1 a2 inv hx0 hl hb hG
          refine hG f o5 a1 a2 ⟨inv.pour, inv.base, fun i x hi hx y hy hyw => ?_, inv.z⟩
          by_cases e : i = h
          · subst e
            rw [hx0] at hx
            cases hx
            exact (hb y hy hyw).resolve_left (by simp)
          · exact inv.done i x (by omega) hx y hy hyw
        | cons y l ih2 =>
          intro f o5 a1 a2 inv hx0 hl hb hG
          show loopD _ _ _ _ (.d (.int y) :: IX l) _ _
          rw [loop_cons]
          simp
          have hyr := around_in okm (hl y List.mem_cons_self)
          refine Lpoured_b1 (cs := cs) (ts := normT n (PD ps)) hs' hyr inv.z fun f' hf' hin hlen => ?_
          have hsub : ∀ z, z ∈ f → z ∈ f' := fun z hz => by
            rcases hf' with rfl | ⟨_, _, rfl⟩
            · exact hz
            · exact List.mem_append_left _ hz
          have hget : ∀ i : Nat, i < f.length → f'[i]? = f[i]? := fun i hi => by
            rcases hf' with rfl | ⟨_, _, rfl⟩
            · rfl
            · rw [List.getElem?_append_left hi]
          have hlf : f.length ≤ f'.length := by
            rcases hf' with rfl | ⟨_, _, rfl⟩
            · exact Nat.le_refl _
            · simp
          refine ih2 f' _ (by omega) (by omega) ⟨fun z hz => ?_, fun z h1 h2 => hsub z (inv.base z h1 h2), fun i z hi hz w hw hww => ?_, by have := inv.z; omega⟩ (by rw [hget h a2]; exact hx0) (fun z hz => hl z (List.mem_cons_of_mem _ hz)) (fun z hz hzw => ?_) hG
          · rcases hf' with rfl | ⟨h1, _, rfl⟩
            · exact inv.pour z hz
            · rcases List.mem_append.mp hz with hz | hz
              · exact inv.pour z hz
              · simp at hz; subst hz
                exact .step hp0 (hl _ List.mem_cons_self) h1
          · rw [hget i (by omega)] at hz
            exact hsub w (inv.done i z hi hz w hw hww)
          · rcases hb z hz hzw with hz' | hz'
            · rcases List.mem_cons.mp hz' with rfl | hz'
              · exact .inr (hin hzw)
              · exact .inl hz'
            · exact .inr (hsub z hz')
      · have e : h = f.length := by omega
        subst e
        simp
        exact hF f _ o5 inv
  · exact h.elim
end DP

set_option Elab.async false
set_option linter.all false
set_option maxRecDepth 100000
set_option maxHeartbeats 1000000
namespace DP
open PySem PySem.Spec PyProof.Rows L2
open Evl (Ex ex_l ex_t ex_rd fresh_back)

/-! ### walks by what holds ahead of each turn -/
theorem loop_inv {α : Type} {dg : DTg} {wb : WS} {Δ : DEnds} {E : XR} (inj : α → X) (I : List α → Env → Store → Prop) (l : List α) {δ : Env} {S : Store} (h0 : I l δ S)
    (hs : ∀ (a : α) (l' : List α) (δ : Env) (S : Store) (K : Env → Store → Prop), I (a :: l') δ S → (∀ δ' S', I l' δ' S' → K δ' S') → dg (inj a) δ S fun δ1 S1 => wb ⟨K, Δ.rt, Δ.nx, K⟩ δ1 S1 E)
    (he : ∀ δ S, I [] δ S → Δ.nx δ S) : loopD dg wb Δ E (l.map inj) δ S := by
  induction l generalizing δ S with
  | nil => exact he _ _ h0
  | cons a l ih =>
    rw [List.map_cons, loop_cons]
    exact hs a l δ S _ h0 fun δ' S' h => ih h
theorem loop_invI {dg : DTg} {wb : WS} {Δ : DEnds} {E : XR} (I : List Int → Env → Store → Prop) (l : List Int) {δ : Env} {S : Store} (h0 : I l δ S)
    (hs : ∀ (a : Int) (l' : List Int) (δ : Env) (S : Store) (K : Env → Store → Prop), I (a :: l') δ S → (∀ δ' S', I l' δ' S' → K δ' S') → dg (.d (.int a)) δ S fun δ1 S1 => wb ⟨K, Δ.rt, Δ.nx, K⟩ δ1 S1 E)
    (he : ∀ δ S, I [] δ S → Δ.nx δ S) : loopD dg wb Δ E (IX l) δ S := loop_inv (fun a : Int => X.d (.int a)) I l h0 hs he
theorem while_inv {wt : WT} {wb : WS} {Δ : DEnds} {E : XR} (I : Nat → Env → Store → Prop) (m : Nat) {δ : Env} {S : Store} (h0 : I m δ S)
    (hs : ∀ (m : Nat) (δ : Env) (S : Store) (K : Env → Store → Prop), I m δ S → (∀ m' δ' S', m' < m → I m' δ' S' → K δ' S') →
      wt δ S (fun b S1 => if b = true then wb ⟨K, Δ.rt, Δ.nx, K⟩ δ S1 E else Δ.nx δ S1) E) : ∃ n, whileD wt wb Δ E n δ S := by
  have key : ∀ (n m : Nat) (δ : Env) (S : Store), m < n → I m δ S → whileD wt wb Δ E n δ S := by
    intro n
    induction n with
    | zero => intro m _ _ h; omega
    | succ n ih =>
      intro m δ S hm h
      rw [while_succ]
      exact hs m δ S _ h fun m' δ' S' h' hI => ih m' δ' S' (by omega) hI
  exact ⟨m + 1, key _ m δ S (Nat.lt_succ_self m) h0⟩

/-! ### a list or a tuple -/
def sq (b : Bool) (xs : List D) : D := match b with | true => .tup xs | false => .lst xs
@[simp] theorem seqD_sq {b : Bool} {xs : List D} : seqD (sq b xs) = some (b, xs) := by cases b <;> rfl
theorem seqD_inv {d : D} {b : Bool} {xs : List D} (h : seqD d = some (b, xs)) : d = sq b xs ∨ d = .scr xs := by
  cases d <;> first | (cases h; done) | skip
  all_goals cases h
  · exact .inl rfl
  · exact .inl rfl
  · exact .inr rfl

/-! ### comprehensions whose turns are told -/
theorem lcq {α : Type} {dg : DTg} {wt : WT} {we : WE} {Q : XQ} {δ0 : Env} {S0 : Store} {n : Nat} (inj : α → X) (p : α → Bool) (f : α → D) (l : List α) (hl : l.length ≤ sizeLine)
    (hs : ∀ a ∈ l, ∀ (S : Store) (K : X → Store → Prop) (Kf : Store → Prop), (∃ c, S = S0 ++ [c]) → (if p a = true then K (.d (f a)) S else Kf S) →
      dg (inj a) δ0 S fun δ2 S2 => wt δ2 S2 (fun b S3 => if b = true then we δ2 S3 K E0' else Kf S3) E0')
    (q : Q (.d (.lst ((l.filter p).map f))) S0) (ad : Addr) (hn : n = S0.length := by simp) : lcD dg wt we n ad (fzQ Q) δ0 (l.map inj) (S0 ++ [(ad, .lst [])]) :=
  lcz inj p f l hl (fun a ha S K Kf hc h1 h2 => hs a ha S K Kf hc (by cases e : p a with | true => exact h1 e | false => exact h2 e)) q ad hn
theorem lcqI {α : Type} {dg : DTg} {wt : WT} {we : WE} {Q : XQ} {δ0 : Env} {S0 : Store} {n : Nat} (inj : α → X) (p : α → Bool) (f : α → Int) (l : List α) (hl : l.length ≤ sizeLine)
    (hs : ∀ a ∈ l, ∀ (S : Store) (K : X → Store → Prop) (Kf : Store → Prop), (∃ c, S = S0 ++ [c]) → (if p a = true then K (.d (.int (f a))) S else Kf S) →
      dg (inj a) δ0 S fun δ2 S2 => wt δ2 S2 (fun b S3 => if b = true then we δ2 S3 K E0' else Kf S3) E0')
    (q : Q (.d (.lst (ID ((l.filter p).map f)))) S0) (ad : Addr) (hn : n = S0.length := by simp) : lcD dg wt we n ad (fzQ Q) δ0 (l.map inj) (S0 ++ [(ad, .lst [])]) :=
  lczI inj p f l hl (fun a ha S K Kf hc h1 h2 => hs a ha S K Kf hc (by cases e : p a with | true => exact h1 e | false => exact h2 e)) q ad hn
theorem lcqH {α : Type} {dg : DTg} {wt : WT} {we : WE} {Q : XQ} {δ0 : Env} {S0 : Store} {n : Nat} {a : Addr} {j : Nat} (inj : α → X) (p : α → Bool) (f : α → D) (l : List α) (hl : l.length ≤ sizeLine) (hj : S0[j]? = some (a, Cell.lst (l.map inj)))
    (hs : ∀ a ∈ l, ∀ (S : Store) (K : X → Store → Prop) (Kf : Store → Prop), (∃ c, S = S0 ++ [c]) → (if p a = true then K (.d (f a)) S else Kf S) →
      dg (inj a) δ0 S fun δ2 S2 => wt δ2 S2 (fun b S3 => if b = true then we δ2 S3 K E0' else Kf S3) E0')
    (q : Q (.d (.lst ((l.filter p).map f))) S0) (ad : Addr) (hn : n = S0.length := by simp) : ∃ fu, lcH dg wt we n ad (fzQ Q) δ0 a fu 0 (S0 ++ [(ad, .lst [])]) :=
  lcHz inj p f l hl hj (fun a ha S K Kf hc h1 h2 => hs a ha S K Kf hc (by cases e : p a with | true => exact h1 e | false => exact h2 e)) q ad hn
theorem q_eqNil {k b : Nat} {ds : List D} {S : Store} {Q : XQ} (h : ∀ d ∈ ds, Tr k b d) (hk : k ≤ 63 := by decide) (q : Q (.d (.bl (decide (ds = [])))) S) : dEq (.d (.lst ds)) (.d (.lst [])) S Q := by
  obtain ⟨ps, es, d1, d2, _⟩ := tr_all ds h
  refine ⟨.list ps, by unfold D.py; rw [es]; rfl, .list [], rfl, tr_shaped d1 (Nat.succ_le_succ (Nat.le_trans d2 hk)), rfl, ?_⟩
  have e : PyData.eqv (.list ps) (.list []) = decide (ds = []) := by
    cases ds with
    | nil => cases es; rfl
    | cons d ds =>
      unfold pys at es
      cases ps with
      | nil => split at es <;> cases es
      | cons p ps => rfl
  rw [e]; exact q
section
variable {S : Store} {Q : XQ} {c : Int} {zs : List Int}
@[simp] theorem x_inT {neg : Bool} : dIn neg (.d (.int c)) (.d (.tup (ID zs))) S Q = Q (.d (.bl (if neg then !decide (c ∈ zs) else decide (c ∈ zs)))) S := by
  refine propext ⟨fun ⟨_, xs, e, _, q⟩ => ?_, q_inG (b := true) rfl⟩
  rw [xdata_map] at e
  cases e
  rw [any_ID] at q; exact q
@[simp] theorem x_inL {neg : Bool} : dIn neg (.d (.int c)) (.d (.lst (ID zs))) S Q = Q (.d (.bl (if neg then !decide (c ∈ zs) else decide (c ∈ zs)))) S := by
  refine propext ⟨fun ⟨_, xs, e, _, q⟩ => ?_, q_inG (b := false) rfl⟩
  rw [xdata_map] at e
  cases e
  rw [any_ID] at q; exact q
@[simp] theorem x_inS {neg b : Bool} : dIn neg (.d (.int c)) (.d (sq b (ID zs))) S Q = Q (.d (.bl (if neg then !decide (c ∈ zs) else decide (c ∈ zs)))) S := by
  cases b
  · exact x_inL
  · exact x_inT
end

/-! ### the deal, told by one letter -/
structure DLs where
  ys : List Int
  m : Int
  ok : DealOk ys m
def dS (b p : Addr) (s : DLs) : Store := dealS b p s.ys s.m
@[simp] theorem dS_len {b p : Addr} {s : DLs} : (dS b p s).length = 2 := rfl
/-- a comprehension whose turns may change what stands ahead; what it hands back is told item by item -/
theorem lcA {α σ : Type} {dg : DTg} {wt : WT} {we : WE} {Q : XQ} {δ0 : Env} {n : Nat} (st : σ → Store) (hn : ∀ s, (st s).length = n) (inj : α → X) (R : D → Prop) (l : List α) (hl : l.length ≤ sizeLine) (s : σ)
    (hs : ∀ a ∈ l, ∀ (s : σ) (c : Addr × Cell) (K : X → Store → Prop) (Kf : Store → Prop), (∀ s' d, R d → K (.d d) (st s' ++ [c])) → (∀ s', Kf (st s' ++ [c])) →
      dg (inj a) δ0 (st s ++ [c]) fun δ2 S2 => wt δ2 S2 (fun b S3 => if b = true then we δ2 S3 K E0' else Kf S3) E0')
    (q : ∀ s ds, (∀ d ∈ ds, R d) → ds.length ≤ l.length → Q (.d (.lst ds)) (st s)) (ad : Addr) : lcD dg wt we n ad (fzQ Q) δ0 (l.map inj) (st s ++ [(ad, .lst [])]) := by
  have key : ∀ (l : List α) (acc : List D) (s : σ), acc.length + l.length ≤ sizeLine → (∀ d ∈ acc, R d) →
      (∀ a ∈ l, ∀ (s : σ) (c : Addr × Cell) (K : X → Store → Prop) (Kf : Store → Prop), (∀ s' d, R d → K (.d d) (st s' ++ [c])) → (∀ s', Kf (st s' ++ [c])) →
        dg (inj a) δ0 (st s ++ [c]) fun δ2 S2 => wt δ2 S2 (fun b S3 => if b = true then we δ2 S3 K E0' else Kf S3) E0') →
      (∀ s ds, (∀ d ∈ ds, R d) → ds.length ≤ acc.length + l.length → Q (.d (.lst ds)) (st s)) → lcD dg wt we n ad (fzQ Q) δ0 (l.map inj) (st s ++ [(ad, .lst (acc.map X.d))]) := by
    intro l
    induction l with
    | nil =>
      intro acc s _ ha _ q
      show fzQ Q (.h ad) _
      rw [x_fzh, x_dataL, xdata_map]
      exact ⟨_, rfl, q s acc ha (Nat.le_refl _)⟩
    | cons a l ih =>
      intro acc s hz ha hs q
      rw [List.length_cons] at hz q
      show dg (inj a) δ0 _ _
      refine hs a List.mem_cons_self s _ _ _ (fun s' d hd => ?_) fun s' => ?_
      · refine ⟨acc.map X.d, by rw [← hn s']; simp, by rw [List.length_map]; omega, ?_⟩
        rw [← hn s', List.set_append_right _ _ (Nat.le_refl _), Nat.sub_self, List.set_cons_zero, hn s']
        have e : acc.map X.d ++ [X.d d] = (acc ++ [d]).map X.d := by rw [List.map_append]; rfl
        rw [e]
        exact ih (acc ++ [d]) s' (by rw [List.length_append]; simp; omega) (fun x hx => (List.mem_append.mp hx).elim (ha x) fun h => by simp at h; subst h; exact hd) (fun b hb => hs b (List.mem_cons_of_mem _ hb)) fun s ds h1 h2 => q s ds h1 (by rw [List.length_append] at h2; simp at h2; omega)
      · exact ih acc s' (by omega) ha (fun b hb => hs b (List.mem_cons_of_mem _ hb)) fun s ds h1 h2 => q s ds h1 (by omega)
  exact key l [] s (by simpa using hl) (by simp) hs fun s ds h1 h2 => q s ds h1 (by simpa using h2)
/-- .. without a test: each turn hands back one -/
theorem lcB {α σ : Type} {dg : DTg} {we : WE} {Q : XQ} {δ0 : Env} {n : Nat} (st : σ → Store) (hn : ∀ s, (st s).length = n) (inj : α → X) (R : α → D → Prop) (l : List α) (hl : l.length ≤ sizeLine) (s : σ)
    (hs : ∀ a ∈ l, ∀ (s : σ) (c : Addr × Cell) (K : X → Store → Prop), (∀ s' d, R a d → K (.d d) (st s' ++ [c])) → dg (inj a) δ0 (st s ++ [c]) fun δ2 S2 => we δ2 S2 K E0')
    (q : ∀ s ds, Paired R l ds → Q (.d (.lst ds)) (st s)) (ad : Addr) : lcD dg wYes we n ad (fzQ Q) δ0 (l.map inj) (st s ++ [(ad, .lst [])]) := by
  have key : ∀ (l : List α) (acc : List D) (s : σ), acc.length + l.length ≤ sizeLine →
      (∀ a ∈ l, ∀ (s : σ) (c : Addr × Cell) (K : X → Store → Prop), (∀ s' d, R a d → K (.d d) (st s' ++ [c])) → dg (inj a) δ0 (st s ++ [c]) fun δ2 S2 => we δ2 S2 K E0') →
      (∀ s ds, Paired R l ds → Q (.d (.lst (acc ++ ds))) (st s)) → lcD dg wYes we n ad (fzQ Q) δ0 (l.map inj) (st s ++ [(ad, .lst (acc.map X.d))]) := by
    intro l
    induction l with
    | nil =>
      intro acc s _ _ q
      show fzQ Q (.h ad) _
      rw [x_fzh, x_dataL, xdata_map]
      exact ⟨_, rfl, by have := q s [] .nil; rwa [List.append_nil] at this⟩
    | cons a l ih =>
      intro acc s hz hs q
      rw [List.length_cons] at hz
      show dg (inj a) δ0 _ _
      refine hs a List.mem_cons_self s _ _ (fun s' d hd => ?_)
      refine ⟨acc.map X.d, by rw [← hn s']; simp, by rw [List.length_map]; omega, ?_⟩
      rw [← hn s', List.set_append_right _ _ (Nat.le_refl _), Nat.sub_self, List.set_cons_zero, hn s']
      have e : acc.map X.d ++ [X.d d] = (acc ++ [d]).map X.d := by rw [List.map_append]; rfl
      rw [e]
      exact ih (acc ++ [d]) s' (by rw [List.length_append]; simp; omega) (fun b hb => hs b (List.mem_cons_of_mem _ hb)) fun s ds h1 => by
        have := q s (d :: ds) (.cons hd h1)
        rwa [List.append_assoc]
  exact key l [] s (by simpa using hl) hs fun s ds h1 => q s ds h1
theorem putB2 {a b c d : Addr × Cell} {R : Store} : putBack (c :: d :: R) [0, 1] [a, b] = a :: b :: R := rfl
section
variable {g : GM} {b p : Addr} {s : DLs} {k n : Int} {R : Store} {Q : XQ} {E : Exn → Store → Prop}
/-- a call that changes the deal alone and hands back a datum -/
theorem call_deal {sp : DSp} {xs : List X} (h : ∀ (Q' : XQ) (E' : Exn → Store → Prop), (∀ (s : DLs) (d : D), Q (.d d) (dS b p s ++ R) → Q' (.d d) (dS b p s)) → sp xs (dS b p s) Q' E') : callD sp [0, 1] xs (dS b p s ++ R) Q E :=
  callI (Sc := dS b p s) rfl (by decide) fun Q' E' hQ => h _ _ fun s d q => by
    have := hQ (.d d) (dS b p s) [] rfl (by rw [List.append_nil]; exact q)
    rwa [List.append_nil] at this
theorem call_deal0 {sp : DSp} {xs : List X} (h : ∀ (Q' : XQ) (E' : Exn → Store → Prop), (∀ (s : DLs) (d : D), Q (.d d) (dS b p s) → Q' (.d d) (dS b p s)) → sp xs (dS b p s) Q' E') : callD sp [0, 1] xs (dS b p s) Q E :=
  call_deal (R := []) fun Q' E' hQ => h Q' E' fun s d q => hQ s d (by rw [List.append_nil]; exact q)
theorem c_draw (h0 : 0 < n := by decide) (h1 : n < 1000000 := by decide) (h : ∀ (s : DLs) v, 0 ≤ v → v < n → Q (.d (.int v)) (dS b p s ++ R)) : callD (sp_Ldraw g) [0, 1] [.h p, .d (.int n)] (dS b p s ++ R) Q E :=
  call_deal fun Q' E' hQ => ⟨h0, h1, b, s.ys, s.m, rfl, s.ok, fun ys m v o a1 a2 => hQ ⟨ys, m, o⟩ _ (h ⟨ys, m, o⟩ v a1 a2)⟩
theorem c_draw0 (h0 : 0 < n := by decide) (h1 : n < 1000000 := by decide) (h : ∀ (s : DLs) v, 0 ≤ v → v < n → Q (.d (.int v)) (dS b p s)) : callD (sp_Ldraw g) [0, 1] [.h p, .d (.int n)] (dS b p s) Q E :=
  call_deal0 fun Q' E' hQ => ⟨h0, h1, b, s.ys, s.m, rfl, s.ok, fun ys m v o a1 a2 => hQ ⟨ys, m, o⟩ _ (h ⟨ys, m, o⟩ v a1 a2)⟩
theorem c_chart (h0 : 1 ≤ k := by decide) (h1 : k ≤ 24 := by decide) (h : ∀ (s : DLs) n ps, OkC n ps → n ≤ k → Q (.d (chartD n ps)) (dS b p s ++ R)) : callD (sp_Lchart g) [0, 1] [.h p, .d (.int k)] (dS b p s ++ R) Q E :=
  call_deal fun Q' E' hQ => ⟨h0, h1, b, s.ys, s.m, rfl, s.ok, fun ys m n ps o oc hn => hQ ⟨ys, m, o⟩ _ (h ⟨ys, m, o⟩ n ps oc hn)⟩
theorem c_chart0 (h0 : 1 ≤ k := by decide) (h1 : k ≤ 24 := by decide) (h : ∀ (s : DLs) n ps, OkC n ps → n ≤ k → Q (.d (chartD n ps)) (dS b p s)) : callD (sp_Lchart g) [0, 1] [.h p, .d (.int k)] (dS b p s) Q E :=
  call_deal0 fun Q' E' hQ => ⟨h0, h1, b, s.ys, s.m, rfl, s.ok, fun ys m n ps o oc hn => hQ ⟨ys, m, o⟩ _ (h ⟨ys, m, o⟩ n ps oc hn)⟩
theorem c_cells (h0 : 0 ≤ n) (h1 : n ≤ 1000) (h : ∀ (s : DLs) cs, cs.Pairwise (· < ·) → (∀ c ∈ cs, 0 ≤ c ∧ c < n) → Q (.d (.tup (ID cs))) (dS b p s ++ R)) : callD (sp_Lcells g) [0, 1] [.h p, .d (.int n)] (dS b p s ++ R) Q E :=
  call_deal fun Q' E' hQ => ⟨h0, h1, b, s.ys, s.m, rfl, s.ok, fun ys m cs o h1 h2 => hQ ⟨ys, m, o⟩ _ (h ⟨ys, m, o⟩ cs h1 h2)⟩
theorem c_cells0 (h0 : 0 ≤ n) (h1 : n ≤ 1000) (h : ∀ (s : DLs) cs, cs.Pairwise (· < ·) → (∀ c ∈ cs, 0 ≤ c ∧ c < n) → Q (.d (.tup (ID cs))) (dS b p s)) : callD (sp_Lcells g) [0, 1] [.h p, .d (.int n)] (dS b p s) Q E :=
  call_deal0 fun Q' E' hQ => ⟨h0, h1, b, s.ys, s.m, rfl, s.ok, fun ys m cs o h1 h2 => hQ ⟨ys, m, o⟩ _ (h ⟨ys, m, o⟩ cs h1 h2)⟩
theorem c_given {cs : List Int} (hl : cs.length ≤ 400) (h : ∀ (s : DLs) bb zs, (∀ x, x ∈ zs ↔ x ∈ cs) → zs.length ≤ 800 → Q (.d (sq bb (ID zs))) (dS b p s ++ R)) : callD (sp_Lgiven g) [0, 1] [.h p, .d (.tup (ID cs))] (dS b p s ++ R) Q E :=
  call_deal fun Q' E' hQ => ⟨b, s.ys, s.m, cs, rfl, s.ok, rfl, hl, fun ys m e bb zs o h1 h2 h3 h4 => hQ ⟨ys, m, o⟩ _ (by
    rcases h1 with rfl | rfl
    · exact h ⟨ys, m, o⟩ false zs h3 h4
    · exact h ⟨ys, m, o⟩ true zs h3 h4)⟩
theorem c_given0 {cs : List Int} (hl : cs.length ≤ 400) (h : ∀ (s : DLs) bb zs, (∀ x, x ∈ zs ↔ x ∈ cs) → zs.length ≤ 800 → Q (.d (sq bb (ID zs))) (dS b p s)) : callD (sp_Lgiven g) [0, 1] [.h p, .d (.tup (ID cs))] (dS b p s) Q E :=
  call_deal0 fun Q' E' hQ => ⟨b, s.ys, s.m, cs, rfl, s.ok, rfl, hl, fun ys m e bb zs o h1 h2 h3 h4 => hQ ⟨ys, m, o⟩ _ (by
    rcases h1 with rfl | rfl
    · exact h ⟨ys, m, o⟩ false zs h3 h4
    · exact h ⟨ys, m, o⟩ true zs h3 h4)⟩
end
/-! ### ranges, charts, told at once -/
theorem rg_rng0 (n : Int) : (List.range (n - 0).toNat).map (fun i : Nat => D.int (0 + (i : Int))) = ID (rng n) := by
  unfold ID rng
  rw [List.map_map, Int.sub_zero]
  refine List.map_congr_left fun i _ => ?_
  show D.int (0 + (i : Int)) = D.int (i : Int)
  rw [Int.zero_add]
theorem rgok {n : Int} (h0 : -1000000 ≤ n) (h1 : n ≤ 1000000) : RgOk 0 n := by
  exact ⟨by omega, by omega, by omega, by omega, by omega⟩
section
variable {δ : Env} {S : Store} {Q : XQ} {E : XR} {n : Int} {ps : List (Int × Int)}
@[simp] theorem x_tupRg1 {w : WE} : wTupRg (wRg1 w) δ S Q E = w δ S (fun x S1 => match x with | .d (.int n) => RgOk 0 n ∧ Q (.d (.tup (ID (rng n)))) S1 | _ => False) E := by
  unfold wTupRg wRg1
  congr 1
  funext x S1
  split
  · show (RgOk 0 _ ∧ Q (.d (.tup _)) S1) = (RgOk 0 _ ∧ Q (.d (.tup _)) S1)
    rw [rg_rng0]
  · rename_i h
    first
    | rfl
    | (split
       · exact (h _ rfl).elim
       · rfl)
@[simp] theorem x_lstRg1 {w : WE} : wLstRg (wRg1 w) δ S Q E = w δ S (fun x S1 => match x with | .d (.int n) => RgOk 0 n ∧ ∀ q, Q (.h q) (S1 ++ [(q, .lst (IX (rng n)))]) | _ => False) E := by
  unfold wLstRg wRg1
  congr 1
  funext x S1
  split
  · dsimp only
    rw [Int.sub_zero, rgX_rng]
  · rename_i h
    first
    | rfl
    | (split
       · exact (h _ rfl).elim
       · rfl)
@[simp] theorem x_ch0 : dIx (.d (chartD n ps)) (.d (.int 0)) S Q = Q (.d (.int n)) S := propext ⟨fun ⟨e, h, q⟩ => by cases h; exact q, ch0⟩
@[simp] theorem x_ch1 : dIx (.d (chartD n ps)) (.d (.int 1)) S Q = Q (.d (.lst (PD ps))) S := propext ⟨fun ⟨e, h, q⟩ => by cases h; exact q, ch1⟩
@[simp high] theorem x_ir1r {wa : WA} {R : List X → Store → Prop} : wIR1 wa δ S R E = wa δ S (fun xs S1 => match xs with
  | [.d (.int j)] => -(2 ^ 62) ≤ j ∧ j < 2 ^ 62 ∧ R (IX (rng j)) S1
  | _ => False) E := by
  rw [x_ir1]
  congr 1
  funext xs S1
  split
  · rw [rgX_rng]
  · rename_i h
    first
    | rfl
    | (split
       · exact (h _ rfl).elim
       · rfl)
end
section
variable {S : Store} {Q : XQ}
@[simp] theorem x_intB {c : Bool} : dInt [.d (.bl c)] S Q = Q (.d (.int (if c then 1 else 0))) S := rfl
theorem rep_map {α β : Type} (f : α → β) (l : List α) (k : Nat) : (List.replicate k (l.map f)).flatten = (List.replicate k l).flatten.map f := by rw [List.map_flatten, List.map_replicate]
@[simp high] theorem x_repFz {ds : List D} {k : Int} : dRep (.d (.lst ds)) (.d (.int k)) S (fzQ Q) = (-(2 ^ 63) ≤ k ∧ k < 2 ^ 63 ∧ ds.length * k.toNat ≤ sizeLine ∧ Q (.d (.lst (List.replicate k.toNat ds).flatten)) S) := by
  show (_ ∧ _ ∧ (ds.map X.d).length * k.toNat ≤ sizeLine ∧ ∀ p, fzQ Q (.h p) (S ++ [(p, .lst (List.replicate k.toNat (ds.map X.d)).flatten)])) = _
  rw [rep_map, List.length_map]
  simp only [x_fzh, x_dataL, xdata_map, Option.map_some, Option.some.injEq, exists_eq_left', forall_const]
@[simp high] theorem x_catFz {as bs : List D} : dCat (.d (.lst as)) (.d (.lst bs)) S (fzQ Q) = (as.length + bs.length ≤ sizeLine ∧ Q (.d (.lst (as ++ bs))) S) := by
  rw [x_catL]
  simp only [x_fzh, x_dataL, xdata_app, List.length_map, Option.map_some, Option.some.injEq, exists_eq_left', forall_const]
end
end DP

set_option Elab.async false
set_option linter.all false
set_option maxRecDepth 100000
set_option maxHeartbeats 1000000
namespace DP
open PySem PySem.Spec PyProof.Rows L2
open Evl (Ex ex_l ex_t ex_rd fresh_back)

/-! ### a def of a class's body that begins with super().__init__(..) -/
/-- what the written part says of a def that closes over its class -/
structure SupOk (P : Program) (K : PySem.W.Frag) (mg : Str → Option Value) (sc : Scope) (pr : Arguments) (cda cc D : Addr) (sf : Str) : Prop where
  par : ∃ ar, (pr.posonlyargs ++ pr.args).head? = some ar ∧ ar.arg = sf
  code : ∃ c1 c2 vs c3 file tf, K.lookup cda = some ⟨c1, c2, .fields vs, c3⟩ ∧ vs[2]? = some (.str file tf) ∧ ((P.main.file : Str) == file) = true
  cell : ∃ c1 c2 c3, K.lookup cc = some ⟨c1, c2, .cell (some (.ref D)), c3⟩
  cls : ∃ cd, PySem.W.clsIn K D = some cd
  sub : PySem.W.mroIn K D (.ref D) = some true
  sup : mg "super" = none
  n1 : sc.names.lookup ("super" : Str) = some .globalImplicit
  n2 : sc.names.lookup ("__class__" : Str) = some .free
  n3 : sc.names.lookup sf = some .local
  top : (P.main.scope.names.lookup ("super" : Str)).isSome = false
  opq : PySem.W.nsIn K cStatics "thirdparty.any" = some none
abbrev nfSu (name qual : Str) (pr : Arguments) (body : List Stmt) (sc : Scope) (cc cda : Addr) : NdefX.NF := ⟨name, qual, pr, body, sc, [(("__class__" : Str), cc)], cda⟩
section
variable {CX : CXT} {P : Program} {w : World} {K : PySem.W.Frag} {mg : Str → Option Value} {base : Heap} {N : List Str} {F : NdefX.NF} {f cc cda D x : Addr} {A : Around} {outer : List PySem.Env} {s0 s : Shared} {H0 H : Hp} {E : XK} {pins : List (Addr × Obj)} {σ : L2.St} {sf attr : Str} {fd : FuncData}
/-- super(), as the base of an attribute -/
theorem sup_base {body : List Stmt} {p0 p1 : Pos} {whole : Sem Value} {ox : Obj} {i : Nat} {Q : Value → Shared → Prop} {E' : Value → Shared → Prop} (U : SupOk P K mg F.scope F.params F.c cc D sf) (hcl : F.cl = [(("__class__" : Str), cc)]) (hN : N[i]? = some sf)
    (hfn : ∃ c1 c2 c3, K.lookup f = some ⟨c1, c2, .func fd, c3⟩) (hfp : fd.params = F.params) (I : L2.Inv (NdefX.ncx CX P w K mg base N F f A outer s0 H0 E) pins σ H s) (hσ : σ[i]? = some (some (.ref x))) (hx : s.heap.get? x = some ox) (hcls : ox.cls = .ref D) (hno : ∀ c, ox.data ≠ .cls c)
    (hat : (attr == ("__class__" : Str)) = false)
    (h : ∀ so h', h'.get? so = some (PySem.W.ks_superObj D x D) → so = s.heap.objs.size → (∀ b o, s.heap.get? b = some o → h'.get? b = some o) → Q (.ref so) { s with heap := h' }) :
    PySem.wpAt (model P w) (A.deeper (NdefX.envF F f s0.heap.objs.size)) (.func body (NdefX.envF F f s0.heap.objs.size)) (attributeBase (.Call (.Name "super" p0) [] [] p1) attr (NdefX.envF F f s0.heap.objs.size) whole) Q E' s := by
  obtain ⟨ar, hp, rfl⟩ := U.par
  obtain ⟨c1, c2, vs, c3, file, tf, hcode, hvs, hfile⟩ := U.code
  obtain ⟨d1, d2, d3, hcell⟩ := U.cell
  obtain ⟨cdD, hD⟩ := U.cls
  obtain ⟨e1, e2, e3, hf⟩ := hfn
  have X : K.In s.heap := I.kIn
  obtain ⟨oD, hD1, hD2⟩ : ∃ oD, s.heap.get? D = some oD ∧ oD.data = .cls cdD := by
    unfold PySem.W.clsIn at hD
    split at hD
    · rename_i c d cd' sl ho
      cases hD
      exact ⟨_, X _ _ ho, rfl⟩
    · cases hD
  obtain ⟨mm, hns, hloc⟩ := I.loc
  obtain ⟨u, ru, hl⟩ := hloc i ar.arg (.ref x) hN hσ (.inl U.n3)
  have hu : u = .ref x := ru
  subst hu
  have hm : mm ar.arg = some (.ref x) := by
    rcases hl with ⟨_, hl⟩ | ⟨hl, _⟩
    · exact hl
    · have n3 : (NdefX.ncx CX P w K mg base N F f A outer s0 H0 E).env.kindOf ar.arg = some .local := U.n3
      rw [n3] at hl
      rcases hl with hl | hl <;> cases hl
  obtain ⟨mb, hb1, hb2⟩ := I.mod.blt
  refine ks_wpAt_super_base (env := NdefX.envF F f s0.heap.objs.size) U.n1 U.n2 hat rfl (X _ _ hf) rfl (by rw [hfp]; exact hp) rfl (X _ _ hcode) rfl hvs hfile U.top ?_
  refine PySem.W.ks_loadName_global I.ok.kind U.n1 (Calls.loadGlobal_builtin (by have := I.ok.glob; exact (I.mod.glob.keeps I.bk)) U.sup (hb1.keeps I.bk) ((hb2 _ (by decide)).trans (by decide +kernel)) ⟨rfl, ?_⟩)
  refine wpAny_loadName_free (c := cc) I.ok.kind U.n2 (by show List.lookup _ F.cl = _; rw [hcl]; rfl) ⟨_, X _ _ hcell, rfl⟩ ?_
  refine wpAny_loadName_local I.ok.kind U.n3 hns hm ?_
  obtain ⟨hh, g, d, t, os⟩ := s
  refine ks_wpAny_isType_cls hD1 hD2 ⟨rfl, ?_⟩
  refine ks_wpAny_call_super hD1 hD2 hx hcls hno (PySem.W.looks_mroIn X U.sub) fun h' e k => ?_
  exact h _ h' e rfl k
end
/-- what stands in the written part: the function at f, closing over its class -/
structure FnSu (K : PySem.W.Frag) (f cc cda : Addr) (name qual : Str) (pr : Arguments) (body : List Stmt) (sc : Scope) (fd : FuncData) : Prop where
  at_ : ∃ oc od osl dV kV doc pm an ct, fd = PySem.W.ksFn name qual pr body sc dV kV doc pm an (.ref cda) ct cc ∧ K.lookup f = some ⟨oc, od, .func fd, osl⟩
  code : PySem.W.codeIn K (.ref cda) qual = true
/-- statements run at the def's own code -/
structure PSat (X : Cx) (c : Code) (st : List Stmt) (t : TS) : Prop where
  run : ∀ (pins : List (Addr × Obj)) (s : Shared) (σ : L2.St) (H : Hp) (D : Ends), L2.Inv X pins σ H s → t D σ H → PySem.wpAt (model X.prog X.w) X.A c (execs st X.env) (SP X pins D) X.xe s
theorem psat_of {X : Cx} {c : Code} {st : List Stmt} {t : TS} (h : PSs X st t) : PSat X c st t := ⟨fun pins s σ H D I q => wpAt_of_wpAny (h.run pins s σ H D I q)⟩
theorem psat_cons {X : Cx} {c : Code} {st : Stmt} {rest : List Stmt} {t u : TS} (h : PS X st t) (h2 : PSat X c rest u) : PSat X c (st :: rest) (tSeq t u) := ⟨fun pins s σ H D I q => by
  refine ks_wpAt_execs_cons (wpAt_of_wpAny (wpAny_mono (h.run pins s σ H _ I q) (fun fl s' hs => ?_) fun _ _ z => z))
  cases fl with
  | next =>
    obtain ⟨σ', H', J, q2⟩ := hs
    exact h2.run pins s' σ' H' D J q2
  | ret u => exact hs
  | brk => exact hs
  | cont => exact hs⟩
section
variable {CX : CXT} {P : Program} {w : World} {K : PySem.W.Frag} {mg : Str → Option Value} {base : Heap} {N ps : List Str} {f cc cda D : Addr} {name qual sf : Str} {pr : Arguments} {body : List Stmt} {sc : Scope} {fd : FuncData} {k : Nat} {sp : Sp}
/-- THE RULE for such a def -/
theorem fn_su (U : SupOk P K mg sc pr cda cc D sf) (FS : FnSu K f cc cda name qual pr body sc fd) (S : NdefX.NScope N ps ["__class__"] sc) (len : ∀ vs H Q E, sp vs H Q E → vs.length = ps.length)
    (hbody : ∀ (A : Around) (outer : List PySem.Env) (s : Shared) (H : Hp) (vs : List V) (Q : VK) (E : XK), Room k (A.deeper (NdefX.envF (nfSu name qual pr body sc cc cda) f s.heap.objs.size)) → sp vs H Q E →
      ∃ t, PSat (NdefX.ncx CX P w K mg base N (nfSu name qual pr body sc cc cda) f A outer s H E) (.func body (NdefX.envF (nfSu name qual pr body sc cc cda) f s.heap.objs.size)) body t ∧ t { nx := fun _ H' => Q .non H', rt := Q } (NdefX.startF N vs [some (.ref D)]) H) :
    FnOk P w K mg base CX (k + 1) f fd ps sp := by
  refine ⟨len, fun A outer s H args us vs Q E hr e0 hb r hsp => ?_⟩
  obtain ⟨oc, od, osl, dV, kV, doc, pm, an, ct, rfl, lk⟩ := FS.at_
  have hl := len _ _ _ _ hsp
  have KX : K.In s.heap := e0.mod.kin.keeps fun b o e => (e0.bs b o e).1
  have lim : s.heap.NoLimit := e0.mod.nolimit.keeps fun b o e => (e0.bs b o e).1
  obtain ⟨c1, c2, c3, hcell⟩ := U.cell
  have hcc : base.get? cc = some ⟨c1, c2, .cell (some (.ref D)), c3⟩ := e0.mod.kin _ _ hcell
  have key : ∀ (y : Str) (c : Addr), List.lookup y [(("__class__" : Str), cc)] = some c → y = "__class__" ∧ c = cc := fun y c e => by
    simp only [List.lookup] at e
    split at e
    · rename_i h1
      cases e
      exact ⟨beq_iff_eq.mp h1, rfl⟩
    · cases e
  have C : NdefX.CellsAt [(("__class__" : Str), cc)] ["__class__"] [some (.ref D)] s.heap H := by
    refine ⟨rfl, fun y c e => ?_, fun x y c e1 e2 => (key x c e1).1.trans (key y c e2).1.symm, fun i y e => ?_⟩
    · obtain ⟨_, rfl⟩ := key y c e
      exact ⟨(e0.bs _ _ hcc).2, _, _, (e0.bs _ _ hcc).1, rfl⟩
    · cases i with
      | zero =>
        simp at e
        subst e
        refine ⟨cc, rfl, fun v hv => ?_⟩
        simp at hv
        subst hv
        exact ⟨.ref D, rfl, _, (e0.bs _ _ hcc).1, rfl⟩
      | succ i => simp at e
  refine ks_codeAny_call_defAt hr.depth (KX _ _ lk) rfl lim (PySem.W.codeRec_of KX FS.code) rfl hb S.nocell (fun ⟨n, _⟩ hy => S.par n (List.of_mem_zip hy).1) (fun h₁ hns kp => ?_) S.co S.gen S.kind
  have I : L2.Inv (NdefX.ncx CX P w K mg base N (nfSu name qual pr body sc cc cda) f A outer s H E) [] (NdefX.startF N vs [some (.ref D)]) H { s with heap := h₁, toks := s.toks + (ps.zip us).length } := NdefX.inv_startN S hr.hd e0 hl r C hns kp
  obtain ⟨t, ht, hq⟩ := hbody A outer s H vs Q E (hr.deeper _) hsp
  refine ks_wpAt_mono (ht.run [] _ _ _ _ I hq) (fun fl s' hs => ?_) fun e s' hs => hs
  have fin : ∀ {σ' : L2.St} {H' : Hp} {v : V} {u : Value}, L2.Inv (NdefX.ncx CX P w K mg base N (nfSu name qual pr body sc cc cda) f A outer s H E) [] σ' H' s' → L2.RelV v u → Q v H' → CE outer P w H s Q u s' :=
    fun {σ' H' v u} J rv q => ⟨v, H', J.os, J.bare, J.base, J.hok, rv, q⟩
  cases fl with
  | ret u =>
    obtain ⟨v, σ', H', J, rv, q⟩ := hs
    exact fin J rv q
  | next =>
    obtain ⟨σ', H', J, q⟩ := hs
    exact fin (v := V.non) (u := Value.none) J rfl q
  | brk => exact hs.elim fun _ h => h.elim fun _ h => h.2.elim
  | cont => exact hs.elim fun _ h => h.elim fun _ h => h.2.elim
end
abbrev supCall (es : List Expr) (p0 p1 p2 p3 : Pos) : Expr := .Call (.Attribute (.Call (.Name "super" p0) [] [] p1) "__init__" p2) es [] p3
/-- super().__init__(e, ..), the parent's own: the method is bound ahead of the arguments -/
def tSupO (K : PySem.W.Frag) (D f2 : Addr) (sp2 : Sp) (ta : TA) : TS := fun Δ σ H => ∃ a dx fs, σ[0]? = some (some (.ref a)) ∧ H a = some (.ins D dx fs) ∧ ∀ q, H q = none → ta σ (upd H q (.met f2 a)) fun ws H1 => H1 q = some (.met f2 a) ∧ sp2 (.ref a :: ws) H1 (fun _ H2 => Δ.nx σ H2) fun _ _ _ => False
section
variable {CX CX2 : CXT} {P : Program} {w : World} {K : PySem.W.Frag} {mg : Str → Option Value} {base : Heap} {N : List Str} {f f2 cc cda D : Addr} {name qual sf : Str} {pr : Arguments} {body rest : List Stmt} {sc : Scope} {fd fd2 : FuncData} {k : Nat} {sp2 : Sp} {e : Expr} {es : List Expr} {p0 p1 p2 p3 p4 : Pos} {A : Around} {outer : List PySem.Env} {s : Shared} {H : Hp} {E : XK} {ta : TA} {u : TS} {ps2 : List Str}
theorem psat_supO (U : SupOk P K mg sc pr cda cc D sf) (FS : FnSu K f cc cda name qual pr body sc fd) (hsf : N[0]? = some sf) (F2 : FnOk P w K mg base CX2 k f2 fd2 ps2 sp2) (hr : Room k (A.deeper (NdefX.envF (nfSu name qual pr body sc cc cda) f s.heap.objs.size)))
    (hb2 : Binds K fd2 ps2 []) (hx : Passes CX2 (NdefX.ncx CX P w K mg base N (nfSu name qual pr body sc cc cda) f A outer s H E) (fun _ _ _ => False))
    (hm : PySem.W.ks_superIn K D D "__init__" = some (some (.ref f2))) (ht : PySem.W.fnIn K f2 = true) (ht2 : PySem.W.typeIn K (.ref f2) = some (.type "function"))
    (ha : PA (NdefX.ncx CX P w K mg base N (nfSu name qual pr body sc cc cda) f A outer s H E) (e :: es) ta) (h : PSat (NdefX.ncx CX P w K mg base N (nfSu name qual pr body sc cc cda) f A outer s H E) (.func body (NdefX.envF (nfSu name qual pr body sc cc cda) f s.heap.objs.size)) rest u)
    (hev : ∀ env : PySem.Env, eval (supCall (e :: es) p0 p1 p2 p3) env = (do
      let ov ← attributeBase (.Call (.Name "super" p0) [] [] p1) "__init__" env (eval (.Call (.Name "super" p0) [] [] p1) env)
      standAt p2.atName
      let (f, first) ← holding [ov] (getMethod ov "__init__" (pure false))
      callWith p3 f first (backTo p3 (starEach (e :: es) env)) []) := by intro _; rfl)
    (hsw : ∀ env : PySem.Env, swapsWith (supCall (e :: es) p0 p1 p2 p3) none p4.line env = pure false := by intro _; rfl)
    (he : ∀ env : PySem.Env, starEach (e :: es) env = (false, eval e env) :: starEach es env := by intro _; rfl) (hpl : ∀ env : PySem.Env, (backTo p3 (starEach es env)).any (·.1) = false := by intro _; rfl) :
    PSat (NdefX.ncx CX P w K mg base N (nfSu name qual pr body sc cc cda) f A outer s H E) (.func body (NdefX.envF (nfSu name qual pr body sc cc cda) f s.heap.objs.size)) (.Expr (supCall (e :: es) p0 p1 p2 p3) p4 :: rest) (tSeq (tSupO K D f2 sp2 ta) u) := by
  refine ⟨fun pins s1 σ H1 Δ I ⟨a, dx, fs, hσ, hH, hrd⟩ => ?_⟩
  obtain ⟨oc, od, osl, dV, kV, doc, pm, an, ct, hfd, lk⟩ := FS.at_
  obtain ⟨mA, O, _, _, _, _⟩ := ins_get I.hok hH
  obtain ⟨odx, J, _⟩ := O.look
  refine ks_wpAt_execs_cons (ks_wpAt_Expr_any (ks_wpAt_MethodCall (pl := pure false) ?_ (hev _)) (by unfold interactive; show (sc.kind == _ && _) = false; have := I.ok.kind; have hk : sc.kind = .function := this; rw [hk]; rfl) (hsw _))
  refine sup_base (F := nfSu name qual pr body sc cc cda) (i := 0) U rfl hsf ⟨_, _, _, lk⟩ (by rw [hfd]) I hσ J.at_ J.cls (fun c z => ?_) (by decide) fun so h' e1 e2 kk => ?_
  · have := J.no
    unfold PySem.W.notCls at this
    rw [z] at this
    cases this
  have X : K.In h' := I.kIn.keeps kk
  obtain ⟨cd, hcd⟩ := U.cls
  have hal := hm
  unfold PySem.W.ks_superIn at hal
  rw [hcd] at hal
  obtain ⟨of, hof, hofc⟩ : ∃ of, h'.get? f2 = some of ∧ of.cls = .type "function" := by
    obtain ⟨o, ho, hc⟩ := Option.map_eq_some_iff.mp (show (K.lookup f2).map (·.cls) = some (.type "function") from ht2)
    exact ⟨o, X _ _ ho, hc⟩
  have hax : a ≠ D := PySem.W.ks_ne I.kIn J hcd
  refine ks_wpAny_getMethod_super e1 (PySem.W.looks_opaque X U.opq) (l₀ := cd.mro) (fun A Q E s k q => wpAny_bind ((PySem.W.looks_clsIn X hcd) A _ E s k (wpAny_pure q))) rfl X hal hof hofc hax (by decide) ?_
  have hsz : s1.heap.objs.size ≤ h'.objs.size := Nat.le_of_lt (by rw [← e2]; exact Heap.lt_size e1)
  have hq : H1 h'.objs.size = none := I.hok.fresh hsz
  have I2 := I.laid (h' := h'.push (PySem.W.methodObj (.ref f2) (.ref a))) (t' := s1.toks + 1) (a := h'.objs.size) (o := .met f2 a) (fun b u z => Heap.get?_push_of_some _ (kk b u z)) hsz (Heap.get?_push_at rfl rfl)
  have hst := he (NdefX.envF (nfSu name qual pr body sc cc cda) f s.heap.objs.size)
  have hpl' := hpl (NdefX.envF (nfSu name qual pr body sc cc cda) f s.heap.objs.size)
  have hrun := wpAny_mono (ha.run p3 pins _ σ _ _ I2 (hrd _ hq)) (Q' := fun us s3 => PySem.W.MethP K h'.objs.size f2 (.ref a) s3.heap ∧ wpAny (model P w) (A.deeper (NdefX.envF (nfSu name qual pr body sc cc cda) f s.heap.objs.size)) (call (.ref h'.objs.size) ([] ++ us)) (fun _ s4 => PySem.wpAt (model P w) (A.deeper (NdefX.envF (nfSu name qual pr body sc cc cda) f s.heap.objs.size)) (.func body (NdefX.envF (nfSu name qual pr body sc cc cda) f s.heap.objs.size)) (execs rest (NdefX.envF (nfSu name qual pr body sc cc cda) f s.heap.objs.size)) (SP (NdefX.ncx CX P w K mg base N (nfSu name qual pr body sc cc cda) f A outer s H E) pins Δ) (NdefX.ncx CX P w K mg base N (nfSu name qual pr body sc cc cda) f A outer s H E).xe s4) (NdefX.ncx CX P w K mg base N (nfSu name qual pr body sc cc cda) f A outer s H E).xe s3) (fun us s3 ⟨ws, H3, I3, r, hmet, hsp⟩ => ⟨met_P I3 hmet, ?_⟩) fun _ _ z => z
  · have hst2 : starEach (e :: es) (NdefX.ncx CX P w K mg base N (nfSu name qual pr body sc cc cda) f A outer s H E).env = _ := hst
    rw [hst2] at hrun
    rw [hst2]
    refine callwith_met (X := NdefX.ncx CX P w K mg base N (nfSu name qual pr body sc cc cda) f A outer s H E) (g := f2) (a := a) ?_ ht (PySem.Calls.evalArgs_plain hrun)
    show ((false || (backTo p3 (starEach es _)).any (·.1)) || false) = false
    rw [hpl']; rfl
  · refine wpAny_mono (wpAny_call (PySem.W.method_call (met_P I3 hmet).1 (run_fnR (us := Value.ref a :: us) (vs := V.ref a :: ws) (F2.raw hb2 .nil) hr hx I3 (.cons rfl r) (by rw [List.append_nil]; exact hsp)))) (fun u s4 ⟨v, H4, J4, _, q4⟩ => h.run pins s4 σ H4 Δ J4 q4) fun _ _ z => z
end
end DP

set_option Elab.async false
set_option linter.all false
set_option maxRecDepth 100000
set_option maxHeartbeats 1000000
namespace DP
open PySem PySem.Spec PyProof.Rows L2
open Evl (Ex ex_l ex_t ex_rd fresh_back)

/-- an own exception class over the built-in B -/
structure ExB (B newId initId : String) (bmB : List Value) : Prop where
  base : ExcBaseFacts B newId initId bmB
  st : StoreFacts B bmB "object.__setattr__" "object"
  kx : PySem.W.KxsFacts B initId
theorem exb_value : ExB "ValueError" "ValueError.__new__" "ValueError.__init__" [.type "ValueError", .type "Exception", .type "BaseException", .type "object"] := ⟨F.excBase_ValueError, F.store_ValueError, PySem.W.kxs_ValueError⟩
theorem exb_index : ExB "IndexError" "IndexError.__new__" "IndexError.__init__" [.type "IndexError", .type "LookupError", .type "Exception", .type "BaseException", .type "object"] := ⟨F.excBase_IndexError, F.store_IndexError, PySem.W.kxs_IndexError⟩
structure ExC (K : PySem.W.Frag) (C : Addr) (B newId initId : String) (bmB : List Value) : Prop extends ExB B newId initId bmB where
  ini : PySem.W.excInitIn K C bmB newId = true
  ovr : PySem.W.excOver K C bmB = true
  dic : PySem.W.hasDictIn K C = true
  sa : PySem.W.findIn K (.ref C) "__setattr__" = some (some (.builtin "object.__setattr__"))
  exC : PySem.W.subIn K (.ref C) (.type "BaseException") = some true
  inB : PySem.W.subIn K (.ref C) (.type B) = some true
  tyC : PySem.W.typeIn K (.ref C) = some (.type "type")
  kC : PySem.W.keepIn K (.ref C) = true
theorem ExC.cd {K : PySem.W.Frag} {C : Addr} {B n i : String} {bm : List Value} (T : ExC K C B n i bm) : ∃ cd, PySem.W.clsIn K C = some cd ∧ cd.hasDict = true := by
  have h := T.dic
  unfold PySem.W.hasDictIn at h
  cases e : PySem.W.clsIn K C with
  | none => rw [e] at h; cases h
  | some cd => rw [e] at h; exact ⟨cd, rfl, h⟩
section
variable {X : Cx} {pins : List (Addr × Obj)} {σ : L2.St} {H : Hp} {s : Shared} {a C : Addr} {f : Str} {y : V} {u : Value} {A : Around} {B newId initId : String} {bmB : List Value}
/-- the first field of an exception that is being made -/
theorem exc_put {Q : Unit → Shared → Prop} {E : Value → Shared → Prop} (T : ExC X.K C B newId initId bmB) (I : L2.Inv X pins σ H s) (e : H a = some (exo a C none)) (hno : PySem.W.takerIn X.K C f = some none) (ry : RelV y u)
    (h : ∀ dx s', H dx = none → dx ≠ a → L2.Inv X pins σ (upd (upd H dx (exd dx [(f, y)])) a (exo a C (some dx))) s' → Q () s') : wpAny (model X.prog X.w) A (setAttr (.ref a) f u) Q E s := by
  obtain ⟨cd, hcd, hdict⟩ := T.cd
  obtain ⟨t1, ho⟩ := exo_at I.hok e
  have KX : X.K.In s.heap := I.kIn
  have J : PySem.W.InstAt s.heap a ({ cls := .ref C, data := .fields #[.ref t1, .none, .none, .none, .bool false, .none] } : Obj) C none := ⟨ho, rfl, rfl, trivial⟩
  have hcls : PySem.W.Looks (model X.prog X.w) s.heap (classData C) cd := PySem.W.looks_clsIn KX hcd
  have has : a ≠ s.heap.objs.size := Nat.ne_of_lt (Heap.lt_size ho)
  have hnd : H s.heap.objs.size = none := I.hok.fresh (Nat.le_refl _)
  have nd : ∀ {b : Addr} {o : Obj}, s.heap.get? b = some o → b ≠ s.heap.objs.size := fun {b o} q => Nat.ne_of_lt (Heap.lt_size q)
  have na : ∀ {b : Addr}, H b = none → b ≠ a := fun {b} n z => by
    rw [z, e] at n; cases n
  -- what is left when the field stands
  have fin : ∀ (h' : Heap) (tk' : Nat), (∀ b o, b ≠ a → s.heap.get? b = some o → h'.get? b = some o) → h'.get? a = some ({ cls := .ref C, dict := some s.heap.objs.size, data := .fields #[.ref t1, .none, .none, .none, .bool false, .none] } : Obj) →
      h'.Ns1 s.heap.objs.size (fun z => if z = f then some u else none) → Q () { s with heap := h', toks := tk' } := fun h' tk' k hx hn => by
    have U1 : Un X.fs [] H (upd (upd H s.heap.objs.size (exd s.heap.objs.size [(f, y)])) a (exo a C (some s.heap.objs.size))) s.heap h' := {
      keep := fun b o q n _ _ => k b o (na n) q
      slot := fun b o q n _ _ => ⟨o.slots, k b o (na n) q⟩
      free := fun b o q n _ => by rw [upd_ne (na n), upd_ne (nd q)]; exact n
      there := fun b o q _ => by
        by_cases hb : b = a
        · exact ⟨_, hb ▸ hx⟩
        · exact ⟨o, k b o hb q⟩
      tups := fun b xs q => by rw [upd_ne (at_ne e q exo_tup), upd_ne (ne_of_none q hnd)]; exact q
      frzs := fun b o v q => by rw [upd_ne (at_ne e q exo_frz), upd_ne (ne_of_none q hnd)]; exact q
      tbls := fun b ps q => ⟨#[], by rw [upd_ne (at_ne e q exo_tbl), upd_ne (ne_of_none q hnd), q]; simp⟩ }
    refine h s.heap.objs.size _ hnd has.symm (I.un (t' := tk') U1 fun b o q => ?_)
    by_cases hb : b = a
    · subst hb
      rw [upd_same] at q
      cases q
      exact exo_ok hx
    rw [upd_ne hb] at q
    by_cases hd : b = s.heap.objs.size
    · subst hd
      rw [upd_same] at q
      cases q
      exact exd_ok hn (relO_put (fs := []) ry fun g => True.intro)
    rw [upd_ne hd] at q
    exact (I.hok b o q).stay (fun c v hc z => k c v (hc.elim (fun hc => hc ▸ hb) fun hc => at_ne e hc exo_own) z)
      (fun c hc => by rw [upd_ne (at_ne e hc exo_own), upd_ne (ne_of_none hc hnd)]; exact hc) fun c xs hc => by rw [upd_ne (at_ne e hc exo_tup), upd_ne (ne_of_none hc hnd)]; exact hc
  obtain ⟨hp, g, dr, tk, os⟩ := s
  refine PySem.W.set_plain (od := none) KX J T.sa (PySem.W.osa_openX (s := ⟨hp, g, dr, tk + 1, os⟩) T.st KX J T.ovr hno fun b => ?_)
  refine wpAny_bind (wpAny_pure (wpAny_bind (PySem.W.instanceDict_exc (s := ⟨hp, g, dr, tk + 1, os⟩) (cd := cd) ho hcls hdict ?_)))
  refine PySem.HandSPX.store_in_new ?_ fun h' tk' hn hs => ?_
  · exact ⟨_, #[], _, (Heap.get?_update_ne _ _ _ _ has.symm).trans (Heap.get?_push_at rfl rfl), rfl, fun e he => absurd he (by simp), fun _ => rfl⟩
  · refine fin h' tk' (fun b o hb q => (hs.2 b (nd q)).trans ((Heap.get?_update_ne _ _ _ _ hb).trans (Heap.get?_push_of_some _ q))) ?_ hn
    exact (hs.2 a has).trans (Heap.get?_update_self _ (Heap.get?_push_of_some _ ho) rfl)
end
end DP

set_option Elab.async false
set_option linter.all false
set_option maxRecDepth 100000
set_option maxHeartbeats 1000000
namespace DP
open PySem PySem.Spec PyProof.Rows L2
open Evl (Ex ex_l ex_t ex_rd fresh_back)

/-! ### the __init__ of an own exception: super().__init__(x); self.f = x -/
/-- super().__init__(e, ..) up to the built-in's -/
def tSupX (D : Addr) (ta : TA) : TS := fun Δ σ H => ∃ a, σ[0]? = some (some (.ref a)) ∧ H a = some (exo a D none) ∧ ta σ H fun ws H1 => ws.length ≤ 1000 ∧ H1 a = some (exo a D none) ∧ Δ.nx σ H1
section
variable {CX : CXT} {P : Program} {w : World} {K : PySem.W.Frag} {mg : Str → Option Value} {base : Heap} {N : List Str} {f cc cda D : Addr} {name qual sf : Str} {pr : Arguments} {body rest : List Stmt} {sc : Scope} {fd : FuncData} {e : Expr} {es : List Expr} {p0 p1 p2 p3 p4 : Pos} {A : Around} {outer : List PySem.Env} {s : Shared} {H : Hp} {E : XK} {ta : TA} {u : TS}
  {B newId initId : String} {bmB : List Value}
theorem psat_supX (T : ExC K D B newId initId bmB) (U : SupOk P K mg sc pr cda cc D sf) (FS : FnSu K f cc cda name qual pr body sc fd) (hsf : N[0]? = some sf) (hm : PySem.W.ks_superIn K D D "__init__" = some (some (.builtin initId)))
    (ha : PA (NdefX.ncx CX P w K mg base N (nfSu name qual pr body sc cc cda) f A outer s H E) (e :: es) ta) (h : PSat (NdefX.ncx CX P w K mg base N (nfSu name qual pr body sc cc cda) f A outer s H E) (.func body (NdefX.envF (nfSu name qual pr body sc cc cda) f s.heap.objs.size)) rest u)
    (hev : ∀ env : PySem.Env, eval (supCall (e :: es) p0 p1 p2 p3) env = (do
      let ov ← attributeBase (.Call (.Name "super" p0) [] [] p1) "__init__" env (eval (.Call (.Name "super" p0) [] [] p1) env)
      standAt p2.atName
      let (f, first) ← holding [ov] (getMethod ov "__init__" (pure false))
      callWith p3 f first (backTo p3 (starEach (e :: es) env)) []) := by intro _; rfl)
    (hsw : ∀ env : PySem.Env, swapsWith (supCall (e :: es) p0 p1 p2 p3) none p4.line env = pure false := by intro _; rfl)
    (he : ∀ env : PySem.Env, starEach (e :: es) env = (false, eval e env) :: starEach es env := by intro _; rfl) (hpl : ∀ env : PySem.Env, (backTo p3 (starEach es env)).any (·.1) = false := by intro _; rfl) :
    PSat (NdefX.ncx CX P w K mg base N (nfSu name qual pr body sc cc cda) f A outer s H E) (.func body (NdefX.envF (nfSu name qual pr body sc cc cda) f s.heap.objs.size)) (.Expr (supCall (e :: es) p0 p1 p2 p3) p4 :: rest) (tSeq (tSupX D ta) u) := by
  refine ⟨fun pins s1 σ H1 Δ I ⟨a, hσ, hH, hrd⟩ => ?_⟩
  obtain ⟨oc, od, osl, dV, kV, doc, pm, an, ct, hfd, lk⟩ := FS.at_
  obtain ⟨t1, hx⟩ := exo_at I.hok hH
  refine ks_wpAt_execs_cons (ks_wpAt_Expr_any (ks_wpAt_MethodCall (pl := pure false) ?_ (hev _)) (by unfold interactive; show (sc.kind == _ && _) = false; have := I.ok.kind; have hk : sc.kind = .function := this; rw [hk]; rfl) (hsw _))
  refine sup_base (F := nfSu name qual pr body sc cc cda) (i := 0) U rfl hsf ⟨_, _, _, lk⟩ (by rw [hfd]) I hσ hx rfl (fun c z => by cases z) (by decide) fun so h' e1 e2 kk => ?_
  have X : K.In h' := I.kIn.keeps kk
  obtain ⟨cd, hcd⟩ := U.cls
  have hal := hm
  unfold PySem.W.ks_superIn at hal
  rw [hcd] at hal
  have J : PySem.W.InstAt h' a ({ cls := .ref D, data := .fields #[.ref t1, .none, .none, .none, .bool false, .none] } : Obj) D none := ⟨kk _ _ hx, rfl, rfl, trivial⟩
  have hI : PySem.W.Looks (model P w) h' (isInstance (.ref a) (.type B)) true := J.type.andThen (PySem.W.looks_subIn X T.inB)
  have hax : a ≠ D := PySem.W.ks_ne X J hcd
  refine PySem.W.kxs_getMethod T.kx e1 (PySem.W.looks_opaque X U.opq) (l₀ := cd.mro) (fun A Q E s k q => wpAny_bind ((PySem.W.looks_clsIn X hcd) A _ E s k (wpAny_pure q))) rfl X hal hI hax (by decide) ?_
  have hsz : s1.heap.objs.size ≤ h'.objs.size := Nat.le_of_lt (by rw [← e2]; exact Heap.lt_size e1)
  have kp : ∀ b o, s1.heap.get? b = some o → (h'.push (PySem.W.kxs_mw initId a)).get? b = some o := fun b o z => Heap.get?_push_of_some _ (kk b o z)
  have I2 : L2.Inv (NdefX.ncx CX P w K mg base N (nfSu name qual pr body sc cc cda) f A outer s H E) pins σ H1 { s1 with heap := h'.push (PySem.W.kxs_mw initId a), toks := s1.toks + 1 } := I.un (t' := s1.toks + 1) (Un.kept kp) (I.hok.kept kp)
  have hqh : (h'.push (PySem.W.kxs_mw initId a)).get? h'.objs.size = some (PySem.W.kxs_mw initId a) := Heap.get?_push_at rfl rfl
  obtain ⟨mm, hns, _⟩ := I.loc
  have hqL : h'.objs.size ≠ (NdefX.ncx CX P w K mg base N (nfSu name qual pr body sc cc cda) f A outer s H E).env.locals := fun z => by
    obtain ⟨oL, _, _, hL, _⟩ := hns
    have h5 : h'.objs.size < s1.heap.objs.size := by rw [z]; exact Heap.lt_size hL
    exact Nat.lt_irrefl _ (Nat.lt_of_lt_of_le h5 hsz)
  have hqf : h'.objs.size ∉ (NdefX.ncx CX P w K mg base N (nfSu name qual pr body sc cc cda) f A outer s H E).fs := fun z => by
    have z : h'.objs.size ∈ frs outer := z
    obtain ⟨ev, h1, h2⟩ := List.mem_filterMap.mp z
    obtain ⟨o, ho, _⟩ := (I.stack.mem (b := h'.objs.size) (List.mem_filterMap.mpr ⟨ev, List.mem_cons_of_mem _ h1, h2⟩)).2
    exact Nat.lt_irrefl _ (Nat.lt_of_lt_of_le (Heap.lt_size ho) hsz)
  have I3 : L2.Inv (NdefX.ncx CX P w K mg base N (nfSu name qual pr body sc cc cda) f A outer s H E) (pins ++ [(h'.objs.size, PySem.W.kxs_mw initId a)]) σ H1 { s1 with heap := h'.push (PySem.W.kxs_mw initId a), toks := s1.toks + 1 } := I2.pins_of fun p hp => by
    rcases List.mem_append.mp hp with hp | hp
    · exact I2.pin p (List.mem_append_right _ hp)
    · simp at hp
      subst hp
      exact ⟨hqh, I.hok.fresh hsz, hqL, hqf, fun v z => by cases z⟩
  have hst := he (NdefX.ncx CX P w K mg base N (nfSu name qual pr body sc cc cda) f A outer s H E).env
  have hpl' := hpl (NdefX.ncx CX P w K mg base N (nfSu name qual pr body sc cc cda) f A outer s H E).env
  have hrun := wpAny_mono (ha.run p3 _ _ σ _ _ I3 hrd) (Q' := fun us s3 => PySem.W.KxsAt initId h'.objs.size a s3.heap ∧ wpAny (model P w) (A.deeper (NdefX.envF (nfSu name qual pr body sc cc cda) f s.heap.objs.size)) (call (.ref h'.objs.size) ([] ++ us)) (fun _ s4 => PySem.wpAt (model P w) (A.deeper (NdefX.envF (nfSu name qual pr body sc cc cda) f s.heap.objs.size)) (.func body (NdefX.envF (nfSu name qual pr body sc cc cda) f s.heap.objs.size)) (execs rest (NdefX.envF (nfSu name qual pr body sc cc cda) f s.heap.objs.size)) (SP (NdefX.ncx CX P w K mg base N (nfSu name qual pr body sc cc cda) f A outer s H E) pins Δ) (NdefX.ncx CX P w K mg base N (nfSu name qual pr body sc cc cda) f A outer s H E).xe s4) (NdefX.ncx CX P w K mg base N (nfSu name qual pr body sc cc cda) f A outer s H E).xe s3) (fun us s3 ⟨ws, H3, I4, r, hl, hH3, hnx⟩ => ⟨(I4.pin _ (List.mem_append_right _ (List.mem_append_right _ (List.mem_singleton.mpr rfl)))).1, ?_⟩) fun _ _ z => z
  · rw [hst] at hrun
    rw [hst]
    refine PySem.W.kxs_callWith (i := initId) (x := a) ?_ (PySem.Calls.evalArgs_plain hrun)
    show (false || (backTo p3 (starEach es _)).any (·.1)) = false
    rw [hpl']; rfl
  · have I5 : L2.Inv (NdefX.ncx CX P w K mg base N (nfSu name qual pr body sc cc cda) f A outer s H E) pins σ H3 s3 := I4.pins_of fun p hp => I4.pin p (List.mem_append_right _ (List.mem_append_left _ hp))
    have hu : s3.heap.get? h'.objs.size = some (PySem.W.kxs_mw initId a) := (I4.pin _ (List.mem_append_right _ (List.mem_append_right _ (List.mem_singleton.mpr rfl)))).1
    obtain ⟨nm, N', qn, bs, bm, hdct, sn, sub, ab, col, dd, k0, k1, k2, k3, k5, hC, hT⟩ := PySem.W.excInit_of I4.kIn T.ini
    obtain ⟨t2, hx3⟩ := exo_at I5.hok hH3
    have hlen : us.length ≤ sizeLine := by rw [← Paired.length r, sizeLine_eq]; omega
    obtain ⟨hp3, g3, d3, tk3, os3⟩ := s3
    refine wpAny_call (codeAny_of_tree ?_)
    show wpAny _ _ (callAny (.ref h'.objs.size) ⟨[] ++ us, []⟩) _ _ _
    simp only [callAny, List.nil_append]
    refine wpAny_bind (wpAny_load hu ?_)
    simp only [PySem.W.kxs_mw, show (Value.type "method-wrapper" == Value.type "method" || Value.type "method-wrapper" == Value.type "builtin_function_or_method" || Value.type "method-wrapper" == Value.type "method-wrapper") = true from by decide, if_true]
    refine PySem.W.KFB.if_so (by decide) (wpAny_bind (PySem.W.check_bound_init T.base.toExcCallFacts hC hx3 rfl (wpAny_bind (wpAny_pure (wpAny_pure ⟨plainId_quiet T.base.init.plain _, codeAny_builtin T.base.initEntry ?_⟩)))))
    refine PySem.W.exc_init_tree (cls := .ref D) (t0 := t2) (dv := none) (c2 := .none) (c3 := .none) (b4 := .bool false) hx3 hlen fun h4 k4 hx4 _ => ?_
    have W := I5.write (t' := tk3) (x := a) (e := a) (o := exo a D none) (by rw [hH3]; exact True.intro) (.inl rfl) k4 ⟨_, hx4⟩ (exo_ok hx4)
    have eu : upd H3 a (exo a D none) = H3 := funext fun b => by
      by_cases hb : b = a
      · rw [hb, upd_same, hH3]
      · exact upd_ne hb
    rw [eu] at W
    exact h.run pins _ σ H3 Δ W hnx
end
/-- self.f = e, where self is an exception that is being made -/
def tExcPut (K : PySem.W.Frag) (C : Addr) (f : Str) (to te : TE) : TS := fun Δ σ H => te σ H fun y H1 => to σ H1 fun x H2 => ∃ a, x = .ref a ∧ H2 a = some (exo a C none) ∧ ∀ dx, H2 dx = none → dx ≠ a → Δ.nx σ (upd (upd H2 dx (exd dx [(f, y)])) a (exo a C (some dx)))
section
variable {X : Cx} {C : Addr} {B newId initId : String} {bmB : List Value} {o e : Expr} {to te : TE} {f : Str} {p' pos : Pos}
theorem ps_excput (T : ExC X.K C B newId initId bmB) (hno : PySem.W.takerIn X.K C f = some none) (ho : PE X o to) (he : PE X e te) (hs : swapsWith e (some (.Attribute o f p')) pos.line X.env = pure false := by rfl) : PS X (.Assign [.Attribute o f p'] e pos) (tExcPut X.K C f to te) := by
  refine ⟨fun pins s σ H Δ I h => plainObj_wpAny_Assign_Attribute (wpAny_mono (he.run pins s σ H _ I h) (fun v s1 ⟨y, H1, I1, r1, q1⟩ => wpAny_mono (ho.run pins s1 σ H1 _ I1 q1) (fun u s2 ⟨x, H2, I2, r2, a, ex, ea, q⟩ => ?_) fun _ _ z => z) fun _ _ z => z) hs⟩
  subst ex
  have hu : u = Value.ref a := r2
  subst hu
  exact exc_put T I2 ea hno r1 fun dx s' n ne J => ⟨σ, _, J, q dx n ne⟩
end
/-- what such an __init__ promises -/
def spExc (D : Addr) (attr : Str) : Sp := fun vs H Q _ => ∃ a v, vs = [.ref a, v] ∧ H a = some (exo a D none) ∧ ∀ d, H d = none → d ≠ a → Q .non (upd (upd H d (exd d [(attr, v)])) a (exo a D (some d)))
section
variable {P : Program} {w : World} {K : PySem.W.Frag} {mg : Str → Option Value} {base : Heap} {N : List Str} {f cc cda D : Addr} {name qual sf x attr : Str} {pr : Arguments} {sc : Scope} {fd : FuncData} {p0 p1 p2 p3 p4 p5 p6 p7 p8 p9 : Pos} {B newId initId : String} {bmB : List Value}
theorem exc_init1 (T : ExC K D B newId initId bmB) (U : SupOk P K mg sc pr cda cc D sf) (FS : FnSu K f cc cda name qual pr [.Expr (supCall [.Name x p5] p0 p1 p2 p3) p4, .Assign [.Attribute (.Name sf p6) attr p7] (.Name x p8) p9] sc fd)
    (S : NdefX.NScope N [sf, x] ["__class__"] sc) (h0 : N[0]? = some sf) (h1 : N[1]? = some x) (hm : PySem.W.ks_superIn K D D "__init__" = some (some (.builtin initId))) (hno : PySem.W.takerIn K D attr = some none)
    (d1 : (sf == ("__debug__" : Str)) = false := by decide) (d2 : (sf == ("__classdict__" : Str)) = false := by decide) (d3 : (x == ("__debug__" : Str)) = false := by decide) (d4 : (x == ("__classdict__" : Str)) = false := by decide)
    (hev : ∀ env : PySem.Env, eval (supCall [.Name x p5] p0 p1 p2 p3) env = (do
      let ov ← attributeBase (.Call (.Name "super" p0) [] [] p1) "__init__" env (eval (.Call (.Name "super" p0) [] [] p1) env)
      standAt p2.atName
      let (f, first) ← holding [ov] (getMethod ov "__init__" (pure false))
      callWith p3 f first (backTo p3 (starEach [.Name x p5] env)) []) := by intro _; rfl)
    (hsw : ∀ env : PySem.Env, swapsWith (supCall [.Name x p5] p0 p1 p2 p3) none p4.line env = pure false := by intro _; rfl)
    (hse : ∀ env : PySem.Env, starEach [.Name x p5] env = (false, eval (.Name x p5) env) :: starEach [] env := by intro _; rfl)
    (hsa : ∀ env : PySem.Env, swapsWith (.Name x p8) (some (.Attribute (.Name sf p6) attr p7)) p9.line env = pure false := by intro _; rfl) : FnOk P w K mg base CX0 1 f fd [sf, x] (spExc D attr) := by
  refine fn_su U FS S (fun vs H Q E ⟨a, v, e, _⟩ => by rw [e]; rfl) fun A outer s H vs Q E hr ⟨a, v, ev, ha, hq⟩ => ?_
  subst ev
  refine ⟨_, psat_supX T U FS h0 hm (pa_cons (pe_var h1 (.inl (S.par x (by simp))) d3 d4) pa_nil (hse _)) (psat_of (pss_one (ps_excput T hno (pe_var h0 (.inl (S.par sf (by simp))) d1 d2) (pe_var h1 (.inl (S.par x (by simp))) d3 d4) (hsa _)))) hev hsw hse (fun _ => rfl), ?_⟩
  exact ⟨a, rfl, ha, v, rfl, by simp, ha, v, rfl, .ref a, rfl, a, rfl, ha, fun d hd hne => hq d hd hne⟩
end
section
variable {X : Cx} {x : Str} {p pos : Pos} {e : Expr} {es : List Expr} {ta : TA} {C fI : Addr} {B newId initId : String} {bmB : List Value} {k : Nat} {fd : FuncData} {ps : List Str} {sp : Sp} {dsv : List Value} {dvs : List V}
/-- C(e, ..), an exception that is made -/
theorem pmk_exc (T : ExC X.K C B newId initId bmB) (iC : PySem.W.findIn X.K (.ref C) "__init__" = some (some (.ref fI))) (tI : PySem.W.typeIn X.K (.ref fI) = some (.type "function")) (F1 : FnOk X.prog X.w X.K X.mg X.base CX0 k fI fd ps sp) (hr : Room (k + 1) X.A) (hb : Binds X.K fd ps dsv) (hd : Vals dvs dsv)
    (hg : Gl X x) (hm : X.mg x = some (.ref C)) (ha : PA X (e :: es) ta) (hdb : (x == ("__debug__" : Str)) = false := by decide) (he : starEach (e :: es) X.env = (false, eval e X.env) :: starEach es X.env := by rfl) (hpl : (backTo pos (starEach es X.env)).any (·.1) = false := by rfl) :
    PMk X (.Call (.Name x p) (e :: es) [] pos) (tMkO C sp dvs ta) := fun pins s σ H Q I h => by
  obtain ⟨nm, N', qn, bs, bm, hdct, sn, sub, ab, col, dd, k0, k1, k2, k3, k5, hC0, hT⟩ := PySem.W.excInit_of I.kIn T.ini
  refine wpAny_Call_Name_kw (ld_glob I hg hm (PySem.W.callWith_K (h₀ := X.base) I.ok.mod.kin T.kC (wpAny_mono (ha.run pos pins s σ H _ I h) (fun us s1 ⟨vs, H1, I1, r1, hz, q1⟩ => ⟨I1.kIn, ?_⟩) fun _ _ z => z) he hpl) hdb)
  show wpAny _ _ (call (.ref C) us) _ _ _
  obtain ⟨nm, N', qn, bs, bm, hdct, sn, sub, ab, col, dd, k0, k1, k2, k3, k5, hC, hT⟩ := PySem.W.excInit_of I1.kIn T.ini
  obtain ⟨hp, g, dr, tk, os⟩ := s1
  have a1 : hp.objs.size ≤ hp.objs.size + 1 := Nat.le_succ _
  have hq := q1 (hp.objs.size + 1) (I1.hok.fresh a1)
  have kk : ∀ b o, hp.get? b = some o → ((hp.push (PySem.W.kdv_tup us)).push (PySem.HandSPX.excO C hp.objs.size)).get? b = some o := fun b o z => Heap.get?_push_of_some _ (Heap.get?_push_of_some _ z)
  have hat : ((hp.push (PySem.W.kdv_tup us)).push (PySem.HandSPX.excO C hp.objs.size)).get? (hp.objs.size + 1) = some (PySem.HandSPX.excO C hp.objs.size) := by heap_get
  have J := I1.laid (t' := tk) (a := hp.objs.size + 1) (o := exo (hp.objs.size + 1) C none) (h' := (hp.push (PySem.W.kdv_tup us)).push (PySem.HandSPX.excO C hp.objs.size)) kk a1 (exo_ok hat)
  have rr : Vals (V.ref (hp.objs.size + 1) :: (vs ++ dvs)) (Value.ref (hp.objs.size + 1) :: (us ++ dsv)) := Paired.cons rfl (r1.append hd)
  have hl : (Value.ref (hp.objs.size + 1) :: us ++ dsv).length = ps.length := (F1.len _ _ _ _ hq).symm.trans rr.length |>.symm
  have hus : us.length ≤ sizeLine := by rw [← Paired.length r1, sizeLine_eq]; omega
  refine wpAny_call (PySem.HandSPX.call_own T.base hT hC (PySem.W.looks_findIn I1.kIn iC) (fun z => PySem.W.bind_fn I1.kIn z tI) hus (codeAny_mono (F1.run _ X.stack _ _ ⟨Value.ref (hp.objs.size + 1) :: us, []⟩ (Value.ref (hp.objs.size + 1) :: (us ++ dsv)) _ _ (fun _ _ _ => False) (hr.make C us []) (J.env0.make C us []) (hb _ _ J.kIn hl) rr hq) fun r s' z => ?_))
  cases r with
  | error er => exact pass0 (X := X) pins σ _ _ er s' J z
  | ok fl =>
    cases fl with
    | ret u =>
      obtain ⟨v, H2, os2, bare2, un2, hok2, rv, ev, d, fs, ea, ed, hd1, q2⟩ := z
      subst ev
      obtain ⟨h2, g2, d2, t2, os'⟩ := s'
      exact ⟨rv, mk_end (raises_own T.exC T.tyC) I1 a1 kk un2 hok2 os2 bare2 ea ed hd1 q2⟩
    | next => exact False.elim z
    | brk => exact False.elim z
    | cont => exact False.elim z
end
end DP

set_option Elab.async false
set_option linter.all false
set_option maxRecDepth 100000
set_option maxHeartbeats 1000000
namespace DP
open PySem PySem.Spec PyProof.Rows L2
open Evl (Ex ex_l ex_t ex_rd fresh_back)

/-- a def that lets nothing out is one that may -/
theorem up_X {P : Program} {w : World} {K : PySem.W.Frag} {mg : Str → Option Value} {base : Heap} {k : Nat} {f : Addr} {fd : FuncData} {ps : List Str} {sp : Sp} (F : FnOk P w K mg base CX0 k f fd ps sp) : FnOk P w K mg base (L2.CX P w) k f fd ps sp :=
  ⟨F.len, fun A outer s H args us vs Q E hr e0 hb r hs => codeAny_mono (F.run A outer s H args us vs Q E hr e0 hb r hs) fun r s' h => by
    cases r with
    | error e => exact False.elim h
    | ok fl => cases fl <;> exact h⟩
/-- where an exception that W speaks of is taken -/
class TakesI (Y : Cx) (W : WX) : Prop where
  tk : Takes Y W
instance takesI0 {Y : Cx} : TakesI Y (fun _ _ _ _ => False) := ⟨takes0⟩
instance takesIW {Y : Cx} : TakesI Y W0 := ⟨takes0⟩
instance takesI1 {P : Program} {w : World} {K : PySem.W.Frag} {mg : Str → Option Value} {base : Heap} {N : List Str} {qual : Str} {sc : Scope} {f : Addr} {cdv : Value} {A : Around} {outer : List PySem.Env} {s : Shared} {H : Hp} {E : XK} :
    TakesI (cxOf (L2.CX P w) P w K mg base N qual sc f cdv A outer s H E) (fun cls d _ H => E cls d H) := ⟨takes_of rfl rfl rfl rfl⟩

/-! ### calls that may raise -/
def wCallX (ds : DSp) (idx : List Nat) (dxs : List X) (wa : WA) : WE := fun δ S Q E => wa δ S (fun xs S1 => callD ds idx (xs ++ dxs) S1 Q fun x S' => E x δ S') E
section
variable {K : PySem.W.Frag} {W : WX}
theorem re_callX {ds : DSp} {idx : List Nat} {dvs : List V} {dxs : List X} {ta : TA} {wa : WA} (hd : ∀ F, RepXs K F dvs dxs) (h : RA K W ta wa) : RE K W (tCallSD (lift K ds) dvs (L2.WE W) ta) (wCallX ds idx dxs wa) := fun A F δ S σ H Q E Q' st lk hw k =>
  h A F δ S σ H _ E _ st lk hw fun F1 S1 H1 vs xs st1 e1 rs q => lift_call st1 (rs.app (hd F1)) q (fun F' S' H' v x a b => k F' S' H' v x a (e1.trans b)) fun F' S' H' cls d x st' re ex => lk F' δ S' σ H' cls d x st' re ex
def tMethX (C : Addr) (m : Str) (sp : Sp) (dvs : List V) (E : L2.St → XK) (ta : TE) (t : TA) : TE := fun σ H Q => ta σ H fun x H1 => ∃ a dx fs, x = .ref a ∧ H1 a = some (.ins C dx fs) ∧ fs.lookup m = none ∧ t σ H1 fun vs H2 => sp (x :: (vs ++ dvs)) H2 Q (E σ)
def wMethX (C : Addr) (m : Str) (ds : DSp) (idx : List Nat) (dxs : List X) (wo : WE) (wa : WA) : WE := fun δ S Q E => wo δ S (fun o S1 => objAt o S1 C m ∧ wa δ S1 (fun xs S2 => callD ds idx (o :: (xs ++ dxs)) S2 Q fun x S' => E x δ S') E) E
theorem re_methX {C : Addr} {m : Str} {ds : DSp} {idx : List Nat} {dvs : List V} {dxs : List X} {to : TE} {ta : TA} {wo : WE} {wa : WA} (hd : ∀ F, RepXs K F dvs dxs) (ho : RE K W to wo) (h : RA K W ta wa) : RE K W (tMethX C m (lift K ds) dvs (L2.WE W) to ta) (wMethX C m ds idx dxs wo wa) := fun A F δ S σ H Q E Q' st lk hw k =>
  ho A F δ S σ H _ E _ st lk hw fun F1 S1 H1 v o st1 e1 ro ⟨q1, q2⟩ => by
    obtain ⟨a, dx, fs, ev, ha, hl⟩ := objAt.ok st1 ro q1
    exact ⟨a, dx, fs, ev, ha, hl, h A F1 δ S1 σ H1 _ E _ st1 lk q2 fun F2 S2 H2 vs xs st2 e2 rs q => lift_call st2 (Paired.cons (ro.mono e2) (RepXs.app rs (hd F2))) q (fun F' S' H' v x a b => k F' S' H' v x a ((e1.trans e2).trans b)) fun F' S' H' cls d x st' re ex => lk F' δ S' σ H' cls d x st' re ex⟩
def tMakeX (C : Addr) (sp : Sp) (dvs : List V) (E : L2.St → XK) (t : TA) : TE := fun σ H Q => t σ H fun vs H1 => ∀ x dx, H1 x = none → H1 dx = none → dx ≠ x → sp (.ref x :: (vs ++ dvs)) (upd (upd H1 dx (.own x)) x (.ins C dx [])) (fun v H2 => v = .non ∧ Q (.ref x) H2) (E σ)
def wMakeX (C : Addr) (ds : DSp) (dxs : List X) (wa : WA) : WE := fun δ S Q E => wa δ S (fun xs S1 => ∀ x, callD ds [S1.length] (.h x :: (xs ++ dxs)) (S1 ++ [(x, .obj C [])]) (fun r S' => r = .d .non ∧ Q (.h x) S') fun y S' => E y δ S') E
theorem re_makeX {C : Addr} {ds : DSp} {dvs : List V} {dxs : List X} {ta : TA} {wa : WA} (hd : ∀ F, RepXs K F dvs dxs) (h : RA K W ta wa) : RE K W (tMakeX C (lift K ds) dvs (L2.WE W) ta) (wMakeX C ds dxs wa) := fun A F δ S σ H Q E Q' st lk hw k =>
  h A F δ S σ H _ E _ st lk hw fun F1 S1 H1 vs xs st1 e1 rs q => by
    intro x dx hx hdx hne
    have st2 : ST K A F1 δ S1 σ (upd H1 dx (.own x)) := st1.junk hdx
    have hx2 : upd H1 dx (.own x) x = none := by rw [upd_ne (Ne.symm hne)]; exact hx
    have st3 : ST K A F1 δ (S1 ++ [(x, .obj C [])]) σ (upd (upd H1 dx (.own x)) x (.ins C dx [])) := st2.made hx2 ⟨fresh_back st2.fr hx2, dx, [], upd_same, .nil⟩
    refine lift_call st3 (Paired.cons (show RepX K F1 (.ref x) (.h x) from rfl) (RepXs.app rs (hd F1))) (q x) ?_ fun F' S' H' cls d x st' re ex => lk F' δ S' σ H' cls d x st' re ex
    intro F' S' H' v r st4 e4 rr ⟨hr, hQ⟩
    subst hr
    cases rr
    exact ⟨rfl, k F' S' H' (.ref x) (.h x) st4 (e1.trans e4) rfl hQ⟩
end
section
variable {X : Cx} {CX : CXT} {k : Nat} {f C : Addr} {fd : FuncData} {ps : List Str} {sp : Sp} {dvs : List V} {ds : List Value} {E : L2.St → XK} {x m : Str} {p pos apos : Pos} {e o : Expr} {es : List Expr} {ta : TE} {t : TA}
theorem pe_methX {pl : Sem Bool} (he : PE X o ta) (c : Cls X.K C) (hm : Meth X.K C m f) (F : FnOk X.prog X.w X.K X.mg X.base CX k f fd ps sp) (hr : Room k X.A) (hb : Binds X.K fd ps ds) (hd : Vals dvs ds) (hx : ∀ σ, PassesAt CX X σ (E σ)) (ha : PA X (e :: es) t)
    (hst : starEach (e :: es) X.env = (false, eval e X.env) :: starEach es X.env := by rfl) (hpl : (backTo pos (starEach es X.env)).any (·.1) = false := by rfl)
    (ht : eval (.Call (.Attribute o m apos) (e :: es) [] pos) X.env = (do
      let ov ← eval o X.env
      standAt apos.atName
      let (f, first) ← holding [ov] (getMethod ov m pl)
      callWith pos f first (backTo pos (starEach (e :: es) X.env)) (backToKw pos (keywordEach [] X.env))) := by rfl) :
    PE X (.Call (.Attribute o m apos) (e :: es) [] pos) (tMethX C m sp dvs E ta t) := ⟨fun pins s σ H Q I h => PySem.W.methodCall_KW (pl := pl) (wpAny_mono (he.run pins s σ H _ I h) (fun u s1 ⟨x, H1, I1, rx, a, dx, fs, ex, ea, l, q⟩ => by
  subst ex
  have hu : u = Value.ref a := rx
  subst hu
  refine getmeth_ok I1 ea c hm l (PySem.W.callWith_K (first := [.ref a]) (h₀ := X.base) I.ok.mod.kin hm.kp (wpAny_mono (ha.run pos pins s1 σ H1 _ I1 q) (fun us s2 ⟨vs, H2, I2, r, q2⟩ => ⟨I2.kIn, ?_⟩) fun _ _ z => z) hst hpl)
  exact run_fnSD (us := .ref a :: us) (vs := .ref a :: vs) F hr hb hd (hx σ) I2 (.cons rfl r) q2) fun _ _ z => z) ht⟩
theorem pe_methX0 {pl : Sem Bool} (he : PE X o ta) (c : Cls X.K C) (hm : Meth X.K C m f) (F : FnOk X.prog X.w X.K X.mg X.base CX k f fd ps sp) (hr : Room k X.A) (hb : Binds X.K fd ps ds) (hd : Vals dvs ds) (hx : ∀ σ, PassesAt CX X σ (E σ))
    (ht : eval (.Call (.Attribute o m apos) [] [] pos) X.env = (do
      let ov ← eval o X.env
      standAt apos.atName
      let (f, first) ← holding [ov] (getMethod ov m pl)
      callWith pos f first (backTo pos (starEach [] X.env)) (backToKw pos (keywordEach [] X.env))) := by rfl) :
    PE X (.Call (.Attribute o m apos) [] [] pos) (tMethX C m sp dvs E ta tNil) := ⟨fun pins s σ H Q I h => PySem.W.methodCall_KW (pl := pl) (wpAny_mono (he.run pins s σ H _ I h) (fun u s1 ⟨x, H1, I1, rx, a, dx, fs, ex, ea, l, q⟩ => by
  subst ex
  have hu : u = Value.ref a := rx
  subst hu
  exact getmeth_ok I1 ea c hm l (PySem.W.callWith_K0 (first := [.ref a]) I1.kIn hm.kp (run_fnSD (us := [.ref a]) (vs := [.ref a]) F hr hb hd (hx σ) I1 (.cons rfl .nil) q))) fun _ _ z => z) ht⟩
theorem run_makeX {pins : List (Addr × Obj)} {σ : L2.St} {H : Hp} {s : Shared} {Q : VK} {us : List Value} {vs : List V} (M : Mk X.K C f) (F : FnOk X.prog X.w X.K X.mg X.base (L2.CX X.prog X.w) k f fd ps sp) (hr : Room (k + 1) X.A) (hb : Binds X.K fd ps ds) (hd : Vals dvs ds)
    {W : WX} (tk : Takes X W) (I : L2.Inv X pins σ H s) (r : Vals vs us)
    (h : ∀ x dx, H x = none → H dx = none → dx ≠ x → sp (.ref x :: (vs ++ dvs)) (upd (upd H dx (.own x)) x (.ins C dx [])) (fun v H2 => v = .non ∧ Q (.ref x) H2) (L2.WE W σ)) :
    wpAny (model X.prog X.w) X.A (call (.ref C) us) (EP X pins σ Q) X.xe s := by
  have hq := h (s.heap.objs.size + 1) s.heap.objs.size (I.hok.fresh (Nat.le_succ _)) (I.hok.fresh (Nat.le_refl _)) (Nat.ne_of_lt (Nat.lt_succ_self _))
  have J := L2.Inv.made (C := C) I
  have rr : Vals (V.ref (s.heap.objs.size + 1) :: (vs ++ dvs)) (Value.ref (s.heap.objs.size + 1) :: (us ++ ds)) := Paired.cons rfl (r.append hd)
  have hl : (Value.ref (s.heap.objs.size + 1) :: us ++ ds).length = ps.length := (F.len _ _ _ _ hq).symm.trans rr.length |>.symm
  refine wpAny_call (make_map (f := f) I.kIn M.makes M.init (beq_iff_eq.mp M.fn) (codeAny_mono (F.run _ X.stack _ _ ⟨Value.ref (s.heap.objs.size + 1) :: us, []⟩ (Value.ref (s.heap.objs.size + 1) :: (us ++ ds)) _ _ (L2.WE W σ) (hr.make C us []) (J.env0.make C us []) (hb _ _ J.kIn hl) rr hq) fun r s' z => ?_))
  cases r with
  | error er => exact passAt tk σ pins _ _ er s' J z
  | ok fl =>
    cases fl with
    | ret u =>
      obtain ⟨v, H', I3, rv, ev, q3⟩ := J.after z
      subst ev
      exact ⟨rv, V.ref (s.heap.objs.size + 1), H', I3, rfl, q3⟩
    | next => exact False.elim z
    | brk => exact False.elim z
    | cont => exact False.elim z
end
section
variable {Y : Cx} {W : WX} {k : Nat} {f C : Addr} {fd : FuncData} {ps : List Str} {sp : DSp} {dvs : List V} {dxs : List X} {dsv : List Value} {x m : Str} {p pos apos : Pos} {e o : Expr} {es : List Expr} {to : TE} {ta : TA} {wo : WE} {wa : WA}
theorem f_callX {K0 : PySem.W.Frag} [hKK : HasK Y K0] [tk : TakesI Y W] {idx : List Nat} (F : FnOk Y.prog Y.w K0 Y.mg Y.base (L2.CX Y.prog Y.w) k f fd ps (lift K0 sp)) (hr : Room k Y.A) (hm : Y.mg x = some (.ref f)) (hk : PySem.W.keepIn K0 (.ref f) = true) (hb : Binds K0 fd ps dsv) (hd : Vals dvs dsv) (hdx : ∀ F, RepXs K0 F dvs dxs)
    (ha : FA Y W (e :: es) ta wa) (hg : Gl Y x := by rfl) (hdb : (x == ("__debug__" : Str)) = false := by decide) (he : starEach (e :: es) Y.env = (false, eval e Y.env) :: starEach es Y.env := by rfl) (hpl : (backTo pos (starEach es Y.env)).any (·.1) = false := by rfl) :
    FE Y W (.Call (.Name x p) (e :: es) [] pos) (tCallSD (lift K0 sp) dvs (L2.WE W) ta) (wCallX sp idx dxs wa) := by
  obtain ⟨rfl⟩ := hKK
  exact ⟨pe_callSD F hr hg hm hk hb hd (fun σ => passAt tk.tk σ) ha.pa hdb he hpl, re_callX hdx ha.re⟩
theorem f_methX {K0 : PySem.W.Frag} [hKK : HasK Y K0] [tk : TakesI Y W] {pl : Sem Bool} {idx : List Nat} (ho : FE Y W o to wo) (c : Cls K0 C) (hm : Meth K0 C m f) (F : FnOk Y.prog Y.w K0 Y.mg Y.base (L2.CX Y.prog Y.w) k f fd ps (lift K0 sp)) (hr : Room k Y.A) (hb : Binds K0 fd ps dsv) (hd : Vals dvs dsv) (hdx : ∀ F, RepXs K0 F dvs dxs)
    (ha : FA Y W (e :: es) ta wa) (hst : starEach (e :: es) Y.env = (false, eval e Y.env) :: starEach es Y.env := by rfl) (hpl : (backTo pos (starEach es Y.env)).any (·.1) = false := by rfl)
    (ht : eval (.Call (.Attribute o m apos) (e :: es) [] pos) Y.env = (do
      let ov ← eval o Y.env
      standAt apos.atName
      let (f, first) ← holding [ov] (getMethod ov m pl)
      callWith pos f first (backTo pos (starEach (e :: es) Y.env)) (backToKw pos (keywordEach [] Y.env))) := by rfl) :
    FE Y W (.Call (.Attribute o m apos) (e :: es) [] pos) (tMethX C m (lift K0 sp) dvs (L2.WE W) to ta) (wMethX C m sp idx dxs wo wa) := by
  obtain ⟨rfl⟩ := hKK
  exact ⟨pe_methX ho.pe c hm F hr hb hd (fun σ => passAt tk.tk σ) ha.pa hst hpl ht, re_methX hdx ho.re ha.re⟩
theorem f_methX0 {K0 : PySem.W.Frag} [hKK : HasK Y K0] [tk : TakesI Y W] {pl : Sem Bool} {idx : List Nat} (ho : FE Y W o to wo) (c : Cls K0 C) (hm : Meth K0 C m f) (F : FnOk Y.prog Y.w K0 Y.mg Y.base (L2.CX Y.prog Y.w) k f fd ps (lift K0 sp)) (hr : Room k Y.A) (hb : Binds K0 fd ps dsv) (hd : Vals dvs dsv) (hdx : ∀ F, RepXs K0 F dvs dxs)
    (ht : eval (.Call (.Attribute o m apos) [] [] pos) Y.env = (do
      let ov ← eval o Y.env
      standAt apos.atName
      let (f, first) ← holding [ov] (getMethod ov m pl)
      callWith pos f first (backTo pos (starEach [] Y.env)) (backToKw pos (keywordEach [] Y.env))) := by rfl) :
    FE Y W (.Call (.Attribute o m apos) [] [] pos) (tMethX C m (lift K0 sp) dvs (L2.WE W) to tNil) (wMethX C m sp idx dxs wo wNil) := by
  obtain ⟨rfl⟩ := hKK
  exact ⟨pe_methX0 ho.pe c hm F hr hb hd (fun σ => passAt tk.tk σ) ht, re_methX hdx ho.re ra_nil⟩
theorem f_makeX {K0 : PySem.W.Frag} [hKK : HasK Y K0] [tk : TakesI Y W] (M : Mk K0 C f) (F : FnOk Y.prog Y.w K0 Y.mg Y.base (L2.CX Y.prog Y.w) k f fd ps (lift K0 sp)) (hr : Room (k + 1) Y.A) (hm : Y.mg x = some (.ref C)) (hb : Binds K0 fd ps dsv) (hd : Vals dvs dsv) (hdx : ∀ F, RepXs K0 F dvs dxs)
    (ha : FA Y W (e :: es) ta wa) (hg : Gl Y x := by rfl) (hdb : (x == ("__debug__" : Str)) = false := by decide) (he : starEach (e :: es) Y.env = (false, eval e Y.env) :: starEach es Y.env := by rfl) (hpl : (backTo pos (starEach es Y.env)).any (·.1) = false := by rfl) :
    FE Y W (.Call (.Name x p) (e :: es) [] pos) (tMakeX C (lift K0 sp) dvs (L2.WE W) ta) (wMakeX C sp dxs wa) := by
  obtain ⟨rfl⟩ := hKK
  refine ⟨⟨fun pins s σ H Q I h => wpAny_Call_Name_kw (ld_glob I hg hm (PySem.W.callWith_K (h₀ := Y.base) I.ok.mod.kin M.kp (wpAny_mono (ha.pa.run pos pins s σ H _ I h) (fun us s1 ⟨vs, H1, I1, r, q⟩ => ⟨I1.kIn, run_makeX M F hr hb hd tk.tk I1 r q⟩) fun _ _ z => z) he hpl) hdb)⟩, re_makeX hdx ha.re⟩
theorem f_makeX0 {K0 : PySem.W.Frag} [hKK : HasK Y K0] [tk : TakesI Y W] (M : Mk K0 C f) (F : FnOk Y.prog Y.w K0 Y.mg Y.base (L2.CX Y.prog Y.w) k f fd ps (lift K0 sp)) (hr : Room (k + 1) Y.A) (hm : Y.mg x = some (.ref C)) (hb : Binds K0 fd ps dsv) (hd : Vals dvs dsv) (hdx : ∀ F, RepXs K0 F dvs dxs)
    (hg : Gl Y x := by rfl) (hdb : (x == ("__debug__" : Str)) = false := by decide) :
    FE Y W (.Call (.Name x p) [] [] pos) (tMakeX C (lift K0 sp) dvs (L2.WE W) tNil) (wMakeX C sp dxs wNil) := by
  obtain ⟨rfl⟩ := hKK
  exact ⟨⟨fun pins s σ H Q I h => wpAny_Call_Name_kw (ld_glob I hg hm (PySem.W.callWith_K0 I.kIn M.kp (run_makeX (us := []) M F hr hb hd tk.tk I .nil h)) hdb)⟩, re_makeX hdx ra_nil⟩
end
end DP

set_option Elab.async false
set_option linter.all false
set_option maxRecDepth 100000
set_option maxHeartbeats 1000000
namespace DP
open PySem PySem.Spec PyProof.Rows L2
open Evl (Ex ex_l ex_t ex_rd fresh_back)

/-! ### raise C(e) -/
def wRaise (C : Addr) (attr : Str) (we : WE) : WS := fun _ δ S E => we δ S (fun x S1 => match x with | .d v => E (.own C [(attr, v)]) δ S1 | _ => False) E
section
variable {K : PySem.W.Frag} {W : WX}
theorem rs_raise {C : Addr} {attr : Str} {te : TE} {we : WE} (h : RE K W te we) : RS K W (fun _ σ H => tMkO C (spExc C attr) [] (tCons te tNil) σ H fun cls d H' => W cls d σ H') (wRaise C attr we) := fun A F δ S σ H D Δ E st lkD lk hw =>
  h A F δ S σ H _ E _ st lk hw fun F1 S1 H1 v x st1 e1 rx q => by
    cases x with
    | h a => exact q.elim
    | e _ _ _ _ => exact q.elim
    | d y =>
      refine ⟨by simp, fun a ha => ⟨a, v, rfl, upd_same, fun d hd hne => ⟨rfl, d, [(attr, v)], upd_same, ?_, ?_, ?_⟩⟩⟩
      · rw [upd_ne hne, upd_same]
      · rw [upd_ne hne] at hd; exact hd
      · rw [upd_ne hne] at hd
        have eu : upd (del (upd (upd (upd H1 a (exo a C none)) d (exd d [(attr, v)])) a (exo a C (some d))) a) d (.xd [(attr, v)]) = upd H1 d (.xd [(attr, v)]) := funext fun b => by
          by_cases hb : b = d
          · rw [hb, upd_same, upd_same]
          · rw [upd_ne hb, upd_ne hb]
            by_cases hb2 : b = a
            · rw [hb2, del_same, ha]
            · rw [del_ne hb2, upd_ne hb2, upd_ne hb, upd_ne hb2]
        rw [eu]
        obtain ⟨st2, e2⟩ := st1.laid (o := .xd [(attr, v)]) hd
        exact lk _ _ _ _ _ _ _ (.own C [(attr, y)]) st2 ⟨rfl, .inr ⟨d, [(attr, v)], rfl, upd_same, .cons (Rep.mono e2 rx) .nil⟩⟩ q
end
/-- what is known of an own exception class and its __init__ -/
structure ExTxt (P : Program) (w : World) (K : PySem.W.Frag) (mg : Str → Option Value) (base : Heap) (x : Str) (C fI : Addr) (attr : Str) : Prop where
  cls : ∃ B newId initId bmB, ExC K C B newId initId bmB
  ini : PySem.W.findIn K (.ref C) "__init__" = some (some (.ref fI))
  tyI : PySem.W.typeIn K (.ref fI) = some (.type "function")
  fn : ∃ fd ps, FnOk P w K mg base CX0 1 fI fd ps (spExc C attr) ∧ Binds K fd ps []
  mg_ : mg x = some (.ref C)
section
variable {Y : Cx} {W : WX} {C fI : Addr} {attr x : Str} {p pos rpos : Pos} {e : Expr} {te : TE} {we : WE}
theorem fs_raise {K0 : PySem.W.Frag} [hKK : HasK Y K0] [tk : TakesI Y W] (hc : Y.calm = true) (T : ExTxt Y.prog Y.w K0 Y.mg Y.base x C fI attr) (hr : Room 2 Y.A) (he : FE Y W e te we) (hg : Gl Y x := by rfl) (hdb : (x == ("__debug__" : Str)) = false := by decide)
    (hse : starEach [e] Y.env = (false, eval e Y.env) :: starEach [] Y.env := by rfl) (hpl : (backTo pos (starEach [] Y.env)).any (·.1) = false := by rfl) :
    FS Y W (.Raise (some (.Call (.Name x p) [e] [] pos)) none rpos) (fun _ σ H => tMkO C (spExc C attr) [] (tCons te tNil) σ H fun cls d H' => W cls d σ H') (wRaise C attr we) := by
  obtain ⟨rfl⟩ := hKK
  obtain ⟨B, n, i, bm, TC⟩ := T.cls
  obtain ⟨fd, ps, F, hb⟩ := T.fn
  exact ⟨ps_raise hc tk.tk (pmk_exc TC T.ini T.tyI F hr hb .nil hg T.mg_ (fa_cons he fa_nil hse).pa hdb hse hpl), rs_raise he.re⟩
end

/-! ### defs that may raise -/
section
variable {P : Program} {w : World} {K : PySem.W.Frag} {mg : Str → Option Value} {base : Heap}
theorem linkX {A : Anc} {E : XK} {Ed : Exn → Store → Prop} (k : ∀ F' S' H' cls d x, ST K A F' [] S' [] H' → RepE K F' cls d x → Ed x S' → E cls d H') : Link K A (fun cls d _ H => E cls d H) (fun x _ S => Ed x S) := fun F δ S σ H cls d x st re q =>
  k F S H cls d x (st.setEnv (fun i x e => by simp at e) rfl) re q
theorem dfnX {x qual : Str} {st : Stmt} {f : Addr} {fd : FuncData} {N ps : List Str} {k : Nat} {sp : DSp} {ws : WS} (F : Fun K x qual st f fd) (sc : FnScope N ps (defScope st)) (len : ∀ xs S Q E, sp xs S Q E → xs.length = ps.length)
    (hbody : ∀ (cdv : Value) (A : Around) (outer : List PySem.Env) (s : Shared) (H : Hp) (E : XK), Room k (A.deeper (envOfC qual (defScope st) s.heap.objs.size f cdv)) →
      ∃ t, FSs (cxOf (L2.CX P w) P w K mg base N qual (defScope st) f cdv A outer s H E) (fun cls d _ H => E cls d H) (defBody st) t ws)
    (hw : ∀ xs S Q E, sp xs S Q E → ws { nx := fun _ S' => Q (.d .non) S', rt := Q } (startD N xs) S (fun x _ S => E x S)) : FnOk P w K mg base (L2.CX P w) (k + 1) f fd ps (lift K sp) := by
  refine F.okX sc (fun vs H Q E h => ?_) (fun cdv A outer s H vs Q E hr h => ?_)
  · obtain ⟨F, xs, S, Qd, Ed, _, r, h, _⟩ := h
    exact r.len.trans (len _ _ _ _ h)
  · obtain ⟨F, xs, S, Qd, Ed, st, r, h, k1, k2⟩ := h
    obtain ⟨t, ht⟩ := hbody cdv A outer s H E hr
    refine ⟨t, ht.ps, ht.re _ F _ S _ H _ _ _ (st.startD r) ⟨fun F' δ S' σ H' st' q => ?_, fun F' δ S' σ H' v y st' ry q => ?_, fun _ _ _ _ _ _ z => z, fun _ _ _ _ _ _ z => z⟩ (linkX k2) (hw _ _ _ _ h)⟩
    · exact k1 F' S' H' .non (.d .non) (st'.setEnv (fun i x e => by simp at e) rfl) Rep.non q
    · exact k1 F' S' H' v y (st'.setEnv (fun i x e => by simp at e) rfl) ry q
theorem dfnDX {x qual : Str} {params : Arguments} {body : List Stmt} {scope : Scope} {dvs : List V} {kws : List (Str × V)} {f : Addr} {fd : FuncData} {N ps : List Str} {k : Nat} {sp : DSp} {ws : WS} (F : FunD K x qual params body scope dvs kws f fd) (sc : FnScope N ps scope) (len : ∀ xs S Q E, sp xs S Q E → xs.length = ps.length)
    (hbody : ∀ (cdv : Value) (A : Around) (outer : List PySem.Env) (s : Shared) (H : Hp) (E : XK), Room k (A.deeper (envOfC qual scope s.heap.objs.size f cdv)) →
      ∃ t, FSs (cxOf (L2.CX P w) P w K mg base N qual scope f cdv A outer s H E) (fun cls d _ H => E cls d H) body t ws)
    (hw : ∀ xs S Q E, sp xs S Q E → ws { nx := fun _ S' => Q (.d .non) S', rt := Q } (startD N xs) S (fun x _ S => E x S)) : FnOk P w K mg base (L2.CX P w) (k + 1) f fd ps (lift K sp) := by
  obtain ⟨oc, od, dV, kV, doc, pm, an, cdv, ct, osl, rfl, lk, hcd, hD, hK⟩ := F.ex
  refine fn_of lk hcd sc (fun vs H Q E h => ?_) (fun A outer s H vs Q E hr h => ?_)
  · obtain ⟨F, xs, S, Qd, Ed, _, r, h, _⟩ := h
    exact r.len.trans (len _ _ _ _ h)
  · obtain ⟨F, xs, S, Qd, Ed, st, r, h, k1, k2⟩ := h
    obtain ⟨t, ht⟩ := hbody cdv A outer s H E hr
    refine ⟨t, ht.ps, ht.re _ F _ S _ H _ _ _ (st.startD r) ⟨fun F' δ S' σ H' st' q => ?_, fun F' δ S' σ H' v y st' ry q => ?_, fun _ _ _ _ _ _ z => z, fun _ _ _ _ _ _ z => z⟩ (linkX k2) (hw _ _ _ _ h)⟩
    · exact k1 F' S' H' .non (.d .non) (st'.setEnv (fun i x e => by simp at e) rfl) Rep.non q
    · exact k1 F' S' H' v y (st'.setEnv (fun i x e => by simp at e) rfl) ry q
end
end DP

set_option Elab.async false
set_option linter.all false
set_option maxRecDepth 100000
set_option maxHeartbeats 1000000
namespace DP
open PySem PySem.Spec PyProof.Rows L2
open Evl (Ex ex_l ex_t ex_rd fresh_back)

/-! ### try with several clauses, each with or without a name -/
def offS (i : Nat) (σ : L2.St) : L2.St := σ.set i none
def endsOff (i : Nat) (D : Ends) : Ends := { nx := fun σ H => D.nx (offS i σ) H, rt := D.rt, bk := fun σ H => D.bk (offS i σ) H, ct := fun σ H => D.ct (offS i σ) H }
abbrev Clause := Value × Option Nat × (Addr → Value → Option Addr → TS)
/-- what the clauses wish of an exception -/
def wCl (K : PySem.W.Frag) (Wout : WX) (D : Ends) : List Clause → WX
  | [] => Wout
  | (c, none, ts) :: r => fun cls d σ H => ∃ b, PySem.W.exmOne K cls c = some b ∧ (b = true → ∀ a, H a = none → ts a cls d D σ H) ∧ (b = false → wCl K Wout D r cls d σ H)
  | (c, some i, ts) :: r => fun cls d σ H => ∃ b, PySem.W.exmOne K cls c = some b ∧ (b = true → ∀ a, H a = none → ts a cls d (endsOff i D) (σ.set i (some (.ref a))) H) ∧ (b = false → wCl K Wout D r cls d σ H)
abbrev SuiteOk (X : Cx) (suite : List Stmt) (ts : Addr → Value → Option Addr → TS) : Prop := ∀ (a : Addr) (oe : Obj) (cls : Value) (d : Option Addr) (pn : List (Addr × Obj)), Zc cls d oe → (∃ vs, oe.data = .fields vs) → PSs (X.suite a ((a, oe) :: pn)) suite (ts a cls d)
inductive ClOk (X : Cx) : List ExceptHandler → List Clause → Prop
  | nil : ClOk X [] []
  | anon {x : Str} {c : Value} {ts : Addr → Value → Option Addr → TS} {b₀ : Stmt} {suite : List Stmt} {np pos' : Pos} {hds : List ExceptHandler} {l : List Clause} (hc : Names X x c) (hsu : SuiteOk X (b₀ :: suite) ts) (r : ClOk X hds l) :
      ClOk X (.ExceptHandler (some (.Name x np)) none (b₀ :: suite) pos' :: hds) ((c, none, ts) :: l)
  | named {x n : Str} {i : Nat} {c : Value} {ts : Addr → Value → Option Addr → TS} {b₀ : Stmt} {suite : List Stmt} {np pos' : Pos} {hds : List ExceptHandler} {l : List Clause} (hi : X.N[i]? = some n) (hln : X.env.kindOf n = some .local) (hc : Names X x c) (hsu : SuiteOk X (b₀ :: suite) ts) (r : ClOk X hds l) :
      ClOk X (.ExceptHandler (some (.Name x np)) (some n) (b₀ :: suite) pos' :: hds) ((c, some i, ts) :: l)
section
variable {X : Cx} {body : List Stmt} {h₀ : ExceptHandler} {hds : List ExceptHandler} {l : List Clause} {pos : Pos} {tb : WX → TS} {Wout : WX}
theorem ps_tryA (hs : X.stack = X.env :: X.outer) (hf : X.env.frame = some X.env.locals) (hN : X.N.Nodup) (tk : Takes X Wout)
    (hb : ∀ (W : WX) (pn : List (Addr × Obj)) (xe : Value → Shared → Prop), Takes (X.tr pn xe) W → PassesOwn (model X.prog X.w) X.A X.env xe → PSs (X.tr pn xe) body (tb W))
    (hh : ClOk X (h₀ :: hds) l) : PS X (.Try body (h₀ :: hds) [] [] pos) (fun D σ H => ∀ (pn : List (Addr × Obj)) (xe : Value → Shared → Prop), Takes (X.tr pn xe) (wCl X.K Wout D l) → PassesOwn (model X.prog X.w) X.A X.env xe → tb (wCl X.K Wout D l) D σ H) := by
  refine ⟨fun pins s σ H D I hw => wpAny_Try_except ?_⟩
  have hfr : X.A.frames = some (X.env :: X.outer) := by rw [I.ok.frames, hs]
  let catch_ : Value → Shared → Prop := fun e s1 => wpAny (model X.prog X.w) X.A (noteFrame e X.env) (fun _ s2 => wpAny (model X.prog X.w) X.A (setFlight e none) (fun _ s3 => wpAny (model X.prog X.w) X.A (handleBy e X.env (h₀ :: hds)) (SP X pins D) X.xe s3) X.xe s2) X.xe s1
  have tkc : Takes (X.tr (X.pn ++ pins) catch_) (wCl X.K Wout D l) := fun u s1 xx => by
    obtain ⟨a, B, sI, pins1, σ1, H1, cls, d, rfl, J0, nb, up, sky, na, os, ag, hq⟩ := xx
    have J : L2.Inv X pins σ1 H1 sI := J0.ofTry I.ok
    have sky1 : Sky B (X.env :: X.outer) a (Zc cls d) X.env.locals s1.heap := by rw [← hs]; exact sky
    show wpAny (model X.prog X.w) X.A (noteFrame (.ref a) X.env) _ _ _
    refine Sky.land Zc.steady hfr hf sky1 fun h3 fl3 up3 => ?_
    have J3 : L2.Inv X pins σ1 H1 { s1 with heap := h3 } := J.landed nb fl3.1 (up.trans up3) os ag
    obtain ⟨oe3, vs3, he3, hz3, hd3⟩ := fl3.there
    have nfr : a ∉ frs (X.env :: X.outer) := fun hm => by
      obtain ⟨_, o2, g2, hnf⟩ := fl3.2.2.1.mem hm
      rw [he3] at g2; cases g2
      exact hnf _ hd3
    have nL : a ≠ X.env.locals := fun z => nfr (List.mem_filterMap.mpr ⟨X.env, List.mem_cons_self, by rw [hf, z]⟩)
    have nF : a ∉ X.fs := fun hm => by
      obtain ⟨ev, h1, h2⟩ := List.mem_filterMap.mp hm
      exact nfr (List.mem_filterMap.mpr ⟨ev, List.mem_cons_of_mem _ h1, h2⟩)
    have S3 := J3.suite he3 hd3 na nL nF
    have LT : PySem.W.Looks (model X.prog X.w) h3 (typeOf (.ref a)) cls := fun A Q E s k q => wpAny_typeOf_ref (k _ _ he3) (by rw [hz3.1]; exact q)
    have test : ∀ {x : Str} {c : Value} {np : Pos} {Q : Value → Shared → Prop} {E : Value → Shared → Prop}, Names X x c → Q c { s1 with heap := h3 } → wpAny (model X.prog X.w) (X.A.mark (some (.ref a))) (eval (.Name x np) X.env) Q E { s1 with heap := h3 } := fun {x c np Q E} hc q => by
      obtain ⟨g1, g2, g3 | ⟨g3, g4, g5⟩⟩ := hc
      · exact ld_glob (X := X.suite a ((a, oe3) :: (X.pn ++ pins))) S3 g1 g3 q g2
      · exact ld_blt (X := X.suite a ((a, oe3) :: (X.pn ++ pins))) S3 g1 g3 g4 q g5 g2
    have go : ∀ {hds1 : List ExceptHandler} {l1 : List Clause}, ClOk X hds1 l1 → wCl X.K Wout D l1 cls d σ1 H1 → wpAny (model X.prog X.w) X.A (handleBy (.ref a) X.env hds1) (SP X pins D) X.xe { s1 with heap := h3 } := by
      intro hds1 l1 hk
      induction hk with
      | nil =>
        intro hq
        refine wpAny_handleBy_nil ?_
        obtain ⟨k1, k2, k3, oe, vs, T, oT, t1, he, hz, hd, h1, hr⟩ := id fl3
        unfold PySem.passOn
        refine wpAny_bind (wpAny_field he hd h1 ?_)
        rw [if_neg (by simp : ¬ ((Value.ref T == Value.none) = true))]
        have fin : wpAny (model X.prog X.w) X.A (setFlight (.ref a) X.env.frame) (fun _ s4 => wpAny (model X.prog X.w) X.A (throw (.ref a) : Sem Flow) (SP X pins D) X.xe s4) X.xe { s1 with heap := h3 } := by
          rw [hf]
          exact HandSPX.setFlight_upZ fl3 fun h4 hh4 up4 => wpAny_throw (tk _ _ ⟨a, B, sI, pins, σ1, H1, cls, d, rfl, J, nb, (up.trans up3).trans up4, .inr (.inr (by rw [hs]; exact hh4)), na, os, ag, hq⟩)
        first
          | exact wpAny_bind (wpAny_pure (wpAny_bind fin))
          | exact wpAny_bind fin
      | @anon x c ts b₀ suite np pos' hds2 l2 hc hsu r ih =>
        intro ⟨b, hb1, hyes, hno⟩
        refine wpAny_handleBy_cons (codeAny_handlers_test (test hc ((PySem.W.exm_one (M := model X.prog X.w) J3.kIn LT hb1).here ?_))) (by intro q; cases q)
        cases b with
        | true =>
          refine codeAny_handlers_suite (HandSPX.lands_againZ fl3 fun h4 fl4 up4 => ?_)
          have J4 : L2.Inv X pins σ1 H1 { s1 with heap := h4 } := J.landed nb fl4.1 ((up.trans up3).trans up4) os ag
          obtain ⟨oe4, vs4, he4, hz4, hd4⟩ := fl4.there
          refine wpAny_mono ((hsu a oe4 cls d (X.pn ++ pins) hz4 ⟨_, hd4⟩).run [] _ _ H1 _ (J4.suite he4 hd4 na nL nF) (hyes rfl a na)) (fun f s6 hsp => ?_) fun _ _ z => False.elim z
          cases f with
          | next => exact hsp.elim fun σ6 y => y.elim fun H6 y => ⟨σ6, H6, y.1.unsuite I.ok, y.2⟩
          | brk => exact hsp.elim fun σ6 y => y.elim fun H6 y => ⟨σ6, H6, y.1.unsuite I.ok, y.2⟩
          | cont => exact hsp.elim fun σ6 y => y.elim fun H6 y => ⟨σ6, H6, y.1.unsuite I.ok, y.2⟩
          | ret u => exact hsp.elim fun v6 y => y.elim fun σ6 y => y.elim fun H6 y => ⟨v6, σ6, H6, y.1.unsuite I.ok, y.2⟩
        | false => exact ih (hno rfl)
      | @named x n i c ts b₀ suite np pos' hds2 l2 hi hln hc hsu r ih =>
        intro ⟨b, hb1, hyes, hno⟩
        refine wpAny_handleBy_cons (codeAny_handlers_test (test hc ((PySem.W.exm_one (M := model X.prog X.w) J3.kIn LT hb1).here ?_))) (by intro q; cases q)
        cases b with
        | true =>
          refine codeAny_handlers_suite_as (HandSPX.lands_againZ fl3 fun h4 fl4 up4 => ?_)
          have J4 : L2.Inv X pins σ1 H1 { s1 with heap := h4 } := J.landed nb fl4.1 ((up.trans up3).trans up4) os ag
          obtain ⟨oe4, vs4, he4, hz4, hd4⟩ := fl4.there
          refine store_ok (X := X.suite a ((a, oe4) :: (X.pn ++ pins))) (v := .ref a) (J4.suite he4 hd4 na nL nF) hN hi (.inl hln) rfl (fun s5 S5 => ?_) (.inr hln)
          refine wpAny_mono ((hsu a oe4 cls d (X.pn ++ pins) hz4 ⟨_, hd4⟩).run [] s5 _ H1 _ S5 (hyes rfl a na)) (fun f s6 hsp => ?_) fun _ _ z => False.elim z
          have off : ∀ {σ6 : L2.St} {H6 : Hp} {Q : Shared → Prop}, L2.Inv (X.suite a ((a, oe4) :: (X.pn ++ pins))) [] σ6 H6 s6 → (∀ s7, L2.Inv X pins (σ6.set i none) H6 s7 → Q s7) → wpAny (model X.prog X.w) X.A (do bindName X.env n .none; unbindBehindTheSuite X.env n pos') (fun _ s7 => Q s7) X.xe s6 :=
            fun {σ6 H6 Q} S6 hq => gone_ok (S6.unsuite I.ok) hN hi hln hq
          cases f with
          | next => exact hsp.elim fun σ6 y => y.elim fun H6 y => off y.1 fun s7 J7 => ⟨_, _, J7, y.2⟩
          | brk => exact hsp.elim fun σ6 y => y.elim fun H6 y => off y.1 fun s7 J7 => ⟨_, _, J7, y.2⟩
          | cont => exact hsp.elim fun σ6 y => y.elim fun H6 y => off y.1 fun s7 J7 => ⟨_, _, J7, y.2⟩
          | ret u => exact hsp.elim fun v6 y => y.elim fun σ6 y => y.elim fun H6 y => off y.1 fun s7 J7 => ⟨_, _, _, J7, y.2⟩
        | false => exact ih (hno rfl)
    exact go hh hq
  refine wpAny_mono ((hb _ (X.pn ++ pins) catch_ tkc PassesOwn.looking).run [] s σ H D (I.toTry _) (hw _ _ tkc PassesOwn.looking)) (fun f s1 hsp => ?_) fun e s1 he => he
  cases f with
  | next => exact hsp.elim fun σ6 y => y.elim fun H6 y => wpAny_execs_nil ⟨σ6, H6, y.1.ofTry I.ok, y.2⟩
  | brk => exact hsp.elim fun σ6 y => y.elim fun H6 y => ⟨σ6, H6, y.1.ofTry I.ok, y.2⟩
  | cont => exact hsp.elim fun σ6 y => y.elim fun H6 y => ⟨σ6, H6, y.1.ofTry I.ok, y.2⟩
  | ret u => exact hsp.elim fun v6 y => y.elim fun σ6 y => y.elim fun H6 y => ⟨v6, σ6, H6, y.1.ofTry I.ok, y.2⟩
end
end DP

set_option Elab.async false
set_option linter.all false
set_option maxRecDepth 100000
set_option maxHeartbeats 1000000
namespace DP
open PySem PySem.Spec PyProof.Rows L2
open Evl (Ex ex_l ex_t ex_rd fresh_back)

/-- what an exception that leaves a loop's body passes -/
class PassI (Y : Cx) : Prop where
  ok : PassesOwn (model Y.prog Y.w) Y.A Y.env Y.xe
instance passI0 {Y : Cx} : PassI Y.nox := ⟨PassesOwn.never⟩
instance passI1 {P : Program} {w : World} {K : PySem.W.Frag} {mg : Str → Option Value} {base : Heap} {N : List Str} {qual : Str} {sc : Scope} {f : Addr} {cdv : Value} {A : Around} {outer : List PySem.Env} {s : Shared} {H : Hp} {E : XK} :
    PassI (cxOf (L2.CX P w) P w K mg base N qual sc f cdv A outer s H E) := ⟨passes_of rfl⟩
instance passI2 {Y : Cx} {a : Addr} {pn : List (Addr × Obj)} : PassI (Y.suite a pn) := ⟨PassesOwn.never⟩
/-! ### try, by data -/
abbrev WN : WX := W0
abbrev EN : XR := fun _ _ _ => False
def exIs (K : PySem.W.Frag) (c : Value) : Exn → Option Bool
  | .own C _ => PySem.W.exmOne K (.ref C) c
  | .blt n => PySem.W.exmOne K (.type n) c
abbrev DClause := (Exn → Option Bool) × Option Nat × (Addr → Value → Option Addr → WS)
def offD (i : Nat) (Δ : DEnds) : DEnds := { nx := fun δ S => Δ.nx (δ.set i none) S, rt := Δ.rt, bk := fun δ S => Δ.bk (δ.set i none) S, ct := fun δ S => Δ.ct (δ.set i none) S }
def dCl (E : XR) (Δ : DEnds) : List DClause → Exn → Env → Store → Prop
  | [], x, δ, S => E x δ S
  | (c, none, ws) :: r, x, δ, S => ∃ b, c x = some b ∧ if b = true then ∀ a cls d, ws a cls d Δ δ S EN else dCl E Δ r x δ S
  | (c, some i, ws) :: r, x, δ, S => ∃ b, c x = some b ∧ if b = true then ∀ a cls d, ws a cls d (offD i Δ) (δ.set i (some (.e a cls d x))) S EN else dCl E Δ r x δ S
def wTryA (cl : List DClause) (wb : WS) : WS := fun Δ δ S E => wb Δ δ S fun x δ' S' => dCl E Δ cl x δ' S'
instance {Y : Cx} {K : PySem.W.Frag} [h : HasK Y K] {pn : List (Addr × Obj)} {xe : Value → Shared → Prop} : HasK (Y.tr pn xe) K := ⟨h.eq⟩
instance {Y : Cx} {K : PySem.W.Frag} [h : HasK Y K] {a : Addr} {pn : List (Addr × Obj)} : HasK (Y.suite a pn) K := ⟨h.eq⟩
abbrev FSuite (Y : Cx) (suite : List Stmt) (ts : Addr → Value → Option Addr → TS) (ws : Addr → Value → Option Addr → WS) : Prop := ∀ (a : Addr) (oe : Obj) (cls : Value) (d : Option Addr) (pn : List (Addr × Obj)), Zc cls d oe → (∃ vs, oe.data = .fields vs) → FSs (Y.suite a ((a, oe) :: pn)) WN suite (ts a cls d) (ws a cls d)
inductive FCl (Y : Cx) : List ExceptHandler → List Clause → List DClause → Prop
  | nil : FCl Y [] [] []
  | anon {x : Str} {c : Value} {ts : Addr → Value → Option Addr → TS} {ws : Addr → Value → Option Addr → WS} {b₀ : Stmt} {suite : List Stmt} {np pos' : Pos} {hds : List ExceptHandler} {l : List Clause} {l' : List DClause} (hc : Names Y x c) (hsu : FSuite Y (b₀ :: suite) ts ws) (r : FCl Y hds l l') :
      FCl Y (.ExceptHandler (some (.Name x np)) none (b₀ :: suite) pos' :: hds) ((c, none, ts) :: l) ((exIs Y.K c, none, ws) :: l')
  | named {x n : Str} (i : Nat) {c : Value} {ts : Addr → Value → Option Addr → TS} {ws : Addr → Value → Option Addr → WS} {b₀ : Stmt} {suite : List Stmt} {np pos' : Pos} {hds : List ExceptHandler} {l : List Clause} {l' : List DClause} (hi : Y.N[i]? = some n) (hln : Y.env.kindOf n = some .local) (hc : Names Y x c) (hsu : FSuite Y (b₀ :: suite) ts ws) (r : FCl Y hds l l') :
      FCl Y (.ExceptHandler (some (.Name x np)) (some n) (b₀ :: suite) pos' :: hds) ((c, some i, ts) :: l) ((exIs Y.K c, some i, ws) :: l')
theorem FCl.ok {Y : Cx} {hds : List ExceptHandler} {l : List Clause} {l' : List DClause} (h : FCl Y hds l l') : ClOk Y hds l := by
  induction h with
  | nil => exact .nil
  | anon hc hsu r ih => exact .anon hc (fun a oe cls d pn h1 h2 => (hsu a oe cls d pn h1 h2).ps) ih
  | named i hi hln hc hsu r ih => exact .named hi hln hc (fun a oe cls d pn h1 h2 => (hsu a oe cls d pn h1 h2).ps) ih
theorem linkN {K : PySem.W.Frag} {A : Anc} : Link K A WN EN := fun _ _ _ _ _ _ _ _ _ _ h => h
theorem RepE.is {K : PySem.W.Frag} {F : Hp} {cls c : Value} {d : Option Addr} {x : Exn} {b : Bool} (r : RepE K F cls d x) (h : exIs K c x = some b) : PySem.W.exmOne K cls c = some b := by
  cases x with
  | own C fs => rw [r.1]; exact h
  | blt n => rw [r.1]; exact h
theorem link_off {K : PySem.W.Frag} {A : Anc} {D : Ends} {Δ : DEnds} {i : Nat} (lk : LinkD K A D Δ) : LinkD K A (endsOff i D) (offD i Δ) := by
  have key : ∀ {F : Hp} {δ : Env} {S : Store} {σ : L2.St} {H : Hp}, ST K A F δ S σ H → ST K A F (δ.set i none) S (σ.set i none) H := fun {F δ S σ H} st => st.setEnv (fun j x e => by
    by_cases h : i = j
    · subst h
      by_cases hi : i < δ.length
      · rw [List.getElem?_set_self hi] at e; cases e
      · rw [List.getElem?_eq_none (by simpa using hi)] at e; cases e
    · rw [List.getElem?_set_ne h] at e ⊢
      exact st.env j x e) (by rw [List.length_set, List.length_set]; exact st.len)
  exact ⟨fun F δ S σ H st q => lk.nx F _ S _ H (key st) q, lk.rt, fun F δ S σ H st q => lk.bk F _ S _ H (key st) q, fun F δ S σ H st q => lk.ct F _ S _ H (key st) q⟩
theorem FCl.link {Y : Cx} {hds : List ExceptHandler} {l : List Clause} {l' : List DClause} {A : Anc} {D : Ends} {Δ : DEnds} {E : XR} {W : WX} (h : FCl Y hds l l') (lkD : LinkD Y.K A D Δ) (lk : Link Y.K A W E) : Link Y.K A (wCl Y.K W D l) (dCl E Δ l') := by
  induction h with
  | nil => exact lk
  | @anon x c ts ws b₀ suite np pos' hds l l' hc hsu r ih =>
    intro F δ S σ H cls d y st re ⟨b, hb, q⟩
    refine ⟨b, re.is hb, fun e a ha => ?_, fun e => ?_⟩
    · subst e
      exact (hsu a { cls := cls, dict := d, data := .fields #[] } cls d [] ⟨rfl, rfl⟩ ⟨_, rfl⟩).re A F δ S σ H D Δ EN st lkD linkN (q a cls d)
    · subst e
      exact ih F δ S σ H cls d y st re q
  | @named x n i c ts ws b₀ suite np pos' hds l l' hi hln hc hsu r ih =>
    intro F δ S σ H cls d y st re ⟨b, hb, q⟩
    refine ⟨b, re.is hb, fun e a ha => ?_, fun e => ?_⟩
    · subst e
      exact (hsu a { cls := cls, dict := d, data := .fields #[] } cls d [] ⟨rfl, rfl⟩ ⟨_, rfl⟩).re A F _ S _ H _ _ EN (st.store (x := .e a cls d y) (v := .ref a) ⟨rfl, re⟩) (link_off lkD) linkN (q a cls d)
    · subst e
      exact ih F δ S σ H cls d y st re q
theorem fs_tryA {Y : Cx} {W : WX} [tk : TakesI Y W] {body : List Stmt} {h₀ : ExceptHandler} {hds : List ExceptHandler} {l : List Clause} {l' : List DClause} {pos : Pos} {tb : WX → TS} {wb : WS} (hs : Y.stack = Y.env :: Y.outer) (hf : Y.env.frame = some Y.env.locals) (hN : Y.N.Nodup)
    (hb : ∀ (W : WX) (pn : List (Addr × Obj)) (xe : Value → Shared → Prop), TakesI (Y.tr pn xe) W → PassI (Y.tr pn xe) → FSs (Y.tr pn xe) W body (tb W) wb)
    (hh : FCl Y (h₀ :: hds) l l') : FS Y W (.Try body (h₀ :: hds) [] [] pos) (fun D σ H => ∀ (pn : List (Addr × Obj)) (xe : Value → Shared → Prop), Takes (Y.tr pn xe) (wCl Y.K W D l) → PassesOwn (model Y.prog Y.w) Y.A Y.env xe → tb (wCl Y.K W D l) D σ H) (wTryA l' wb) :=
  ⟨ps_tryA hs hf hN tk.tk (fun W pn xe t p => (hb W pn xe ⟨t⟩ ⟨p⟩).ps) hh.ok, fun A F δ S σ H D Δ E st lkD lk hw pn xe t p => (hb _ pn xe ⟨t⟩ ⟨p⟩).re A F δ S σ H D Δ _ st lkD (hh.link lkD lk) hw⟩

/-! ### an attribute of the exception that is handled -/
def wExcF (a : Addr) (cls : Value) (d : Option Addr) (C : Addr) (n : Str) (w : WE) : WE := fun δ S Q E => w δ S (fun y S1 => match y with
  | .e a' cls' d' (.own C' fs) => (a' = a ∧ cls' = cls ∧ d' = d) ∧ C' = C ∧ ∃ v, fs.lookup n = some v ∧ Q (.d v) S1
  | _ => False) E
theorem f_excF {Y : Cx} {W : WX} {a C : Addr} {oe : Obj} {cls : Value} {d : Option Addr} {pn : List (Addr × Obj)} {e : Expr} {te : TE} {we : WE} {pos : Pos} {n : Str} (T : XfC Y.K C) (hno : PySem.W.findIn Y.K (.ref C) n = some none)
    (hz : Zc cls d oe) (hf : ∃ vs, oe.data = .fields vs) (he : FE (Y.suite a ((a, oe) :: pn)) W e te we) (hb : attributeBase e n Y.env (eval e Y.env) = eval e Y.env := by rfl) :
    FE (Y.suite a ((a, oe) :: pn)) W (.Attribute e n pos) (tXf a cls d C n te) (wExcF a cls d C n we) :=
  ⟨pe_xf T hno hz hf he.pe hb, fun A F δ S σ H Q E Q' st lk hw k => he.re A F δ S σ H _ E _ st lk hw fun F1 S1 H1 v y st1 e1 r q => by
    split at q
    · obtain ⟨⟨rfl, rfl, rfl⟩, rfl, u, hu, q⟩ := q
      obtain ⟨rfl, rc, rd⟩ := r
      refine ⟨rfl, rc, ?_⟩
      rcases rd with ⟨h1, _⟩ | ⟨da, ws, h1, h2, h3⟩
      · rw [h1] at hu; cases hu
      · obtain ⟨v, h4, h5⟩ := h3.lookup hu
        exact ⟨da, ws, v, h1, st1.fr _ _ h2, h4, k F1 S1 H1 v (.d u) st1 e1 h5 q⟩
    · exact q.elim⟩
end DP

set_option Elab.async false
set_option linter.all false
set_option maxRecDepth 100000
set_option maxHeartbeats 4000000
namespace DP
open PySem PySem.Spec PyProof.Rows L2
open Evl (Ex ex_l ex_t ex_rd fresh_back)

/-! ### isinstance of the exception that is handled (with a dict or without) -/
theorem find_class {K : PySem.W.Frag} {D : Addr} {od : Option Obj} (T : ExcC K D) : PySem.W.findObj K D od "__class__" = some (.bind (.builtin "getset_descriptor.__get__") (.builtin "object.__class__")) := by
  have hd := T.hd
  unfold PySem.W.hasDictIn at hd
  unfold PySem.W.findObj
  cases e : PySem.W.clsIn K D with
  | none => rw [e] at hd; cases hd
  | some cd => rw [Option.bind_some, T.ha, Option.bind_some]; simp [T.hn, T.ht]
theorem cls_exc {prog : Program} {w : World} {A : Around} {E : Value → Shared → Prop} {s : Shared} {K : PySem.W.Frag} {x D : Addr} {ox : Obj} {od : Option Obj} {Q : Option Value → Shared → Prop} (T : ExcC K D) (KX : K.In s.heap) (I : PySem.W.InstAt s.heap x ox D od) (h : Q (some (.ref D)) { s with toks := s.toks + 1 }) :
    wpAny (model prog w) A (getAttr? (.ref x) "__class__") Q E s := by
  have hf := find_class (od := od) T
  obtain ⟨hp, g, d, t, os⟩ := s
  have M0 := I.type (M := model prog w)
  have M1 := PySem.W.looks_findIn (M := model prog w) KX T.hg
  have M2 := PySem.W.looks_findIn (M := model prog w) KX T.hk
  have M3 := PySem.W.looks_find (M := model prog w) KX I hf
  have sub : PySem.W.Looks (model prog w) hp (isInstance (.ref x) (.type "BaseException")) true := M0.andThen (PySem.W.looks_subIn KX T.hs)
  have n2 : (Value.builtin "BaseException.__getattribute__" == Value.builtin "object.__getattribute__") = false := by decide +kernel
  unfold getAttr? getAttrBy? getAttrBy
  refine wpAny_bind (wpAny_mkText (wpAny_bind (wpAny_attempt (wpAny_holding (wpAny_bind (M0.at (wpAny_bind (M1.at ?_))))))))
  show wpAny _ _ (if (onTheHeap (Value.ref D) && (Value.builtin "BaseException.__getattribute__" == Value.builtin "object.__getattribute__")) = true then _ else _) _ _ _
  rw [n2, Bool.and_false, if_neg Bool.false_ne_true]
  unfold getAttrByItsOwn hookBefore
  refine wpAny_bind ?_
  rw [if_pos (show onTheHeap (Value.ref D) = true from rfl)]
  refine M2.at (wpAny_bind (wpAny_attempt (wpAny_holding ?_)))
  unfold callGetattribute
  rw [if_neg (show ¬ (false && onTheHeap (Value.builtin "BaseException.__getattribute__")) = true from Bool.false_ne_true)]
  unfold boundAndCalled
  rw [PySem.F.excAttr_ValueError.ga.bind (.ref x)]
  refine wpAny_bind (wpAny_pure ?_)
  show wpAny _ _ (call (.builtin "BaseException.__getattribute__") [.ref x, .str "__class__" t]) _ _ _
  refine wpAny_call (codeAny_call_builtin PySem.F.excAttr_ValueError.ga.plain PySem.F.entry_bexc_ga (@PySem.W.check_slot (model prog w) _ _ ⟨hp, g, d, t + 1, os⟩ "BaseException.__getattribute__" "BaseException" "__getattribute__" (.ref x) [.str "__class__" t] [] _ (by decide +kernel) (by decide +kernel) sub (PySem.F.args_bexc_ga (.ref x) (.str "__class__" t)) ?_))
  unfold Builtin.«object.__getattribute__»
  refine wpAny_bind (wpAny_of_eq (a := ((Value.ref x : Value), [Value.str "__class__" t])) (by first | rfl | (simp only [slotArgs]; rfl)) (wpAny_bind (wpAny_pure (wpAny_bind (M0.at (wpAny_bind (M3.at ?_)))))))
  show wpAny _ _ (holding [Value.builtin "object.__class__"] (call (.builtin "getset_descriptor.__get__") [.builtin "object.__class__", .ref x, .ref D]) >>= ret) _ _ _
  refine wpAny_bind (wpAny_holding (wpAny_call (PySem.W.class_get (s := ⟨hp, g, d, t + 1, os⟩) (ox := ox) (od := od) KX I T.hm (wpAny_pure ?_))))
  show wpAny _ _ (handedOut (.ref D)) _ _ _
  rw [PySem.W.handedOut_of (v := .ref D) rfl]
  first
    | exact wpAny_pure (wpAny_pure h)
    | exact wpAny_pure h
    | exact wpAny_pure (wpAny_bind (wpAny_pure (wpAny_pure h)))
theorem kit_exc {K : PySem.W.Frag} {x D : Addr} {ox : Obj} {od : Option Obj} (T : ExcC K D) : PySem.W.KitX K (.ref x) (.ref D) (fun h => PySem.W.InstAt h x ox D od) := by
  have hd := T.hd
  unfold PySem.W.hasDictIn at hd
  obtain ⟨c1, c2, cd, c3, hl⟩ : ∃ c1 c2 cd c3, K.lookup D = some ⟨c1, c2, .cls cd, c3⟩ := by
    cases e : PySem.W.clsIn K D with
    | none => rw [e] at hd; cases hd
    | some cd =>
      unfold PySem.W.clsIn at e
      split at e
      · rename_i c' d' cd' sl' ho
        exact ⟨_, _, _, _, ho⟩
      · cases e
  exact { ty := fun _ _ _ I => I.type
          it := fun _ _ X _ A' Q' E' s' k q => by
            unfold isType loadHead
            exact wpAny_bind (wpAny_loadPart (k _ _ (X _ _ hl)) (wpAny_pure q))
          ne := fun h tp dd its n sl X htp => Bool.eq_false_iff.mpr fun q => by
            have e : D = tp := Value.ref.inj (beq_iff_eq.mp q)
            subst e
            have z := (X _ _ hl).symm.trans htp
            cases z
          ca := fun X I k => cls_exc T X I k }
section
variable {X : Cx} {a D : Addr} {oe : Obj} {d : Option Addr} {pn pins : List (Addr × Obj)} {σ : L2.St} {H : Hp} {s : Shared}
theorem inst_exc (I : L2.Inv (X.suite a ((a, oe) :: pn)) pins σ H s) (hz : Zc (.ref D) d oe) (hf : ∃ vs, oe.data = .fields vs) (hd : d = none ∨ ∃ da ws, d = some da ∧ H da = some (.xd ws)) : ∃ od, PySem.W.InstAt s.heap a oe D od := by
  obtain ⟨hget, _⟩ := I.pin (a, oe) (List.mem_append.mpr (.inl List.mem_cons_self))
  obtain ⟨vs, hv⟩ := hf
  obtain ⟨z1, z2⟩ := hz
  rcases hd with rfl | ⟨da, ws, rfl, hda⟩
  · exact ⟨none, hget, z1, by unfold PySem.W.notCls; rw [hv], by rw [z2]; trivial⟩
  · have hx : ObjOk X.prog X.w H s.heap da (.xd ws) := I.hok da _ hda
    obtain ⟨mA, hns, hr⟩ := hx
    obtain ⟨od, ho, hl⟩ := lookIn_ns hns
    exact ⟨some od, hget, z1, by unfold PySem.W.notCls; rw [hv], by rw [z2]; exact ho⟩
/-- what isinstance asks -/
def rIsX (K : PySem.W.Frag) (a : Addr) (cls : Value) (d : Option Addr) : List V → Hp → VK → Prop := fun xs H Q => ∃ (D : Addr) (c : V) (u : Value) (b : Bool), xs = [.ref a, c] ∧ cls = .ref D ∧ ExcC K D ∧ (d = none ∨ ∃ da ws, d = some da ∧ H da = some (.xd ws)) ∧ ClsV c u ∧ PySem.W.kitOne K (.ref D) u = some b ∧ Q (.bl b) H
theorem call_isX {cls : Value} (hz : Zc cls d oe) (hf : ∃ vs, oe.data = .fields vs) : CallR (X.suite a ((a, oe) :: pn)) (.builtin "isinstance") (rIsX X.K a cls d) := by
  intro pins s σ H xs us Q I r ⟨D, c, u, b, ex, ec, T, hd, k, e, q⟩
  subst ex ec
  cases r with
  | cons rx rr =>
    cases rr with
    | cons rt rr =>
      cases rr
      cases rx
      have e2 := k.eq rt
      subst e2
      obtain ⟨od, J⟩ := inst_exc I hz hf hd
      exact PySem.W.kia_one (kit_exc T) I.kIn J e (fun z => nomatch z) fun tk => ⟨.bl b, H, I.kept (t' := tk) fun _ _ z => z, rfl, q⟩
def rIsXT (K : PySem.W.Frag) (a : Addr) (cls : Value) (d : Option Addr) : List V → Hp → VK → Prop := fun xs H Q => ∃ (D tp : Addr) (cs : List V) (us : List Value) (b : Bool), xs = [.ref a, .ref tp] ∧ H tp = some (.tup cs) ∧ Paired ClsV cs us ∧ cls = .ref D ∧ ExcC K D ∧ (d = none ∨ ∃ da ws, d = some da ∧ H da = some (.xd ws)) ∧ PySem.W.kitAny K (.ref D) us = some b ∧ Q (.bl b) H
theorem call_isXT {cls : Value} (hz : Zc cls d oe) (hf : ∃ vs, oe.data = .fields vs) : CallR (X.suite a ((a, oe) :: pn)) (.builtin "isinstance") (rIsXT X.K a cls d) := by
  intro pins s σ H xs us Q I r ⟨D, tp, cs, ws, b, ex, hT, k, ec, T, hd, e, q⟩
  subst ex ec
  cases r with
  | cons rx rr =>
    cases rr with
    | cons rt rr =>
      cases rr
      cases rx
      cases rt
      obtain ⟨_, its, rv, o, h1, h2, n, h3⟩ := (show ObjOk X.prog X.w H s.heap tp (.tup cs) from I.hok tp _ hT)
      have e3 := ClsV.all k rv
      subst e3
      obtain ⟨oc, od0, dt, sl⟩ := o
      simp only at h2 h3
      subst h2 h3
      obtain ⟨od, J⟩ := inst_exc I hz hf hd
      exact PySem.W.kia_tup (kit_exc T) I.kIn J h1 e (fun z => nomatch z) fun tk => ⟨.bl b, H, I.kept (t' := tk) fun _ _ z => z, rfl, q⟩
end
/-! ### .. by data -/
/-- the exception x is the one that is handled -/
def isHeld (K : PySem.W.Frag) (a : Addr) (cls : Value) (d : Option Addr) (x : X) (k : Addr → Prop) : Prop := match x with
  | .e a' cls' d' (.own D _) => (a' = a ∧ cls' = cls ∧ d' = d) ∧ ExcC K D ∧ k D
  | _ => False
theorem isHeld.ok {K : PySem.W.Frag} {A : Anc} {F H : Hp} {δ : Env} {S : Store} {σ : L2.St} {a : Addr} {cls : Value} {d : Option Addr} {x : X} {k : Addr → Prop} {v : V} (st : ST K A F δ S σ H) (r : RepX K F v x) (h : isHeld K a cls d x k) :
    ∃ D, v = .ref a ∧ cls = .ref D ∧ ExcC K D ∧ (d = none ∨ ∃ da ws, d = some da ∧ H da = some (.xd ws)) ∧ k D := by
  unfold isHeld at h
  split at h
  · obtain ⟨⟨rfl, rfl, rfl⟩, T, q⟩ := h
    obtain ⟨rfl, rfl, rd⟩ := r
    exact ⟨_, rfl, rfl, T, rd.elim (fun z => .inl z.2) fun ⟨da, ws, h1, h2, _⟩ => .inr ⟨da, ws, h1, st.fr _ _ h2⟩, q⟩
  · exact h.elim
def dIsX (K : PySem.W.Frag) (a : Addr) (cls : Value) (d : Option Addr) : DRC := fun xs S Q => match xs with
  | [x, c] => isHeld K a cls d x fun D => ∃ u b, clsOf c = some u ∧ PySem.W.kitOne K (.ref D) u = some b ∧ Q (.d (.bl b)) S
  | _ => False
theorem rc_isX {K : PySem.W.Frag} {a : Addr} {cls : Value} {d : Option Addr} : RC K (rIsX K a cls d) (dIsX K a cls d) := fun A F δ S σ H vs xs Q Q' st rs h k => by
  unfold dIsX at h
  split at h
  · cases rs with
    | cons r1 rs =>
      obtain ⟨v2, rfl, r2⟩ := RepXs.one rs
      obtain ⟨D, rfl, rfl, T, hd, u, b, hu, hb, q⟩ := isHeld.ok st r1 h
      exact ⟨D, v2, u, b, rfl, rfl, T, hd, clsOf.ok r2 hu, hb, go st k (x := .d _) (Rep.bl _) q⟩
  · exact h.elim
def wIsXT (K : PySem.W.Frag) (a : Addr) (cls : Value) (d : Option Addr) (we : WE) (wa : WA) : WE := fun δ S Q E => we δ S (fun x S1 => wa δ S1 (fun cs S2 => cs.length ≤ sizeLine ∧ isHeld K a cls d x fun D => ∃ us b, clsAll cs = some us ∧ PySem.W.kitAny K (.ref D) us = some b ∧ Q (.d (.bl b)) S2) E) E
theorem re_isXT {K : PySem.W.Frag} {W : WX} {a : Addr} {cls : Value} {d : Option Addr} {te : TE} {ta : TA} {we : WE} {wa : WA} (h1 : RE K W te we) (h2 : RA K W ta wa) : RE K W (tCB (rIsXT K a cls d) (tCons te (tCons (tTup ta) tNil))) (wIsXT K a cls d we wa) := fun A F δ S σ H Q E Q' st lk hw k =>
  h1 A F δ S σ H _ E _ st lk hw fun F1 S1 H1 v x st1 e1 r1 q1 => h2 A F1 δ S1 σ H1 _ E _ st1 lk q1 fun F2 S2 H2 vs cs st2 e2 rs ⟨hl, q2⟩ => ⟨by rw [rs.len]; exact hl, fun p hp => by
    have st3 : ST K A F2 δ S2 σ (upd H2 p (.tup vs)) := st2.junk hp
    obtain ⟨D, rfl, rfl, T, hd, us, b, hu, hb, q⟩ := isHeld.ok st3 (r1.mono e2) q2
    exact ⟨D, p, vs, us, b, rfl, upd_same, clsAll.ok rs hu, rfl, T, hd, hb, k F2 S2 _ _ (.d (.bl b)) st3 (e1.trans e2) (Rep.bl _) q⟩⟩
section
variable {Y : Cx} {W : WX} {a : Addr} {oe : Obj} {cls : Value} {d : Option Addr} {pn : List (Addr × Obj)} {e c : Expr} {es : List Expr} {te tc : TE} {we wc : WE} {ta : TA} {wa : WA} {p pos tpos : Pos}
theorem f_isX {K0 : PySem.W.Frag} [hKK : HasK Y K0] (hz : Zc cls d oe) (hf : ∃ vs, oe.data = .fields vs) (hm : Y.mg "isinstance" = none) (h : FE (Y.suite a ((a, oe) :: pn)) W e te we) (h2 : FE (Y.suite a ((a, oe) :: pn)) W c tc wc) (hg : Gl Y "isinstance" := by rfl) (he : starEach [e, c] Y.env = (false, eval e Y.env) :: starEach [c] Y.env := by rfl) (he2 : starEach [c] Y.env = (false, eval c Y.env) :: starEach [] Y.env := by rfl)
    (hpl : (backTo pos (starEach [c] Y.env)).any (·.1) = false := by rfl) :
    FE (Y.suite a ((a, oe) :: pn)) W (.Call (.Name "isinstance" p) [e, c] [] pos) (tCB (rIsX K0 a cls d) (tCons te (tCons tc tNil))) (wCB (dIsX K0 a cls d) (wCons we (wCons wc wNil))) := by
  obtain ⟨rfl⟩ := hKK
  exact f_callB (call_isX hz hf) rc_isX hm (fa_cons h (fa_cons h2 fa_nil he2) he) (hg := hg) (he := he) (hpl := hpl)
theorem f_isXT {K0 : PySem.W.Frag} [hKK : HasK Y K0] {x1} (hz : Zc cls d oe) (hf : ∃ vs, oe.data = .fields vs) (hm : Y.mg "isinstance" = none) (h : FE (Y.suite a ((a, oe) :: pn)) W e te we) (h2 : FA (Y.suite a ((a, oe) :: pn)) W es ta wa) (hg : Gl Y "isinstance" := by rfl) (he : starEach [e, .Tuple es x1 tpos] Y.env = (false, eval e Y.env) :: starEach [.Tuple es x1 tpos] Y.env := by rfl)
    (he2 : starEach [.Tuple es x1 tpos] Y.env = (false, eval (.Tuple es x1 tpos) Y.env) :: starEach [] Y.env := by rfl) (hpl : (backTo pos (starEach [.Tuple es x1 tpos] Y.env)).any (·.1) = false := by rfl) :
    FE (Y.suite a ((a, oe) :: pn)) W (.Call (.Name "isinstance" p) [e, .Tuple es x1 tpos] [] pos) (tCB (rIsXT K0 a cls d) (tCons te (tCons (tTup ta) tNil))) (wIsXT K0 a cls d we wa) := by
  obtain ⟨rfl⟩ := hKK
  exact ⟨pe_callB (call_isXT hz hf) hg hm (by decide +kernel) (pa_cons h.pe (pa_cons (pe_tup h2.pa) pa_nil he2) he) (by decide) (by decide) he hpl, re_isXT h.re h2.re⟩
end
end DP

set_option Elab.async false
set_option linter.all false
set_option maxRecDepth 100000
set_option maxHeartbeats 1000000
namespace DP
open PySem PySem.Spec PyProof.Rows L2
open Evl (Ex ex_l ex_t ex_rd fresh_back)

/-! ### defs that say super().__init__(..), by data -/
structure FSat (Y : Cx) (W : WX) (c : Code) (s : List Stmt) (ts : TS) (ws : WS) : Prop where
  ps : PSat Y c s ts
  re : RS Y.K W ts ws
section
variable {Y : Cx} {W : WX} {c : Code} {st : Stmt} {rest : List Stmt} {t u : TS} {a b : WS}
theorem fsat_of (h : FSs Y W rest t a) : FSat Y W c rest t a := ⟨psat_of h.ps, h.re⟩
theorem fsat_cons (h : FS Y W st t a) (h2 : FSat Y W c rest u b) : FSat Y W c (st :: rest) (tSeq t u) (wSeq a b) := ⟨psat_cons h.ps h2.ps, rs_seq h.re h2.re⟩
end
/-- super().__init__(..) of the class at D: the parent's promise ds; i: where the new object stands -/
def wSupO (D : Addr) (ds : DSp) (i : Nat) (wa : WA) : WS := fun Δ δ S E => ∃ a fs, δ[0]? = some (some (.h a)) ∧ S[i]? = some (a, .obj D fs) ∧ wa δ S (fun xs S1 => callD ds [i] (.h a :: xs) S1 (fun _ S2 => Δ.nx δ S2) noE) E
theorem rs_supO {K : PySem.W.Frag} {W : WX} {D f2 : Addr} {ds : DSp} {i : Nat} {ta : TA} {wa : WA} (h : RA K W ta wa) : RS K W (tSupO K D f2 (lift K ds) ta) (wSupO D ds i wa) := fun A F δ S σ H Δ' Δ E st lkD lk ⟨a, fs, h0, hi, hw⟩ => by
  obtain ⟨v, hv, rv⟩ := st.env 0 _ h0
  have rv : v = .ref a := rv
  subst rv
  obtain ⟨_, dx, vs, hH, _⟩ := st.cell _ (List.mem_of_getElem? hi)
  refine ⟨a, dx, vs, hv, hH, fun q hq => ?_⟩
  obtain ⟨st1, e1⟩ := st.laid (o := .met f2 a) hq
  refine h A _ δ S σ _ _ E _ st1 lk hw fun F2 S2 H2 ws xs st2 e2 rs q2 => ⟨st2.fr _ _ (e2 _ _ upd_same), ?_⟩
  exact lift_call st2 (Paired.cons (show RepX K F2 (.ref a) (.h a) from rfl) rs) q2 (fun F' S' H' v x st' e' _ q => lkD.nx F' δ S' σ H' st' q) fun _ _ _ _ _ _ _ _ z => z
instance {CX : CXT} {P : Program} {w : World} {K : PySem.W.Frag} {mg : Str → Option Value} {base : Heap} {N : List Str} {F : NdefX.NF} {f : Addr} {A : Around} {outer : List PySem.Env} {s : Shared} {H : Hp} {E : XK} : HasK (NdefX.ncx CX P w K mg base N F f A outer s H E) K := ⟨rfl⟩
instance {P : Program} {w : World} {K : PySem.W.Frag} {mg : Str → Option Value} {base : Heap} {N : List Str} {F : NdefX.NF} {f : Addr} {A : Around} {outer : List PySem.Env} {s : Shared} {H : Hp} {E : XK} :
    TakesI (NdefX.ncx (L2.CX P w) P w K mg base N F f A outer s H E) (fun cls d _ H => E cls d H) := ⟨takes_of rfl rfl rfl rfl⟩
instance {P : Program} {w : World} {K : PySem.W.Frag} {mg : Str → Option Value} {base : Heap} {N : List Str} {F : NdefX.NF} {f : Addr} {A : Around} {outer : List PySem.Env} {s : Shared} {H : Hp} {E : XK} :
    PassI (NdefX.ncx (L2.CX P w) P w K mg base N F f A outer s H E) := ⟨passes_of rfl⟩
section
variable {P : Program} {w : World} {K : PySem.W.Frag} {mg : Str → Option Value} {base : Heap} {N ps : List Str} {f f2 cc cda D : Addr} {name qual sf : Str} {pr : Arguments} {body rest : List Stmt} {sc : Scope} {fd fd2 : FuncData} {k j : Nat} {sp sp2 : DSp} {e : Expr} {es : List Expr} {p0 p1 p2 p3 p4 : Pos} {A : Around} {outer : List PySem.Env} {s : Shared} {H : Hp} {E : XK} {W : WX} {ta : TA} {wa : WA} {u : TS} {wu : WS} {ps2 : List Str} {ws : WS}
theorem fsat_supO {i : Nat} (U : SupOk P K mg sc pr cda cc D sf) (FS : FnSu K f cc cda name qual pr body sc fd) (hsf : N[0]? = some sf) (F2 : FnOk P w K mg base (L2.CX P w) k f2 fd2 ps2 (lift K sp2)) (hr : Room k (A.deeper (NdefX.envF (nfSu name qual pr body sc cc cda) f s.heap.objs.size)))
    (hb2 : Binds K fd2 ps2 []) (hm : PySem.W.ks_superIn K D D "__init__" = some (some (.ref f2))) (ht : PySem.W.fnIn K f2 = true) (ht2 : PySem.W.typeIn K (.ref f2) = some (.type "function"))
    (ha : FA (NdefX.ncx (L2.CX P w) P w K mg base N (nfSu name qual pr body sc cc cda) f A outer s H E) W (e :: es) ta wa) (h : FSat (NdefX.ncx (L2.CX P w) P w K mg base N (nfSu name qual pr body sc cc cda) f A outer s H E) W (.func body (NdefX.envF (nfSu name qual pr body sc cc cda) f s.heap.objs.size)) rest u wu)
    (hev : ∀ env : PySem.Env, eval (supCall (e :: es) p0 p1 p2 p3) env = (do
      let ov ← attributeBase (.Call (.Name "super" p0) [] [] p1) "__init__" env (eval (.Call (.Name "super" p0) [] [] p1) env)
      standAt p2.atName
      let (f, first) ← holding [ov] (getMethod ov "__init__" (pure false))
      callWith p3 f first (backTo p3 (starEach (e :: es) env)) []) := by intro _; rfl)
    (hsw : ∀ env : PySem.Env, swapsWith (supCall (e :: es) p0 p1 p2 p3) none p4.line env = pure false := by intro _; rfl)
    (he : ∀ env : PySem.Env, starEach (e :: es) env = (false, eval e env) :: starEach es env := by intro _; rfl) (hpl : ∀ env : PySem.Env, (backTo p3 (starEach es env)).any (·.1) = false := by intro _; rfl) :
    FSat (NdefX.ncx (L2.CX P w) P w K mg base N (nfSu name qual pr body sc cc cda) f A outer s H E) W (.func body (NdefX.envF (nfSu name qual pr body sc cc cda) f s.heap.objs.size)) (.Expr (supCall (e :: es) p0 p1 p2 p3) p4 :: rest) (tSeq (tSupO K D f2 (lift K sp2) ta) u) (wSeq (wSupO D sp2 i wa) wu) :=
  ⟨psat_supO U FS hsf F2 hr hb2 passL hm ht ht2 ha.pa h.ps hev hsw he hpl, rs_seq (rs_supO ha.re) h.re⟩
theorem ST.startF {A : Anc} {F H : Hp} {S : Store} {vs : List V} {xs : List X} {ws : List (Option V)} (st : ST K A F [] S [] H) (r : RepXs K F vs xs) (hl : vs.length + ws.length ≤ N.length) : ST K A F (DP.startD N xs) S (NdefX.startF N vs ws) H := st.setEnv (fun i x e => by
    unfold DP.startD at e
    by_cases hi : i < xs.length
    · rw [List.getElem?_append_left (by simpa using hi), List.getElem?_map] at e
      cases q : xs[i]? with
      | none => rw [q] at e; cases e
      | some y =>
        rw [q] at e
        cases e
        obtain ⟨v, h1, h2⟩ := r.get q
        refine ⟨v, ?_, h2⟩
        unfold NdefX.startF
        rw [List.getElem?_append_left (by simpa [r.len] using hi), List.getElem?_map, h1]; rfl
    · rw [List.getElem?_append_right (by simpa using hi), List.getElem?_replicate] at e
      split at e <;> cases e) (by
    have := r.len
    unfold DP.startD NdefX.startF
    simp only [List.length_append, List.length_map, List.length_replicate]
    omega)
theorem dfnSu (U : SupOk P K mg sc pr cda cc D sf) (FS : FnSu K f cc cda name qual pr body sc fd) (S : NdefX.NScope N ps ["__class__"] sc) (hN : ps.length + 1 ≤ N.length) (len : ∀ xs S Q E, sp xs S Q E → xs.length = ps.length)
    (hbody : ∀ (A : Around) (outer : List PySem.Env) (s : Shared) (H : Hp) (E : XK), Room k (A.deeper (NdefX.envF (nfSu name qual pr body sc cc cda) f s.heap.objs.size)) →
      ∃ t, FSat (NdefX.ncx (L2.CX P w) P w K mg base N (nfSu name qual pr body sc cc cda) f A outer s H E) (fun cls d _ H => E cls d H) (.func body (NdefX.envF (nfSu name qual pr body sc cc cda) f s.heap.objs.size)) body t ws)
    (hw : ∀ xs S Q E, sp xs S Q E → ws { nx := fun _ S' => Q (.d .non) S', rt := Q } (startD N xs) S (fun x _ S => E x S)) : FnOk P w K mg base (L2.CX P w) (k + 1) f fd ps (lift K sp) := by
  refine fn_su U FS S (fun vs H Q E h => ?_) (fun A outer s H vs Q E hr h => ?_)
  · obtain ⟨F, xs, S, Qd, Ed, _, r, h, _⟩ := h
    exact r.len.trans (len _ _ _ _ h)
  · obtain ⟨F, xs, S', Qd, Ed, st, r, h, k1, k2⟩ := h
    obtain ⟨t, ht⟩ := hbody A outer s H E hr
    have hl : vs.length + [some (V.ref D)].length ≤ N.length := by have := r.len; have := len _ _ _ _ h; simp; omega
    refine ⟨t, ht.ps, ht.re _ F _ S' _ H _ _ _ (st.startF r hl) ⟨fun F' δ S' σ H' st' q => ?_, fun F' δ S' σ H' v y st' ry q => ?_, fun _ _ _ _ _ _ z => z, fun _ _ _ _ _ _ z => z⟩ (linkX k2) (hw _ _ _ _ h)⟩
    · exact k1 F' S' H' .non (.d .non) (st'.setEnv (fun i x e => by simp at e) rfl) Rep.non q
    · exact k1 F' S' H' v y (st'.setEnv (fun i x e => by simp at e) rfl) ry q
end
end DP

set_option Elab.async false
set_option linter.all false
set_option maxRecDepth 100000
set_option maxHeartbeats 1000000
namespace DP
open PySem PySem.Spec PyProof.Rows L2
open Evl (Ex ex_l ex_t ex_rd fresh_back)

/-! ### xs.insert(i, y) -/
def rInsert : V → List V → Hp → VK → Prop := fun x vs H Q => ∃ (l : Addr) (xs : List V) (i : Int) (y : V), x = .ref l ∧ vs = [.int i, y] ∧ H l = some (.lst xs) ∧ xs.length < sizeLine ∧ 0 ≤ i ∧ i < 2 ^ 63 ∧ Q .non (upd H l (.lst (xs.take i.toNat ++ [y] ++ xs.drop i.toNat)))
def dInsert : DRM := fun a xs S Q => match xs with
  | [.d (.int n), y] => lstAt S a fun i ys => ys.length < sizeLine ∧ 0 ≤ n ∧ n < 2 ^ 63 ∧ Q (.d .non) (S.set i (a, .lst (ys.take n.toNat ++ [y] ++ ys.drop n.toNat)))
  | _ => False
theorem RepXs.take {K : PySem.W.Frag} {F : Hp} : ∀ (i : Nat) {vs : List V} {xs : List X}, RepXs K F vs xs → RepXs K F (vs.take i) (xs.take i)
  | 0, _, _, _ => by simp; exact .nil
  | _ + 1, _, _, .nil => .nil
  | i + 1, _, _, .cons r t => .cons r (RepXs.take i t)
theorem RepXs.drop {K : PySem.W.Frag} {F : Hp} : ∀ (i : Nat) {vs : List V} {xs : List X}, RepXs K F vs xs → RepXs K F (vs.drop i) (xs.drop i)
  | 0, _, _, r => r
  | _ + 1, _, _, .nil => .nil
  | i + 1, _, _, .cons r t => RepXs.drop i t
theorem rm_insert {K : PySem.W.Frag} : RM K rInsert dInsert := fun A F δ S σ H a vs xs Q Q' st rs h k => by
  unfold dInsert at h
  split at h
  · rename_i n y
    cases rs with
    | cons r1 rs =>
      obtain ⟨v2, rfl, r2⟩ := RepXs.one rs
      obtain ⟨i, ys, ws, e, hf, hp, rr, h1, h2, h3, q⟩ := lstAt.ok st h
      exact ⟨a, ws, n, v2, rfl, by rw [repd_int r1], hp, by rw [rr.len]; exact h1, h2, h3, goW st k e hf (((rr.take n.toNat).app (.cons r2 .nil)).app (rr.drop n.toNat)) (x := .d .non) Rep.non q⟩
  · exact h.elim
section
variable {Y : Cx} {W : WX} {pos cpos apos : Pos} {o a b : Expr} {to ta tb : TE} {wo wa wb : WE}
theorem f_insert {K0 : PySem.W.Frag} [hKK : HasK Y K0] (ho : FE Y W o to wo) (h : FE Y W a ta wa) (h2 : FE Y W b tb wb) (hbase : attributeBase o "insert" Y.env (eval o Y.env) = eval o Y.env := by rfl)
    (hfew : ((backTo cpos (starEach [a, b] Y.env)).all (fun x => !x.1) && (backToKw cpos (keywordEach [] Y.env)).all (fun x => x.1.isSome) && decide ([a, b].length + ([] : List Keyword).length + (if ([] : List Keyword).isEmpty then 0 else 1) < 30)) = true := by rfl)
    (hline : (apos.endLine == cpos.line) = true := by rfl) (hs : starEach [a, b] Y.env = (false, eval a Y.env) :: starEach [b] Y.env := by rfl) (hs2 : starEach [b] Y.env = (false, eval b Y.env) :: starEach [] Y.env := by rfl) (hp : (backTo cpos (starEach [b] Y.env)).any (·.1) = false := by rfl) :
    FE Y W (.Call (.Attribute o "insert" apos) [a, b] [] cpos) (tBM K0 "list" rInsert to (tCons ta (tCons tb tNil))) (wBM dInsert wo (wCons wa (wCons wb wNil))) := by
  obtain ⟨rfl⟩ := hKK
  exact ⟨pe_bm PySem.F.plainAttrs_list PySem.F.slot_list_insert PySem.F.type_list_insert mt_insert ho.pe (fa_cons h (fa1 h2 hs2) hs).pa hbase hfew hline hs hp, re_bm rm_insert ho.re (fa_cons h (fa1 h2 hs2) hs).re⟩
end
section
variable {S : Store} {Q : XQ} {δ : Env} {E : XR} {Δ : DEnds}
@[simp] theorem x_insert {a : Addr} {n : Int} {y : X} : dInsert a [.d (.int n), y] S Q = ∃ (i : Nat) (ys : List X), S[i]? = some (a, .lst ys) ∧ (ys.length < sizeLine ∧ 0 ≤ n ∧ n < 2 ^ 63 ∧ Q (.d .non) (S.set i (a, .lst (ys.take n.toNat ++ [y] ++ ys.drop n.toNat)))) := rfl

/-! ### the readings that may raise -/
@[simp] theorem x_callX {ds : DSp} {idx : List Nat} {dxs : List X} {wa : WA} : wCallX ds idx dxs wa δ S Q E = wa δ S (fun xs S1 => callD ds idx (xs ++ dxs) S1 Q fun x S' => E x δ S') E := rfl
@[simp] theorem x_methX {C : Addr} {m : Str} {ds : DSp} {idx : List Nat} {dxs : List X} {wo : WE} {wa : WA} : wMethX C m ds idx dxs wo wa δ S Q E = wo δ S (fun o S1 => objAt o S1 C m ∧ wa δ S1 (fun xs S2 => callD ds idx (o :: (xs ++ dxs)) S2 Q fun x S' => E x δ S') E) E := rfl
@[simp] theorem x_makeX {C : Addr} {ds : DSp} {dxs : List X} {wa : WA} : wMakeX C ds dxs wa δ S Q E = wa δ S (fun xs S1 => ∀ x, callD ds [S1.length] (.h x :: (xs ++ dxs)) (S1 ++ [(x, .obj C [])]) (fun r S' => r = .d .non ∧ Q (.h x) S') fun y S' => E y δ S') E := rfl
@[simp] theorem x_raise {C : Addr} {attr : Str} {we : WE} : wRaise C attr we Δ δ S E = we δ S (fun x S1 => match x with | .d v => E (.own C [(attr, v)]) δ S1 | _ => False) E := rfl
@[simp] theorem x_try {cl : List DClause} {wb : WS} : wTryA cl wb Δ δ S E = wb Δ δ S fun x δ' S' => dCl E Δ cl x δ' S' := rfl
@[simp] theorem x_cl0 {x : Exn} : dCl E Δ [] x δ S = E x δ S := rfl
@[simp] theorem x_clN {c : Exn → Option Bool} {ws : Addr → Value → Option Addr → WS} {r : List DClause} {x : Exn} : dCl E Δ ((c, none, ws) :: r) x δ S = ∃ b, c x = some b ∧ if b = true then ∀ a cls d, ws a cls d Δ δ S EN else dCl E Δ r x δ S := rfl
@[simp] theorem x_clA {c : Exn → Option Bool} {i : Nat} {ws : Addr → Value → Option Addr → WS} {r : List DClause} {x : Exn} : dCl E Δ ((c, some i, ws) :: r) x δ S = ∃ b, c x = some b ∧ if b = true then ∀ a cls d, ws a cls d (offD i Δ) (δ.set i (some (.e a cls d x))) S EN else dCl E Δ r x δ S := rfl
@[simp] theorem x_offn {i : Nat} {δ' : Env} {S' : Store} : (offD i Δ).nx δ' S' = Δ.nx (δ'.set i none) S' := rfl
@[simp] theorem x_offr {i : Nat} {x : X} {S' : Store} : (offD i Δ).rt x S' = Δ.rt x S' := rfl
@[simp] theorem x_offb {i : Nat} {δ' : Env} {S' : Store} : (offD i Δ).bk δ' S' = Δ.bk (δ'.set i none) S' := rfl
@[simp] theorem x_offc {i : Nat} {δ' : Env} {S' : Store} : (offD i Δ).ct δ' S' = Δ.ct (δ'.set i none) S' := rfl
@[simp] theorem x_excF {a : Addr} {cls : Value} {d : Option Addr} {C : Addr} {n : Str} {w : WE} : wExcF a cls d C n w δ S Q E = w δ S (fun y S1 => match y with
  | .e a' cls' d' (.own C' fs) => (a' = a ∧ cls' = cls ∧ d' = d) ∧ C' = C ∧ ∃ v, fs.lookup n = some v ∧ Q (.d v) S1
  | _ => False) E := rfl
@[simp] theorem x_isX {K : PySem.W.Frag} {a a' D0 : Addr} {cls cls' : Value} {d d' : Option Addr} {fs : List (Str × D)} {c : X} : dIsX K a cls d [.e a' cls' d' (.own D0 fs), c] S Q = ((a' = a ∧ cls' = cls ∧ d' = d) ∧ ExcC K D0 ∧ ∃ u b, clsOf c = some u ∧ PySem.W.kitOne K (.ref D0) u = some b ∧ Q (.d (.bl b)) S) := rfl
@[simp] theorem x_isXT {K : PySem.W.Frag} {a : Addr} {cls : Value} {d : Option Addr} {we : WE} {wa : WA} : wIsXT K a cls d we wa δ S Q E = we δ S (fun x S1 => wa δ S1 (fun cs S2 => cs.length ≤ sizeLine ∧ isHeld K a cls d x fun D => ∃ us b, clsAll cs = some us ∧ PySem.W.kitAny K (.ref D) us = some b ∧ Q (.d (.bl b)) S2) E) E := rfl
@[simp] theorem x_held {K : PySem.W.Frag} {a a' D0 : Addr} {cls cls' : Value} {d d' : Option Addr} {fs : List (Str × D)} {k : Addr → Prop} : isHeld K a cls d (.e a' cls' d' (.own D0 fs)) k = ((a' = a ∧ cls' = cls ∧ d' = d) ∧ ExcC K D0 ∧ k D0) := rfl
@[simp] theorem x_exIs {K : PySem.W.Frag} {c : Value} {C : Addr} {fs : List (Str × D)} : exIs K c (.own C fs) = PySem.W.exmOne K (.ref C) c := rfl
end
@[simp] theorem x_clsTy {n : String} : clsOf (.d (.ty n)) = some (.type n) := rfl
@[simp] theorem x_clsRef {C : Addr} : clsOf (.d (.glob C)) = some (.ref C) := rfl
@[simp] theorem x_clsAll0 : clsAll [] = some [] := rfl
@[simp] theorem x_clsAll1 {x : X} {r : List X} {u : Value} {us : List Value} (h : clsOf x = some u) (h2 : clsAll r = some us) : clsAll (x :: r) = some (u :: us) := by unfold clsAll; rw [h, h2]

/-! ### classes of exceptions -/
structure ExCls (K : PySem.W.Frag) (C : Addr) : Prop where
  ex : PySem.W.subIn K (.ref C) (.type "BaseException") = some true
  dic : PySem.W.hasDictIn K C = true
  ty : PySem.W.typeIn K (.ref C) = some (.type "type")
  self : PySem.W.subIn K (.ref C) (.ref C) = some true
section
variable {K : PySem.W.Frag} {C : Addr} {t : Value} {b : Bool}
theorem ExCls.exm (T : ExCls K C) (h : PySem.W.subIn K t (.ref C) = some b) : PySem.W.exmOne K t (.ref C) = some b := PySem.W.exm_ref T.ex T.dic T.ty h
theorem ExCls.kit (T : ExCls K C) (h : PySem.W.subIn K t (.ref C) = some b) : PySem.W.kitOne K t (.ref C) = some b := by
  unfold PySem.W.kitOne
  split
  · rename_i e
    have e : t = .ref C := beq_iff_eq.mp e
    rw [e, T.self] at h
    exact h
  · have hd := T.dic
    unfold PySem.W.hasDictIn at hd
    cases e : PySem.W.clsIn K C with
    | none => rw [e] at hd; cases hd
    | some cd =>
      unfold PySem.W.kitCls
      show (if ((PySem.W.clsIn K C).isSome && PySem.W.typeIn K (.ref C) == some (.type "type")) = true then PySem.W.subIn K t (.ref C) else none) = some b
      rw [e, T.ty, if_pos (by rfl)]
      exact h
theorem kit_ty {n : String} {D : Addr} (hm : PySem.W.kitMeta n = true) (h : PySem.W.subIn K (.ref D) (.type n) = some b) : PySem.W.kitOne K (.ref D) (.type n) = some b := by
  unfold PySem.W.kitOne
  rw [if_neg (by simp)]
  show (if PySem.W.kitMeta n = true then PySem.W.subIn K (.ref D) (.type n) else none) = some b
  rw [if_pos hm]
  exact h
theorem kitAny_cons {t c : Value} {r : List Value} {b : Bool} (h : PySem.W.kitOne K t c = some b) : PySem.W.kitAny K t (c :: r) = if b then some true else PySem.W.kitAny K t r := by
  conv => lhs; unfold PySem.W.kitAny
  rw [h]
  cases b <;> rfl
theorem kitAny_nil {t : Value} : PySem.W.kitAny K t [] = some false := rfl
end
end DP
namespace DP
theorem clsIn_of {K : PySem.W.Frag} {C : PySem.Addr} (h : PySem.W.hasDictIn K C = true) : ∃ cd, PySem.W.clsIn K C = some cd := by
  unfold PySem.W.hasDictIn at h
  cases e : PySem.W.clsIn K C with
  | none => rw [e] at h; cases h
  | some cd => exact ⟨cd, rfl⟩
end DP
namespace DP
open PySem PySem.Spec L2
theorem names_of {Y : Cx} {x : Str} {c : Value} (h : Y.mg x = some c) (hg : Gl Y x := by rfl) (hd : (x == ("__debug__" : Str)) = false := by decide) : Names Y x c := ⟨hg, hd, .inl h⟩
end DP

set_option Elab.async false
set_option linter.all false
set_option maxRecDepth 100000
set_option maxHeartbeats 1000000
namespace DP
open PySem PySem.Spec PyProof.Rows L2
open Evl (Ex ex_l ex_t ex_rd fresh_back)
/-- maps, and where the exceptions of errors.py stand (0 where a text has them not) -/
structure GX extends GM where
  PourError : Addr
  InvalidName : Addr
  InvalidMap : Addr
  InvalidArea : Addr
  InvalidTest : Addr
  InvalidProgram : Addr
  InvalidText : Addr
  Refused : Addr
  InvalidCommand : Addr
  NoCell : Addr
  NoArea : Addr
instance : Coe GX GM := ⟨fun g => g.toGM⟩
/-- .. and what is known of some of them (printed by gen/ge.py) -/
structure GE extends GX where
  xcls_PourError : ExCls K PourError
  xcls_InvalidMap : ExCls K InvalidMap
  xcls_InvalidText : ExCls K InvalidText
  xcls_NoCell : ExCls K NoCell
  xcls_NoArea : ExCls K NoArea
  ec_InvalidMap : ExcC K InvalidMap
  ec_InvalidText : ExcC K InvalidText
  ec_NoCell : ExcC K NoCell
  sub_InvalidMap_PourError : PySem.W.subIn K (.ref InvalidMap) (.ref PourError) = some true
  sub_InvalidMap_InvalidMap : PySem.W.subIn K (.ref InvalidMap) (.ref InvalidMap) = some true
  sub_InvalidMap_InvalidText : PySem.W.subIn K (.ref InvalidMap) (.ref InvalidText) = some false
  sub_InvalidMap_NoCell : PySem.W.subIn K (.ref InvalidMap) (.ref NoCell) = some false
  sub_InvalidMap_NoArea : PySem.W.subIn K (.ref InvalidMap) (.ref NoArea) = some false
  sub_InvalidMap_ValueError : PySem.W.subIn K (.ref InvalidMap) (.type "ValueError") = some true
  sub_InvalidMap_IndexError : PySem.W.subIn K (.ref InvalidMap) (.type "IndexError") = some false
  sub_InvalidText_PourError : PySem.W.subIn K (.ref InvalidText) (.ref PourError) = some true
  sub_InvalidText_InvalidMap : PySem.W.subIn K (.ref InvalidText) (.ref InvalidMap) = some false
  sub_InvalidText_InvalidText : PySem.W.subIn K (.ref InvalidText) (.ref InvalidText) = some true
  sub_InvalidText_NoCell : PySem.W.subIn K (.ref InvalidText) (.ref NoCell) = some false
  sub_InvalidText_NoArea : PySem.W.subIn K (.ref InvalidText) (.ref NoArea) = some false
  sub_InvalidText_ValueError : PySem.W.subIn K (.ref InvalidText) (.type "ValueError") = some true
  sub_InvalidText_IndexError : PySem.W.subIn K (.ref InvalidText) (.type "IndexError") = some false
  sub_NoCell_PourError : PySem.W.subIn K (.ref NoCell) (.ref PourError) = some false
  sub_NoCell_InvalidMap : PySem.W.subIn K (.ref NoCell) (.ref InvalidMap) = some false
  sub_NoCell_InvalidText : PySem.W.subIn K (.ref NoCell) (.ref InvalidText) = some false
  sub_NoCell_NoCell : PySem.W.subIn K (.ref NoCell) (.ref NoCell) = some true
  sub_NoCell_NoArea : PySem.W.subIn K (.ref NoCell) (.ref NoArea) = some false
  sub_NoCell_ValueError : PySem.W.subIn K (.ref NoCell) (.type "ValueError") = some false
  sub_NoCell_IndexError : PySem.W.subIn K (.ref NoCell) (.type "IndexError") = some true
instance : Coe GE GX := ⟨fun g => g.toGX⟩
section
variable {g : GE}
@[simp] theorem exm_InvalidMap_PourError : PySem.W.exmOne g.K (.ref g.InvalidMap) (.ref g.PourError) = some true := g.xcls_PourError.exm g.sub_InvalidMap_PourError
@[simp] theorem kit_InvalidMap_PourError : PySem.W.kitOne g.K (.ref g.InvalidMap) (.ref g.PourError) = some true := g.xcls_PourError.kit g.sub_InvalidMap_PourError
@[simp] theorem exm_InvalidMap_InvalidMap : PySem.W.exmOne g.K (.ref g.InvalidMap) (.ref g.InvalidMap) = some true := g.xcls_InvalidMap.exm g.sub_InvalidMap_InvalidMap
@[simp] theorem kit_InvalidMap_InvalidMap : PySem.W.kitOne g.K (.ref g.InvalidMap) (.ref g.InvalidMap) = some true := g.xcls_InvalidMap.kit g.sub_InvalidMap_InvalidMap
@[simp] theorem exm_InvalidMap_InvalidText : PySem.W.exmOne g.K (.ref g.InvalidMap) (.ref g.InvalidText) = some false := g.xcls_InvalidText.exm g.sub_InvalidMap_InvalidText
@[simp] theorem kit_InvalidMap_InvalidText : PySem.W.kitOne g.K (.ref g.InvalidMap) (.ref g.InvalidText) = some false := g.xcls_InvalidText.kit g.sub_InvalidMap_InvalidText
@[simp] theorem exm_InvalidMap_NoCell : PySem.W.exmOne g.K (.ref g.InvalidMap) (.ref g.NoCell) = some false := g.xcls_NoCell.exm g.sub_InvalidMap_NoCell
@[simp] theorem kit_InvalidMap_NoCell : PySem.W.kitOne g.K (.ref g.InvalidMap) (.ref g.NoCell) = some false := g.xcls_NoCell.kit g.sub_InvalidMap_NoCell
@[simp] theorem exm_InvalidMap_NoArea : PySem.W.exmOne g.K (.ref g.InvalidMap) (.ref g.NoArea) = some false := g.xcls_NoArea.exm g.sub_InvalidMap_NoArea
@[simp] theorem kit_InvalidMap_NoArea : PySem.W.kitOne g.K (.ref g.InvalidMap) (.ref g.NoArea) = some false := g.xcls_NoArea.kit g.sub_InvalidMap_NoArea
@[simp] theorem kit_InvalidMap_ValueError : PySem.W.kitOne g.K (.ref g.InvalidMap) (.type "ValueError") = some true := kit_ty (by kernel_rfl) g.sub_InvalidMap_ValueError
@[simp] theorem kit_InvalidMap_IndexError : PySem.W.kitOne g.K (.ref g.InvalidMap) (.type "IndexError") = some false := kit_ty (by kernel_rfl) g.sub_InvalidMap_IndexError
@[simp] theorem exm_InvalidText_PourError : PySem.W.exmOne g.K (.ref g.InvalidText) (.ref g.PourError) = some true := g.xcls_PourError.exm g.sub_InvalidText_PourError
@[simp] theorem kit_InvalidText_PourError : PySem.W.kitOne g.K (.ref g.InvalidText) (.ref g.PourError) = some true := g.xcls_PourError.kit g.sub_InvalidText_PourError
@[simp] theorem exm_InvalidText_InvalidMap : PySem.W.exmOne g.K (.ref g.InvalidText) (.ref g.InvalidMap) = some false := g.xcls_InvalidMap.exm g.sub_InvalidText_InvalidMap
@[simp] theorem kit_InvalidText_InvalidMap : PySem.W.kitOne g.K (.ref g.InvalidText) (.ref g.InvalidMap) = some false := g.xcls_InvalidMap.kit g.sub_InvalidText_InvalidMap
@[simp] theorem exm_InvalidText_InvalidText : PySem.W.exmOne g.K (.ref g.InvalidText) (.ref g.InvalidText) = some true := g.xcls_InvalidText.exm g.sub_InvalidText_InvalidText
@[simp] theorem kit_InvalidText_InvalidText : PySem.W.kitOne g.K (.ref g.InvalidText) (.ref g.InvalidText) = some true := g.xcls_InvalidText.kit g.sub_InvalidText_InvalidText
@[simp] theorem exm_InvalidText_NoCell : PySem.W.exmOne g.K (.ref g.InvalidText) (.ref g.NoCell) = some false := g.xcls_NoCell.exm g.sub_InvalidText_NoCell
@[simp] theorem kit_InvalidText_NoCell : PySem.W.kitOne g.K (.ref g.InvalidText) (.ref g.NoCell) = some false := g.xcls_NoCell.kit g.sub_InvalidText_NoCell
@[simp] theorem exm_InvalidText_NoArea : PySem.W.exmOne g.K (.ref g.InvalidText) (.ref g.NoArea) = some false := g.xcls_NoArea.exm g.sub_InvalidText_NoArea
@[simp] theorem kit_InvalidText_NoArea : PySem.W.kitOne g.K (.ref g.InvalidText) (.ref g.NoArea) = some false := g.xcls_NoArea.kit g.sub_InvalidText_NoArea
@[simp] theorem kit_InvalidText_ValueError : PySem.W.kitOne g.K (.ref g.InvalidText) (.type "ValueError") = some true := kit_ty (by kernel_rfl) g.sub_InvalidText_ValueError
@[simp] theorem kit_InvalidText_IndexError : PySem.W.kitOne g.K (.ref g.InvalidText) (.type "IndexError") = some false := kit_ty (by kernel_rfl) g.sub_InvalidText_IndexError
@[simp] theorem exm_NoCell_PourError : PySem.W.exmOne g.K (.ref g.NoCell) (.ref g.PourError) = some false := g.xcls_PourError.exm g.sub_NoCell_PourError
@[simp] theorem kit_NoCell_PourError : PySem.W.kitOne g.K (.ref g.NoCell) (.ref g.PourError) = some false := g.xcls_PourError.kit g.sub_NoCell_PourError
@[simp] theorem exm_NoCell_InvalidMap : PySem.W.exmOne g.K (.ref g.NoCell) (.ref g.InvalidMap) = some false := g.xcls_InvalidMap.exm g.sub_NoCell_InvalidMap
@[simp] theorem kit_NoCell_InvalidMap : PySem.W.kitOne g.K (.ref g.NoCell) (.ref g.InvalidMap) = some false := g.xcls_InvalidMap.kit g.sub_NoCell_InvalidMap
@[simp] theorem exm_NoCell_InvalidText : PySem.W.exmOne g.K (.ref g.NoCell) (.ref g.InvalidText) = some false := g.xcls_InvalidText.exm g.sub_NoCell_InvalidText
@[simp] theorem kit_NoCell_InvalidText : PySem.W.kitOne g.K (.ref g.NoCell) (.ref g.InvalidText) = some false := g.xcls_InvalidText.kit g.sub_NoCell_InvalidText
@[simp] theorem exm_NoCell_NoCell : PySem.W.exmOne g.K (.ref g.NoCell) (.ref g.NoCell) = some true := g.xcls_NoCell.exm g.sub_NoCell_NoCell
@[simp] theorem kit_NoCell_NoCell : PySem.W.kitOne g.K (.ref g.NoCell) (.ref g.NoCell) = some true := g.xcls_NoCell.kit g.sub_NoCell_NoCell
@[simp] theorem exm_NoCell_NoArea : PySem.W.exmOne g.K (.ref g.NoCell) (.ref g.NoArea) = some false := g.xcls_NoArea.exm g.sub_NoCell_NoArea
@[simp] theorem kit_NoCell_NoArea : PySem.W.kitOne g.K (.ref g.NoCell) (.ref g.NoArea) = some false := g.xcls_NoArea.kit g.sub_NoCell_NoArea
@[simp] theorem kit_NoCell_ValueError : PySem.W.kitOne g.K (.ref g.NoCell) (.type "ValueError") = some false := kit_ty (by kernel_rfl) g.sub_NoCell_ValueError
@[simp] theorem kit_NoCell_IndexError : PySem.W.kitOne g.K (.ref g.NoCell) (.type "IndexError") = some true := kit_ty (by kernel_rfl) g.sub_NoCell_IndexError
end
theorem x_kitAny1 {K : PySem.W.Frag} {t c : Value} {r : List Value} : PySem.W.kitAny K t (c :: r) = match PySem.W.kitOne K t c with
    | some true => some true
    | some false => PySem.W.kitAny K t r
    | none => none := rfl

/-! ### calls that may raise, by promise -/
theorem callPX {ds : DSp} {xs : List X} {S : Store} {Q : XQ} {E : Exn → Store → Prop} (h : ∀ (Q' : XQ) (E' : Exn → Store → Prop), (∀ r, Q r S → Q' r []) → (∀ x, E x S → E' x []) → ds xs [] Q' E') : callD ds [] xs S Q E :=
  ⟨[], rfl, by simp, h _ _ (fun r q => ⟨[], [], rfl, rfl, by unfold putBack; rw [List.append_nil]; exact q⟩) fun x q => ⟨[], [], rfl, rfl, by unfold putBack; rw [List.append_nil]; exact q⟩⟩
theorem callD_mono {ds ds' : DSp} {idx : List Nat} {xs : List X} {S : Store} {Q : XQ} {E E' : Exn → Store → Prop} (h : callD ds idx xs S Q E) (k : ∀ Sc Q E E', ds xs Sc Q E → ds' xs Sc Q E') : callD ds' idx xs S Q E' := by
  obtain ⟨Sc, h1, h2, h3⟩ := h
  exact ⟨Sc, h1, h2, k _ _ _ _ h3⟩

/-! ### cells that are none -/
def badC (n : Int) (cs : List Int) : Option Int := cs.find? fun c => !(decide (0 ≤ c) && decide (c < n))
theorem badC_none {n : Int} {cs : List Int} : badC n cs = none ↔ ∀ c ∈ cs, 0 ≤ c ∧ c < n := by
  unfold badC
  rw [List.find?_eq_none]
  simp
theorem badC_app {n : Int} {cs ds : List Int} (h : badC n cs = none) : badC n (cs ++ ds) = badC n ds := by
  unfold badC at h ⊢
  rw [List.find?_append, h]; rfl
theorem badC_appS {n : Int} {cs ds : List Int} {c : Int} (h : badC n cs = some c) : badC n (cs ++ ds) = some c := by
  unfold badC at h ⊢
  rw [List.find?_append, h]; rfl
def orBad (g : GX) (n : Int) (cs : List Int) (E : Exn → Store → Prop) (S : Store) (q : Prop) : Prop := match badC n cs with
  | some c => E (.own g.NoCell [("cell", .int c)]) S
  | none => q
theorem orBad_none {g : GX} {n : Int} {cs : List Int} {E : Exn → Store → Prop} {S : Store} {q : Prop} (h : badC n cs = none) : orBad g n cs E S q = q := by unfold orBad; rw [h]
theorem orBad_some {g : GX} {n c : Int} {cs : List Int} {E : Exn → Store → Prop} {S : Store} {q : Prop} (h : badC n cs = some c) : orBad g n cs E S q = E (.own g.NoCell [("cell", .int c)]) S := by unfold orBad; rw [h]
/-- .. where what stands then in the store does not count -/
def orBadJ (g : GX) (n : Int) (cs : List Int) (E : Exn → Store → Prop) (q : Prop) : Prop := match badC n cs with
  | some c => ∀ Sj, E (.own g.NoCell [("cell", .int c)]) Sj
  | none => q
theorem orBadJ_none {g : GX} {n : Int} {cs : List Int} {E : Exn → Store → Prop} {q : Prop} (h : badC n cs = none) : orBadJ g n cs E q = q := by unfold orBadJ; rw [h]
theorem orBadJ_some {g : GX} {n c : Int} {cs : List Int} {E : Exn → Store → Prop} {q : Prop} (h : badC n cs = some c) : orBadJ g n cs E q = ∀ Sj, E (.own g.NoCell [("cell", .int c)]) Sj := by unfold orBadJ; rw [h]
/-- .. also what it says of its exceptions in any store -/
theorem callPJ {ds : DSp} {xs : List X} {S : Store} {Q : XQ} {E : Exn → Store → Prop} (h : ∀ (Q' : XQ) (E' : Exn → Store → Prop), (∀ r, Q r S → Q' r []) → (∀ x, (∀ Sj, E x Sj) → ∀ Sj, E' x Sj) → ds xs [] Q' E') : callD ds [] xs S Q E :=
  ⟨[], rfl, by simp, h _ _ (fun r q => ⟨[], [], rfl, rfl, by unfold putBack; rw [List.append_nil]; exact q⟩) fun x q Sj => ⟨[], Sj, rfl, rfl, q _⟩⟩
def sp_xcheck_cells (g : GX) : DSp := fun xs S Q E => match xs with
  | [.d m, .d d] => ∃ n ts b cs, m = mapO g n ts ∧ seqD d = some (b, ID cs) ∧ orBad g n cs E S (Q (.d .non) S)
  | _ => False
def sp_xcells (g : GX) : DSp := fun xs S Q E => match xs with
  | [.d m, .d d] => ∃ n ts b cs, m = mapO g n ts ∧ seqD d = some (b, ID cs) ∧ cs.length ≤ 1000000 ∧ orBad g n cs E S (Q (.d (.tup (ID (part n cs)))) S)
  | _ => False
def sp_xbeside (g : GX) : DSp := fun xs S Q E => match xs with
  | [.d m, .d (.int c)] => ∃ n ts, m = mapO g n ts ∧ OkM n ts ∧ orBad g n [c] E S (Q (.d (.tup (ID (around ts c)))) S)
  | _ => False
def sp_xgrown (g : GX) : DSp := fun xs S Q E => match xs with
  | [.d m, .d d, .d (.int k)] => ∃ n ts b cs, m = mapO g n ts ∧ OkM n ts ∧ seqD d = some (b, ID cs) ∧ cs.length ≤ 1000000 ∧ 0 ≤ k ∧ k ≤ 1000000 ∧ orBad g n cs E S (Q (.d (.tup (ID (growN n ts k.toNat (part n cs))))) S)
  | _ => False
def sp_xshrunk (g : GX) : DSp := fun xs S Q E => match xs with
  | [.d m, .d d, .d (.int k)] => ∃ n ts b cs, m = mapO g n ts ∧ OkM n ts ∧ seqD d = some (b, ID cs) ∧ cs.length ≤ 1000000 ∧ 0 ≤ k ∧ k ≤ 1000000 ∧ orBad g n cs E S (Q (.d (.tup (ID (rest n (growN n ts k.toNat (rest n cs)))))) S)
  | _ => False
def sp_xpoured (g : GX) : DSp := fun xs S Q E => match xs with
  | [.d m, .d d, .d e] => S = [] ∧ ∃ n ts b cs b' ws, m = mapO g n ts ∧ OkM n ts ∧ seqD d = some (b, ID cs) ∧ seqD e = some (b', ID ws) ∧ ws.length ≤ 10000 ∧ orBad g n (cs ++ ws) E [] (Q (.d (.tup (ID (pourL n ts cs ws)))) [])
  | _ => False
def sp_xparts (g : GX) : DSp := fun xs S Q E => match xs with
  | [.d m, .d d] => S = [] ∧ ∃ n ts b cs, m = mapO g n ts ∧ OkM n ts ∧ seqD d = some (b, ID cs) ∧ cs.length ≤ 10000 ∧ orBadJ g n cs E (Q (.d (.tup (TD (partsL n ts cs)))) [])
  | _ => False
def sp_xis_joined (g : GX) : DSp := fun xs S Q E => match xs with
  | [.d m, .d d] => S = [] ∧ ∃ n ts b cs, m = mapO g n ts ∧ OkM n ts ∧ seqD d = some (b, ID cs) ∧ cs.length ≤ 10000 ∧ orBadJ g n cs E (Q (.d (.bl (decide ((partsL n ts cs).length < 2)))) [])
  | _ => False
end DP

set_option Elab.async false
set_option linter.all false
set_option maxRecDepth 100000
set_option maxHeartbeats 4000000
namespace DP
open PySem PySem.Spec PyProof.Rows L2
open Evl (Ex ex_l ex_t ex_rd fresh_back)
/-- Map.check_cells -/
def w_xcheck_cells (g : GX) : WS := (wFor (wISeq (wVar 1)) (dName 2)
  (wIfS (wNot (wTest (wChain dLe dLt (wC (.int 0)) (wVar 2) (wFld g.Map "many" (wVar 0))))) (wRaise g.NoCell "cell" (wVar 2)) wNext))
abbrev HW_xcheck_cells (g : GX) : Prop := ∀ (xs : List X) (S : Store) (Q : XQ) (E : Exn → Store → Prop), sp_xcheck_cells g xs S Q E → w_xcheck_cells g { nx := fun _ S' => Q (.d .non) S', rt := Q } (startD ["self", "cells", "cell"] xs) S (fun x _ S => E x S)
theorem len_xcheck_cells {g : GX} (xs : List X) (S : Store) (Q : XQ) (E : Exn → Store → Prop) (h : sp_xcheck_cells g xs S Q E) : xs.length = 2 := by
  unfold sp_xcheck_cells at h
  split at h <;> first | rfl | exact h.elim
/-- Map.cells -/
def w_xcells (g : GX) : WS := (wSeq (wDrop (wMethX g.Map "check_cells" (sp_xcheck_cells g) [] [] (wVar 0) (wCons (wVar 1) wNil)))
  (wRet (wCall (sp_ascending g) [] [] (wCons (wVar 1) wNil))))
abbrev HW_xcells (g : GX) : Prop := ∀ (xs : List X) (S : Store) (Q : XQ) (E : Exn → Store → Prop), sp_xcells g xs S Q E → w_xcells g { nx := fun _ S' => Q (.d .non) S', rt := Q } (startD ["self", "cells"] xs) S (fun x _ S => E x S)
theorem len_xcells {g : GX} (xs : List X) (S : Store) (Q : XQ) (E : Exn → Store → Prop) (h : sp_xcells g xs S Q E) : xs.length = 2 := by
  unfold sp_xcells at h
  split at h <;> first | rfl | exact h.elim
/-- Map.beside -/
def w_xbeside (g : GX) : WS := (wSeq (wDrop (wMethX g.Map "check_cells" (sp_xcheck_cells g) [] [] (wVar 0) (wCons (wTup (wCons (wVar 1) wNil)) wNil)))
  (wRet (wMeth g.Map "around" (sp_around g) [] [] (wVar 0) (wCons (wVar 1) wNil))))
abbrev HW_xbeside (g : GX) : Prop := ∀ (xs : List X) (S : Store) (Q : XQ) (E : Exn → Store → Prop), sp_xbeside g xs S Q E → w_xbeside g { nx := fun _ S' => Q (.d .non) S', rt := Q } (startD ["self", "cell"] xs) S (fun x _ S => E x S)
theorem len_xbeside {g : GX} (xs : List X) (S : Store) (Q : XQ) (E : Exn → Store → Prop) (h : sp_xbeside g xs S Q E) : xs.length = 2 := by
  unfold sp_xbeside at h
  split at h <;> first | rfl | exact h.elim
/-- Map.grown -/
def w_xgrown (g : GX) : WS := (wSeq (wAsg (wMethX g.Map "cells" (sp_xcells g) [] [] (wVar 0) (wCons (wVar 1) wNil)) (dName 3))
  (wSeq (wFor (wIR1 (wCons (wVar 2) wNil)) (dName 4)
  (wSeq (wAsg (wFz (wLc2 (wISeq (wVar 3)) (dName 6) wYes (wISeq (wMeth g.Map "around" (sp_around g) [] [] (wVar 0) (wCons (wVar 6) wNil))) (dName 7) wYes (wVar 7) [6, 7] [7])) (dName 5))
  (wAsg (wCall (sp_ascending g) [] [] (wCons (wFz (wLst (wStar (wVar 3) (wStar (wVar 5) wNil)))) wNil)) (dName 3))))
  (wRet (wVar 3))))
abbrev HW_xgrown (g : GX) : Prop := ∀ (xs : List X) (S : Store) (Q : XQ) (E : Exn → Store → Prop), sp_xgrown g xs S Q E → w_xgrown g { nx := fun _ S' => Q (.d .non) S', rt := Q } (startD ["self", "cells", "many", "found", "turn", "near", "cell", "other"] xs) S (fun x _ S => E x S)
theorem len_xgrown {g : GX} (xs : List X) (S : Store) (Q : XQ) (E : Exn → Store → Prop) (h : sp_xgrown g xs S Q E) : xs.length = 3 := by
  unfold sp_xgrown at h
  split at h <;> first | rfl | exact h.elim
/-- Map.shrunk -/
def w_xshrunk (g : GX) : WS := (wSeq (wDrop (wMethX g.Map "check_cells" (sp_xcheck_cells g) [] [] (wVar 0) (wCons (wVar 1) wNil)))
  (wSeq (wAsg (wFz (wLc (wIR1 (wCons (wFld g.Map "many" (wVar 0)) wNil)) (dName 5) (wTest (wOp (dIn true) (wVar 5) (wVar 1))) (wVar 5) [5])) (dName 3))
  (wSeq (wAsg (wMethX g.Map "grown" (sp_xgrown g) [] [] (wVar 0) (wCons (wVar 3) (wCons (wVar 2) wNil))) (dName 4))
  (wRet (wCB dTupleOf (wCons (wFz (wLc (wIR1 (wCons (wFld g.Map "many" (wVar 0)) wNil)) (dName 5) (wTest (wOp (dIn true) (wVar 5) (wVar 4))) (wVar 5) [5])) wNil))))))
abbrev HW_xshrunk (g : GX) : Prop := ∀ (xs : List X) (S : Store) (Q : XQ) (E : Exn → Store → Prop), sp_xshrunk g xs S Q E → w_xshrunk g { nx := fun _ S' => Q (.d .non) S', rt := Q } (startD ["self", "cells", "many", "others", "gone", "cell"] xs) S (fun x _ S => E x S)
theorem len_xshrunk {g : GX} (xs : List X) (S : Store) (Q : XQ) (E : Exn → Store → Prop) (h : sp_xshrunk g xs S Q E) : xs.length = 3 := by
  unfold sp_xshrunk at h
  split at h <;> first | rfl | exact h.elim
def w_xpoured_b1 (g : GX) : WS := (wIfS (wAnd (wTest (wOp (dIn false) (wVar 5) (wVar 2))) (wTest (wDIn true (wVar 5) (wVar 4)))) (wSeq (wDPut (wVar 4) (wVar 5) (wC (.bl true)))
  (wDrop (wBM dAppend (wVar 3) (wCons (wVar 5) wNil)))) wNext)
/-- Map.poured -/
def w_xpoured (g : GX) : WS := (wSeq (wDrop (wMethX g.Map "check_cells" (sp_xcheck_cells g) [] [] (wVar 0) (wCons (wVar 1) wNil)))
  (wSeq (wDrop (wMethX g.Map "check_cells" (sp_xcheck_cells g) [] [] (wVar 0) (wCons (wVar 2) wNil)))
  (wSeq (wAsg (wLc (wISeq (wVar 2)) (dName 5) (wTest (wOp (dIn false) (wVar 5) (wVar 1))) (wVar 5) [5]) (dName 3))
  (wSeq (wAsg (wDcH (wVar 3) (dName 5) wYes (wVar 5) (wC (.bl true)) [5]) (dName 4))
  (wSeq (wWhile (wTest (wOp dNe (wVar 3) (wFz (wLst wNil))))
  (wFor (wISeq (wMeth g.Map "around" (sp_around g) [] [] (wVar 0) (wCons (wBM dPop (wVar 3) wNil) wNil))) (dName 5)
  (w_xpoured_b1 g)))
  (wFreezeD 4 (wForget 0 (wRet (wCall (sp_ascending g) [] [] (wCons (wVar 4) wNil))))))))))
abbrev HW_xpoured (g : GX) : Prop := ∀ (xs : List X) (S : Store) (Q : XQ) (E : Exn → Store → Prop), sp_xpoured g xs S Q E → w_xpoured g { nx := fun _ S' => Q (.d .non) S', rt := Q } (startD ["self", "cells", "within", "waiting", "found", "cell"] xs) S (fun x _ S => E x S)
theorem len_xpoured {g : GX} (xs : List X) (S : Store) (Q : XQ) (E : Exn → Store → Prop) (h : sp_xpoured g xs S Q E) : xs.length = 3 := by
  unfold sp_xpoured at h
  split at h <;> first | rfl | exact h.elim
/-- Map.parts -/
def w_xparts (g : GX) : WS := (wSeq (wAsg (wLst wNil) (dName 2))
  (wSeq (wFor (wISeq (wMethX g.Map "cells" (sp_xcells g) [] [] (wVar 0) (wCons (wVar 1) wNil))) (dName 3)
  (wIfS (wTest (wCB dAll (wCons (wFz (wLcH (wVar 2) (dName 4) wYes (wOp (dIn true) (wVar 3) (wVar 4)) [4])) wNil))) (wDrop (wBM dAppend (wVar 2) (wCons (wMethX g.Map "poured" (sp_xpoured g) [] [] (wVar 0) (wCons (wTup (wCons (wVar 3) wNil)) (wCons (wVar 1) wNil))) wNil))) wNext))
  (wFreeze 2 (wForget 0 (wRet (wCB dTupleOf (wCons (wVar 2) wNil)))))))
abbrev HW_xparts (g : GX) : Prop := ∀ (xs : List X) (S : Store) (Q : XQ) (E : Exn → Store → Prop), sp_xparts g xs S Q E → w_xparts g { nx := fun _ S' => Q (.d .non) S', rt := Q } (startD ["self", "cells", "found", "cell", "part"] xs) S (fun x _ S => E x S)
theorem len_xparts {g : GX} (xs : List X) (S : Store) (Q : XQ) (E : Exn → Store → Prop) (h : sp_xparts g xs S Q E) : xs.length = 2 := by
  unfold sp_xparts at h
  split at h <;> first | rfl | exact h.elim
/-- Map.is_joined -/
def w_xis_joined (g : GX) : WS := (wRet (wOp dLt (wCB dLen (wCons (wMethX g.Map "parts" (sp_xparts g) [] [] (wVar 0) (wCons (wVar 1) wNil)) wNil)) (wC (.int 2))))
abbrev HW_xis_joined (g : GX) : Prop := ∀ (xs : List X) (S : Store) (Q : XQ) (E : Exn → Store → Prop), sp_xis_joined g xs S Q E → w_xis_joined g { nx := fun _ S' => Q (.d .non) S', rt := Q } (startD ["self", "cells"] xs) S (fun x _ S => E x S)
theorem len_xis_joined {g : GX} (xs : List X) (S : Store) (Q : XQ) (E : Exn → Store → Prop) (h : sp_xis_joined g xs S Q E) : xs.length = 2 := by
  unfold sp_xis_joined at h
  split at h <;> first | rfl | exact h.elim
end DP

set_option Elab.async false
set_option linter.all false
set_option maxRecDepth 100000
set_option maxHeartbeats 1000000
namespace DP
open PySem PySem.Spec PyProof.Rows L2
open Evl (Ex ex_l ex_t ex_rd fresh_back)

/-! ### the map's functions, when a cell may be none -/
theorem badC_hd {n c : Int} {cs : List Int} (h : 0 ≤ c ∧ c < n) : badC n (c :: cs) = badC n cs := by
  unfold badC
  rw [List.find?_cons_of_neg (by simp; omega)]
theorem badC_at {n c : Int} {cs : List Int} (h : ¬(0 ≤ c ∧ c < n)) : badC n (c :: cs) = some c := by
  unfold badC
  rw [List.find?_cons_of_pos (by simp; omega)]
theorem hw_xcheck_cells (g : GX) : HW_xcheck_cells g := by
  intro xs S Q E h
  unfold sp_xcheck_cells at h
  split at h
  · rename_i m d
    obtain ⟨n, ts, b, cs, rfl, hs, hq⟩ := h
    unfold w_xcheck_cells
    simp [hs]
    refine loop_invI (fun l δ S' => ∃ o, δ = [some (.d (mapO g n ts)), some (.d d), o] ∧ S' = S ∧ orBad g n l E S (Q (.d .non) S)) cs ⟨none, rfl, rfl, hq⟩ ?_ ?_
    · rintro c l _ _ K ⟨o, rfl, rfl, hq⟩ hK
      simp
      by_cases h0 : 0 ≤ c
      · simp [h0]
        refine ⟨rfl, .int n, rfl, ?_⟩
        by_cases h1 : c < n
        · simp [h1]
          refine hK _ _ ⟨_, rfl, rfl, ?_⟩
          unfold orBad at hq ⊢
          rw [badC_hd ⟨h0, h1⟩] at hq
          exact hq
        · simp [h1]
          unfold orBad at hq
          rw [badC_at (by omega)] at hq
          exact hq
      · simp [h0]
        unfold orBad at hq
        rw [badC_at (by omega)] at hq
        exact hq
    · rintro _ _ ⟨o, rfl, rfl, hq⟩
      exact hq
  · exact h.elim
theorem x_okcc {g : GX} {xs : List X} {S : Store} {Q : XQ} {E E' : Exn → Store → Prop} (h : sp_check_cells g xs S Q E) : sp_xcheck_cells g xs S Q E' := by
  unfold sp_check_cells at h
  split at h
  · obtain ⟨n, ts, b, cs, rfl, hs, hr, hq⟩ := h
    exact ⟨n, ts, b, cs, rfl, hs, (orBad_none (badC_none.mpr hr)).mpr hq⟩
  · exact h.elim
theorem x_okc {g : GX} {xs : List X} {S : Store} {Q : XQ} {E E' : Exn → Store → Prop} (h : sp_cells g xs S Q E) : sp_xcells g xs S Q E' := by
  unfold sp_cells at h
  split at h
  · obtain ⟨n, ts, b, cs, rfl, hs, hl, hr, hq⟩ := h
    exact ⟨n, ts, b, cs, rfl, hs, hl, (orBad_none (badC_none.mpr hr)).mpr hq⟩
  · exact h.elim
theorem x_okg {g : GX} {xs : List X} {S : Store} {Q : XQ} {E E' : Exn → Store → Prop} (h : sp_grown g xs S Q E) : sp_xgrown g xs S Q E' := by
  unfold sp_grown at h
  split at h
  · obtain ⟨n, ts, b, cs, rfl, ok, hs, hl, hr, h0, h1, hq⟩ := h
    exact ⟨n, ts, b, cs, rfl, ok, hs, hl, h0, h1, (orBad_none (badC_none.mpr hr)).mpr hq⟩
  · exact h.elim
theorem x_okp {g : GX} {xs : List X} {S : Store} {Q : XQ} {E E' : Exn → Store → Prop} (h : sp_poured g xs S Q E) : sp_xpoured g xs S Q E' := by
  unfold sp_poured at h
  split at h
  · obtain ⟨rfl, n, ts, b, cs, b', ws, rfl, ok, hs, hs', hl, hr, hr', hq⟩ := h
    exact ⟨rfl, n, ts, b, cs, b', ws, rfl, ok, hs, hs', hl, (orBad_none (badC_none.mpr fun c hc => (List.mem_append.mp hc).elim (hr c) (hr' c))).mpr hq⟩
  · exact h.elim
theorem x_okpp {g : GX} {xs : List X} {S : Store} {Q : XQ} {E E' : Exn → Store → Prop} (h : sp_parts g xs S Q E) : sp_xparts g xs S Q E' := by
  unfold sp_parts at h
  split at h
  · obtain ⟨rfl, n, ts, b, cs, rfl, ok, hs, hl, hr, hq⟩ := h
    exact ⟨rfl, n, ts, b, cs, rfl, ok, hs, hl, (orBadJ_none (badC_none.mpr hr)).mpr hq⟩
  · exact h.elim
/-- a call that finds a cell that is none -/
theorem c_bad {g : GX} {sp : DSp} {xs : List X} {S : Store} {Q : XQ} {E : Exn → Store → Prop} {c : Int} (q : E (.own g.NoCell [("cell", .int c)]) S) (h : ∀ (Q' : XQ) (E' : Exn → Store → Prop), E' (.own g.NoCell [("cell", .int c)]) [] → sp xs [] Q' E') : callD sp [] xs S Q E :=
  callPX fun Q' E' _ hE => h Q' E' (hE _ q)
theorem hw_xcells (g : GX) : HW_xcells g := by
  intro xs S Q E h
  unfold sp_xcells at h
  split at h
  · rename_i m d
    obtain ⟨n, ts, b, cs, rfl, hs, hl, hq⟩ := h
    cases e : badC n cs with
    | some c =>
      rw [orBad_some e] at hq
      unfold w_xcells
      simp
      exact ⟨objAt_map, c_bad hq fun Q' E' q => ⟨n, ts, b, cs, rfl, hs, (orBad_some e).mpr q⟩⟩
    | none =>
      rw [orBad_none e] at hq
      have h := hw_cells (EE := fun x _ S => E x S) g [.d (mapO g n ts), .d d] S Q E ⟨n, ts, b, cs, rfl, hs, hl, badC_none.mp e, hq⟩
      unfold w_cells at h
      unfold w_xcells
      simp at h ⊢
      exact ⟨h.1, callD_mono h.2 fun _ _ _ _ z => x_okcc z⟩
  · exact h.elim
theorem hw_xbeside (g : GX) : HW_xbeside g := by
  intro xs S Q E h
  unfold sp_xbeside at h
  split at h
  · rename_i m c
    obtain ⟨n, ts, rfl, ok, hq⟩ := h
    cases e : badC n [c] with
    | some c' =>
      rw [orBad_some e] at hq
      unfold w_xbeside
      simp
      exact ⟨objAt_map, by decide, c_bad hq fun Q' E' q => ⟨n, ts, true, [c], rfl, rfl, (orBad_some e).mpr q⟩⟩
    | none =>
      rw [orBad_none e] at hq
      have hc := badC_none.mp e c (by simp)
      have h := hw_beside (EE := fun x _ S => E x S) g [.d (mapO g n ts), .d (.int c)] S Q E ⟨n, ts, rfl, ok, hc.1, hc.2, hq⟩
      unfold w_beside at h
      unfold w_xbeside
      simp at h ⊢
      exact ⟨h.1, h.2.1, callD_mono h.2.2 fun _ _ _ _ z => x_okcc z⟩
  · exact h.elim
theorem hw_xgrown (g : GX) : HW_xgrown g := by
  intro xs S Q E h
  unfold sp_xgrown at h
  split at h
  · rename_i m d k
    obtain ⟨n, ts, b, cs, rfl, ok, hs, hl, h0, h1, hq⟩ := h
    cases e : badC n cs with
    | some c =>
      rw [orBad_some e] at hq
      unfold w_xgrown
      simp
      exact ⟨objAt_map, c_bad hq fun Q' E' q => ⟨n, ts, b, cs, rfl, hs, hl, (orBad_some e).mpr q⟩⟩
    | none =>
      rw [orBad_none e] at hq
      have h := hw_grown (EE := fun x _ S => E x S) g [.d (mapO g n ts), .d d, .d (.int k)] S Q E ⟨n, ts, b, cs, rfl, ok, hs, hl, badC_none.mp e, h0, h1, hq⟩
      unfold w_grown at h
      unfold w_xgrown
      simp at h ⊢
      exact ⟨h.1, callD_mono h.2 fun _ _ _ _ z => x_okc z⟩
  · exact h.elim
theorem hw_xis_joined (g : GX) : HW_xis_joined g := by
  intro xs S Q E h
  unfold sp_xis_joined at h
  split at h
  · rename_i m d
    obtain ⟨rfl, n, ts, b, cs, rfl, ok, hs, hl, hq⟩ := h
    cases e : badC n cs with
    | some c =>
      rw [orBadJ_some e] at hq
      unfold w_xis_joined
      simp
      exact ⟨objAt_map, callPJ fun Q' E' _ hE => ⟨rfl, n, ts, b, cs, rfl, ok, hs, hl, (orBadJ_some e).mpr (hE _ hq)⟩⟩
    | none =>
      rw [orBadJ_none e] at hq
      have h := hw_is_joined (EE := fun x _ S => E x S) g [.d (mapO g n ts), .d d] [] Q E ⟨rfl, n, ts, b, cs, rfl, ok, hs, hl, badC_none.mp e, hq⟩
      unfold w_is_joined at h
      unfold w_xis_joined
      simp at h ⊢
      exact ⟨h.1, callD_mono h.2 fun _ _ _ _ z => x_okpp z⟩
  · exact h.elim
theorem hw_xshrunk (g : GX) : HW_xshrunk g := by
  intro xs S Q E h
  unfold sp_xshrunk at h
  split at h
  · rename_i m d k
    obtain ⟨n, ts, b, cs, rfl, ok, hs, hl, h0, h1, hq⟩ := h
    cases e : badC n cs with
    | some c =>
      rw [orBad_some e] at hq
      unfold w_xshrunk
      simp
      exact ⟨objAt_map, c_bad hq fun Q' E' q => ⟨n, ts, b, cs, rfl, hs, (orBad_some e).mpr q⟩⟩
    | none =>
    rw [orBad_none e] at hq
    have hr := badC_none.mp e
    have hsz : sizeLine = 16777216 := rfl
    have hn := ok.hi
    have hn1 := ok.lo
    unfold w_xshrunk
    simp
    refine ⟨objAt_map, callP fun Q' E' hQ => ⟨n, ts, b, cs, rfl, hs, (orBad_none e).mpr (hQ _ ?_)⟩⟩
    refine ⟨rfl, .int n, rfl, ?_⟩
    simp
    refine ⟨by omega, by omega, ?_⟩
    intro p
    refine lczI (fun n : Int => X.d (.int n)) (fun x => decide (x ∉ cs)) (fun n => n) (rng n) (by rw [rng_len]; omega) ?_ ?_ p
    · intro a ha S' K Kf hc h1 hk
      simp
      refine q_notInI hs ?_
      by_cases e : a ∈ cs
      · simpa [e] using hk (by simpa using e)
      · simpa [e] using h1 (by simpa using e)
    rw [List.map_id']
    have hre : (rng n).filter (fun x => decide (x ∉ cs)) = rest n cs := rfl
    rw [hre]
    refine ⟨objAt_map, callP fun Q' E' hQ => ⟨n, ts, false, rest n cs, rfl, ok, rfl, by have := rest_len n cs; omega, h0, h1, (orBad_none (badC_none.mpr fun c hc => (mem_rest.mp hc).1)).mpr (hQ _ ?_)⟩⟩
    have e2 : part n (rest n cs) = rest n cs := ((asc_part (rest_asc n cs) fun x hx => (mem_rest.mp hx).1).trans rfl).symm
    rw [e2]
    refine ⟨rfl, .int n, rfl, ?_⟩
    simp
    refine ⟨by omega, by omega, ?_⟩
    intro p
    refine lczI (fun n : Int => X.d (.int n)) (fun x => decide (x ∉ growN n ts k.toNat (rest n cs))) (fun n => n) (rng n) (by rw [rng_len]; omega) ?_ ?_ p
    · intro a ha S' K Kf hc h1 hk
      simp
      by_cases e : a ∈ growN n ts k.toNat (rest n cs)
      · simpa [e] using hk (by simpa using e)
      · simpa [e] using h1 (by simpa using e)
    rw [List.map_id']
    have hre2 : (rng n).filter (fun x => decide (x ∉ growN n ts k.toNat (rest n cs))) = rest n (growN n ts k.toNat (rest n cs)) := rfl
    rw [hre2]
    simp
    exact hq
  · exact h.elim
theorem elim_cc {g : GM} {m d : D} {S : Store} {Q : XQ} {E : Exn → Store → Prop} (h : callD (sp_check_cells g) [] [.d m, .d d] S Q E) : Q (.d .non) S := by
  rw [x_call0] at h
  obtain ⟨n, ts, b, cs, rfl, hs, hr, Su, Se, h1, h2, q⟩ := h
  obtain ⟨rfl, rfl⟩ := List.append_eq_nil_iff.mp h1.symm
  unfold putBack at q
  rwa [List.append_nil] at q
theorem c_xcc {g : GX} {n : Int} {ts : List (Int × Int)} {d : D} {b : Bool} {cs : List Int} {S : Store} {Q : XQ} {E : Exn → Store → Prop} (hs : seqD d = some (b, ID cs)) (e : badC n cs = none) (q : Q (.d .non) S) : callD (sp_xcheck_cells g) [] [.d (mapO g n ts), .d d] S Q E :=
  callP fun Q' E' hQ => ⟨n, ts, b, cs, rfl, hs, (orBad_none e).mpr (hQ _ q)⟩
theorem hw_xpoured (g : GX) : HW_xpoured g := by
  intro xs S Q E h
  unfold sp_xpoured at h
  split at h
  · rename_i m d e
    obtain ⟨rfl, n, ts, b, cs, b', ws, rfl, ok, hs, hs', hl, hq⟩ := h
    cases e1 : badC n cs with
    | some c =>
      rw [orBad_some (badC_appS e1)] at hq
      unfold w_xpoured
      simp
      exact ⟨objAt_map, c_bad hq fun Q' E' q => ⟨n, ts, b, cs, rfl, hs, (orBad_some e1).mpr q⟩⟩
    | none =>
      cases e2 : badC n ws with
      | some c =>
        rw [orBad_some ((badC_app e1).trans e2)] at hq
        unfold w_xpoured
        simp
        exact ⟨objAt_map, c_xcc hs e1 ⟨objAt_map, c_bad hq fun Q' E' q => ⟨n, ts, b', ws, rfl, hs', (orBad_some e2).mpr q⟩⟩⟩
      | none =>
        rw [orBad_none ((badC_app e1).trans e2)] at hq
        have h := hw_poured (EE := fun x _ S => E x S) g [.d (mapO g n ts), .d d, .d e] [] Q E ⟨rfl, n, ts, b, cs, b', ws, rfl, ok, hs, hs', hl, badC_none.mp e1, badC_none.mp e2, hq⟩
        unfold w_poured at h
        unfold w_xpoured
        simp at h ⊢
        exact ⟨objAt_map, c_xcc hs e1 ⟨objAt_map, c_xcc hs' e2 (elim_cc (elim_cc h.2).2)⟩⟩
  · exact h.elim
theorem hw_xparts (g : GX) : HW_xparts g := by
  intro xs S Q E h
  unfold sp_xparts at h
  split at h
  · rename_i m d
    obtain ⟨rfl, n, ts, b, cs, rfl, ok, hs, hl, hq⟩ := h
    cases e : badC n cs with
    | some c =>
      rw [orBadJ_some e] at hq
      unfold w_xparts
      simp
      intro q1
      exact ⟨objAt_map, callPX fun Q' E' _ hE => ⟨n, ts, b, cs, rfl, hs, by omega, (orBad_some e).mpr (hE _ (hq _))⟩⟩
    | none =>
    rw [orBadJ_none e] at hq
    have hr := badC_none.mp e
    have hsz : sizeLine = 16777216 := rfl
    have hn := ok.hi
    unfold w_xparts
    simp
    intro q1
    refine ⟨objAt_map, callP fun Q' E' hQ => ⟨n, ts, b, cs, rfl, hs, by omega, (orBad_none e).mpr (hQ _ ?_)⟩⟩
    simp
    suffices hh : ∀ (Fin : Env → Store → Prop) (l : List Int) (acc : List (List Int)) (o : Option X), (∀ x ∈ l, 0 ≤ x ∧ x < n) → acc.length + l.length ≤ 1000 →
        (∀ o, Fin [some (.d (mapO g n ts)), some (.d d), some (.h q1), o, none] [(q1, .lst (TX (partsF n ts cs l acc)))]) →
        loopD (dName 3) (wIfS (wTest (wCB dAll (wCons (wFz (wLcH (wVar 2) (dName 4) wYes (wOp (dIn true) (wVar 3) (wVar 4)) [4])) wNil))) (wDrop (wBM dAppend (wVar 2) (wCons (wMethX g.Map "poured" (sp_xpoured g) [] [] (wVar 0) (wCons (wTup (wCons (wVar 3) wNil)) (wCons (wVar 1) wNil))) wNil))) wNext)
          ⟨Fin, Q, fun _ _ => False, fun _ _ => False⟩ (fun x _ S => E x S) (IX l) [some (.d (mapO g n ts)), some (.d d), some (.h q1), o, none] [(q1, .lst (TX acc))] from by
      refine hh _ (part n cs) [] none (fun x hx => (mem_part.mp hx).1) (by have := part_len n cs; simp; omega) fun o => ?_
      simp
      refine ⟨0, _, rfl, .lst (TD (partsL n ts cs)), by rw [x_dataL, xdata_TX]; rfl, ?_⟩
      rw [x_tupL]
      exact hq
    intro Fin l
    induction l with
    | nil => intro acc o _ _ hF; exact hF o
    | cons c l ih =>
      intro acc o hlr hz hF
      rw [List.length_cons] at hz
      show loopD _ _ _ _ (.d (.int c) :: IX l) _ _
      rw [loop_cons]
      simp
      refine ⟨⟨0, _, rfl⟩, fun q2 => ?_⟩
      refine lcHz (S0 := [(q1, Cell.lst (TX acc))]) (j := 0) (fun p : List Int => X.d (.tup (ID p))) (fun _ => true) (fun p => .bl (decide (c ∉ p))) acc (by omega) rfl ?_ ?_ q2
      · intro a ha S' K Kf hc h1 hk
        simp
        simpa using h1 rfl
      rw [filter_yes]
      refine ⟨acc.map fun p => decide (c ∉ p), by simp, ?_⟩
      have e : (acc.map fun p => decide (c ∉ p)).all id = acc.all fun p => decide (c ∉ p) := by rw [List.all_map]; rfl
      rw [e]
      have hF' : ∀ o, Fin [some (.d (mapO g n ts)), some (.d d), some (.h q1), o, none] [(q1, .lst (TX (partsF n ts cs l (if acc.all (fun p => decide (c ∉ p)) then acc ++ [pourL n ts [c] cs] else acc))))] := hF
      cases hall : acc.all fun p => decide (c ∉ p) with
      | true =>
        rw [hall] at hF'
        simp
        refine ⟨⟨0, _, rfl⟩, objAt_map, by decide, ?_⟩
        refine callP fun Q' E' hQ => ⟨rfl, n, ts, true, [c], b, cs, rfl, ok, rfl, hs, hl, (orBad_none (badC_none.mpr fun x hx => (List.mem_append.mp hx).elim (fun hx => by simp at hx; subst hx; exact hlr x List.mem_cons_self) (hr x))).mpr (hQ _ ?_)⟩
        refine ⟨0, _, rfl, by unfold TX; rw [List.length_map]; omega, ?_⟩
        have := ih (acc ++ [pourL n ts [c] cs]) (some (.d (.int c))) (fun x hx => hlr x (List.mem_cons_of_mem _ hx)) (by rw [List.length_append]; simp; omega) hF'
        rw [TX_app] at this
        exact this
      | false =>
        rw [hall] at hF'
        simp
        exact ih acc _ (fun x hx => hlr x (List.mem_cons_of_mem _ hx)) (by omega) hF'
  · exact h.elim
end DP

set_option Elab.async false
set_option linter.all false
set_option maxRecDepth 100000
set_option maxHeartbeats 1000000
namespace DP
open PySem PySem.Spec PyProof.Rows L2
open Evl (Ex ex_l ex_t ex_rd fresh_back)

/-! ### slices -/
def cutG {α : Type} (xs : List α) (lo hi : Option Int) : List α := (xs.drop (HT.sIx xs.length 0 lo)).take (HT.sIx xs.length xs.length hi - HT.sIx xs.length 0 lo)
theorem cutG_map {α β : Type} (f : α → β) (xs : List α) (lo hi : Option Int) : cutG (xs.map f) lo hi = (cutG xs lo hi).map f := by unfold cutG; rw [List.length_map, List.map_take, List.map_drop]
theorem cutX_map (ds : List D) (lo hi : Option Int) : cutX (ds.map X.d) lo hi = (cutG ds lo hi).map X.d := cutG_map X.d ds lo hi
theorem cutG_ID (xs : List Int) (lo hi : Option Int) : cutG (ID xs) lo hi = ID (cutG xs lo hi) := cutG_map _ xs lo hi
section
variable {δ : Env} {S : Store} {Q : XQ} {E : XR}
@[simp] theorem x_noPart {R : Option Int → Store → Prop} : wNoPart δ S R E = R none S := rfl
@[simp] theorem x_part {w : WE} {R : Option Int → Store → Prop} : wPart w δ S R E = w δ S (fun x S1 => match x with | .d (.int i) => R (some i) S1 | _ => False) E := rfl
@[simp] theorem x_slL {w : WE} {lo hi : WO} : wSlL w lo hi δ S Q E = w δ S (fun x S1 => lo δ S1 (fun l S2 => hi δ S2 (fun u S3 => dIsL x S3 fun xs => ∀ p, Q (.h p) (S3 ++ [(p, .lst (cutX xs l u))])) E) E) E := rfl
@[simp] theorem x_isL {ds : List D} {k : List X → Prop} : dIsL (.d (.lst ds)) S k = k (ds.map X.d) := rfl
@[simp] theorem x_fzCut {ds : List D} {lo hi : Option Int} {p : Addr} : fzQ Q (.h p) (S ++ [(p, .lst (cutX (ds.map X.d) lo hi))]) = Q (.d (.lst (cutG ds lo hi))) S := by
  rw [cutX_map]
  simp only [x_fzh, x_dataL, xdata_map, Option.map_some, Option.some.injEq, exists_eq_left']
theorem cut_hi {α : Type} {xs : List α} {k : Nat} : cutG xs none (some (k : Int)) = xs.take k := by
  unfold cutG
  rw [HT.sIx_none, HT.sIx_nat, Nat.sub_zero, List.drop_zero, List.take_eq_take_iff]
  omega
end
end DP

set_option Elab.async false
set_option linter.all false
set_option maxRecDepth 100000
set_option maxHeartbeats 1000000
namespace DP
open PySem PySem.Spec PyProof.Rows L2
open Evl (Ex ex_l ex_t ex_rd fresh_back)

/-! ### operators of own classes: + , len, in, str -/
section
variable {X : Cx} {CX : CXT} {k : Nat} {f C : Addr} {fd : FuncData} {ps : List Str} {sp : Sp}
/-- a def that is called from within a built-in -/
theorem run_fnS {A1 : Around} {pins : List (Addr × Obj)} {σ : L2.St} {H : Hp} {s : Shared} {Q : VK} {us : List Value} {vs : List V} (F : FnOk X.prog X.w X.K X.mg X.base CX0 k f fd ps sp) (sb : Sub X k A1) (hb : Binds X.K fd ps [])
    (I : L2.Inv X pins σ H s) (r : Vals vs us) (h : sp vs H Q fun _ _ _ => False) : wpAny (model X.prog X.w) A1 (call (.ref f) us) (EP X pins σ Q) X.xe s := by
  have hl : us.length = ps.length := by rw [← Paired.length r]; exact F.len _ _ _ _ h
  have e := I.env0
  have e0 : Env0 X.prog X.w X.K X.mg X.base A1 X.stack s H := ⟨by rw [sb.fr]; exact e.frames, e.mod, e.bs, e.bsz, e.funs, e.frf, e.hok, e.bare⟩
  have hb1 := hb s us I.kIn (by rw [List.append_nil]; exact hl)
  rw [List.append_nil] at hb1
  refine wpAny_call (codeAny_mono (F.run A1 X.stack s H ⟨us, []⟩ us vs Q (fun _ _ _ => False) sb.room e0 hb1 r h) fun r s' hq => ?_)
  cases r with
  | error e => exact pass0 (X := X) pins σ H s e s' I hq
  | ok fl =>
    cases fl with
    | ret u => exact I.after hq
    | next => exact False.elim hq
    | brk => exact False.elim hq
    | cont => exact False.elim hq
/-- o is of the class at C, and so is y -/
def rOpO (K : PySem.W.Frag) (C : Addr) (sp : Sp) : V → V → Hp → VK → Prop := fun x y H Q => ∃ a dx fs b dy gs, x = .ref a ∧ H a = some (.ins C dx fs) ∧ y = .ref b ∧ H b = some (.ins C dy gs) ∧ sp [x, y] H Q fun _ _ _ => False
theorem op_addO (F : FnOk X.prog X.w X.K X.mg X.base CX0 k f fd ps sp) (hr : Room k X.A) (hc : PySem.W.selfFirst X.K C = true) (hs : PySem.W.findIn X.K (.ref C) "__add__" = some (some (.ref f))) (hf : PySem.W.isFn X.K (.ref f) = true) (hb : Binds X.K fd ps []) : OpR X (binaryOp .Add) (rOpO X.K C sp) := by
  intro pins s σ H x y v u Q I rx ry hq
  obtain ⟨a, dx, fs, b, dy, gs, rfl, ha, rfl, hb', hsp⟩ := hq
  cases rx
  cases ry
  obtain ⟨mA, J, _⟩ := ins_get I.hok ha
  obtain ⟨od, J, _⟩ := J.look
  obtain ⟨mB, J2, _⟩ := ins_get I.hok hb'
  obtain ⟨od2, J2, _⟩ := J2.look
  obtain ⟨m, hF⟩ := I.fr
  refine PySem.W.binop_K (op := .Add) hF I.ok.mod.kin J J2.type hc hs hf ?_
  refine wpAny_mono (run_fnS (us := [.ref a, .ref b]) (vs := [.ref a, .ref b]) F ⟨hr, rfl⟩ hb I (.cons rfl (.cons rfl .nil)) hsp) (fun r s' hq => ?_) fun _ _ z => z
  have hE : EP X pins σ Q r s' := hq
  obtain ⟨z, H', I', rz, q⟩ := hq
  cases r <;> first | exact hE | (cases z <;> first | (cases rz; done) | (obtain ⟨_, h⟩ := rz; cases h))
def rLenO (K : PySem.W.Frag) (C : Addr) (sp : Sp) : List V → Hp → VK → Prop := fun xs H Q => ∃ a dx fs, xs = [.ref a] ∧ H a = some (.ins C dx fs) ∧ sp xs H (fun v H' => ∃ i : Int, v = .int i ∧ 0 ≤ i ∧ i < 2 ^ 63 ∧ Q v H') fun _ _ _ => False
theorem call_lenO (F : FnOk X.prog X.w X.K X.mg X.base CX0 k f fd ps sp) (hr : Room (k + 1) X.A) (hs : PySem.W.findIn X.K (.ref C) "__len__" = some (some (.ref f))) (hf : PySem.W.isFn X.K (.ref f) = true) (hb : Binds X.K fd ps []) : CallR X (.builtin "len") (rLenO X.K C sp) := by
  intro pins s σ H xs us Q I r ⟨a, dx, fs, ex, ha, hsp⟩
  subst ex
  cases r with
  | cons rx rr =>
    cases rr
    cases rx
    obtain ⟨mA, J, _⟩ := ins_get I.hok ha
    obtain ⟨od, J, _⟩ := J.look
    obtain ⟨m, hF⟩ := I.fr
    refine PySem.W.len_K hF I.ok.mod.kin J hs hf ?_
    refine wpAny_mono (run_fnS (us := [.ref a]) (vs := [.ref a]) F ⟨hr.in1, rfl⟩ hb I (.cons rfl .nil) hsp) (fun r s' hq => ?_) fun _ _ z => z
    obtain ⟨z, H', I', rz, i, rfl, h0, h1, q⟩ := hq
    obtain ⟨t, rfl⟩ := rz
    exact ⟨⟨h0, h1⟩, .int i, H', I'.kept (t' := s'.toks + 1) (fun _ _ z => z), ⟨_, rfl⟩, q⟩
def rStrO (K : PySem.W.Frag) (C : Addr) (sp : Sp) : List V → Hp → VK → Prop := fun xs H Q => ∃ a dx fs, xs = [.ref a] ∧ H a = some (.ins C dx fs) ∧ sp xs H (fun v H' => ∃ t, v = .str t ∧ Q v H') fun _ _ _ => False
theorem call_strO (F : FnOk X.prog X.w X.K X.mg X.base CX0 k f fd ps sp) (hr : Room (k + 2) X.A) (hs : PySem.W.findIn X.K (.ref C) "__str__" = some (some (.ref f))) (hf : PySem.W.isFn X.K (.ref f) = true) (hb : Binds X.K fd ps []) (hu : X.A.in1.in1.units < cLine) : CallR X (.type "str") (rStrO X.K C sp) := by
  intro pins s σ H xs us Q I r ⟨a, dx, fs, ex, ha, hsp⟩
  subst ex
  cases r with
  | cons rx rr =>
    cases rr
    cases rx
    obtain ⟨mA, J, _⟩ := ins_get I.hok ha
    obtain ⟨od, J, _⟩ := J.look
    refine PySem.W.kso_call hu I.kIn J hs hf ?_
    refine wpAny_mono (run_fnS (us := [.ref a]) (vs := [.ref a]) F ⟨(Room.in1 hr).in1, rfl⟩ hb I (.cons rfl .nil) hsp) (fun r s' hq => ?_) fun _ _ z => z
    obtain ⟨z, H', I', rz, t, rfl, q⟩ := hq
    obtain ⟨u, rfl⟩ := rz
    exact ⟨.str t, H', I', ⟨u, rfl⟩, q⟩
/-- x in o -/
def rInO (K : PySem.W.Frag) (C : Addr) (sp : Sp) : V → V → Hp → VK → Prop := fun x y H Q => ∃ a dx fs, y = .ref a ∧ H a = some (.ins C dx fs) ∧ sp [y, x] H (fun v H' => (∃ b, v = .bl b) ∧ Q v H') fun _ _ _ => False
theorem op_inO (F : FnOk X.prog X.w X.K X.mg X.base CX0 k f fd ps sp) (hr : Room k X.A) (hs : PySem.W.findIn X.K (.ref C) "__contains__" = some (some (.ref f))) (hf : PySem.W.isFn X.K (.ref f) = true) (hb : Binds X.K fd ps []) : OpR X (compareOp .In) (rInO X.K C sp) := by
  intro pins s σ H x y v u Q I rx ry hq
  obtain ⟨a, dx, fs, rfl, ha, hsp⟩ := hq
  cases ry
  obtain ⟨mA, J, _⟩ := ins_get I.hok ha
  obtain ⟨od, J, _⟩ := J.look
  obtain ⟨m, hF⟩ := I.fr
  refine PySem.W.in_K hF I.ok.mod.kin J hs hf ?_
  refine wpAny_mono (run_fnS (us := [.ref a, v]) (vs := [.ref a, x]) F ⟨hr, rfl⟩ hb I (.cons rfl (.cons rx .nil)) hsp) (fun r s' hq => ?_) fun _ _ z => z
  obtain ⟨z, H', I', rz, ⟨b, rfl⟩, q⟩ := hq
  cases rz
  refine PySem.wpAny_truthy_bool ?_
  exact ⟨.bl b, H', I', rfl, q⟩
end
/-! ### .. by data -/
def dAddO (C : Addr) (sp : DSp) : DR2 := fun x y S Q => objIs x S C ∧ objIs y S C ∧ callD sp [] [x, y] S Q noE
theorem rr_addO {K : PySem.W.Frag} {C : Addr} {sp : DSp} : RR K (rOpO K C (lift K sp)) (dAddO C sp) := fun A F δ S σ H v u x y Q Q' st rx ry ⟨h1, h2, h3⟩ k => by
  obtain ⟨a, dx, fs, rfl, ha⟩ := objIs.ok st rx h1
  obtain ⟨b, dy, gs, rfl, hb⟩ := objIs.ok st ry h2
  exact ⟨a, dx, fs, b, dy, gs, rfl, ha, rfl, hb, lift_call st (.cons rx (.cons ry .nil)) h3 (fun F' S' H' v z st' e' rz q => k _ _ _ _ _ st' e' rz q) fun _ _ _ _ _ _ _ _ z => z⟩
def dLenO (C : Addr) (sp : DSp) : DRC := fun xs S Q => match xs with
  | [x] => objIs x S C ∧ callD sp [] [x] S (fun r S' => ∃ i : Int, r = .d (.int i) ∧ 0 ≤ i ∧ i < 2 ^ 63 ∧ Q r S') noE
  | _ => False
theorem rc_lenO {K : PySem.W.Frag} {C : Addr} {sp : DSp} : RC K (rLenO K C (lift K sp)) (dLenO C sp) := fun A F δ S σ H vs xs Q Q' st rs h k => by
  unfold dLenO at h
  split at h
  · obtain ⟨v, rfl, r⟩ := RepXs.one rs
    obtain ⟨h1, h3⟩ := h
    obtain ⟨a, dx, fs, rfl, ha⟩ := objIs.ok st r h1
    refine ⟨a, dx, fs, rfl, ha, lift_call st (.cons r .nil) h3 (fun F' S' H' v z st' e' rz q => ?_) fun _ _ _ _ _ _ _ _ z => z⟩
    obtain ⟨i, rfl, h0, h1, q⟩ := q
    exact ⟨i, repd_int rz, h0, h1, k _ _ _ _ _ st' e' rz q⟩
  · exact h.elim
def dStrO (C : Addr) (sp : DSp) : DRC := fun xs S Q => match xs with
  | [x] => objIs x S C ∧ callD sp [] [x] S (fun r S' => ∃ t : Str, r = .d (.str t) ∧ Q r S') noE
  | _ => False
theorem rc_strO {K : PySem.W.Frag} {C : Addr} {sp : DSp} : RC K (rStrO K C (lift K sp)) (dStrO C sp) := fun A F δ S σ H vs xs Q Q' st rs h k => by
  unfold dStrO at h
  split at h
  · obtain ⟨v, rfl, r⟩ := RepXs.one rs
    obtain ⟨h1, h3⟩ := h
    obtain ⟨a, dx, fs, rfl, ha⟩ := objIs.ok st r h1
    refine ⟨a, dx, fs, rfl, ha, lift_call st (.cons r .nil) h3 (fun F' S' H' v z st' e' rz q => ?_) fun _ _ _ _ _ _ _ _ z => z⟩
    obtain ⟨t, rfl, q⟩ := q
    exact ⟨t, repd_str rz, k _ _ _ _ _ st' e' rz q⟩
  · exact h.elim
def dInO (C : Addr) (sp : DSp) : DR2 := fun x y S Q => objIs y S C ∧ callD sp [] [y, x] S (fun r S' => ∃ b, r = .d (.bl b) ∧ Q r S') noE
theorem rr_inO {K : PySem.W.Frag} {C : Addr} {sp : DSp} : RR K (rInO K C (lift K sp)) (dInO C sp) := fun A F δ S σ H v u x y Q Q' st rx ry ⟨h1, h3⟩ k => by
  obtain ⟨a, dx, fs, rfl, ha⟩ := objIs.ok st ry h1
  refine ⟨a, dx, fs, rfl, ha, lift_call st (.cons ry (.cons rx .nil)) h3 (fun F' S' H' v z st' e' rz q => ?_) fun _ _ _ _ _ _ _ _ z => z⟩
  obtain ⟨b, rfl, q⟩ := q
  exact ⟨⟨b, repd_bl rz⟩, k _ _ _ _ _ st' e' rz q⟩
section
variable {Y : Cx} {W : WX} {a b e : Expr} {p pos : Pos} {ta tb te : TE} {wa wb we : WE} {n : Nat} {C f : Addr} {fd : FuncData} {ps : List Str} {sp : DSp}
theorem f_addO {K0 : PySem.W.Frag} [hKK : HasK Y K0] (hc : PySem.W.selfFirst K0 C = true) (hs : PySem.W.findIn K0 (.ref C) "__add__" = some (some (.ref f))) (hf : PySem.W.isFn K0 (.ref f) = true) (F : FnOk Y.prog Y.w K0 Y.mg Y.base CX0 n f fd ps (lift K0 sp)) (hr : Room n Y.A) (hb : Binds K0 fd ps []) (ha : FE Y W a ta wa) (hb' : FE Y W b tb wb) :
    FE Y W (.BinOp a .Add b pos) (tOp (rOpO K0 C (lift K0 sp)) ta tb) (wOp (dAddO C sp) wa wb) := by
  obtain ⟨rfl⟩ := hKK
  exact f_op (op_addO F hr hc hs hf hb) rr_addO ha hb'
theorem f_inO {K0 : PySem.W.Frag} [hKK : HasK Y K0] (hs : PySem.W.findIn K0 (.ref C) "__contains__" = some (some (.ref f))) (hf : PySem.W.isFn K0 (.ref f) = true) (F : FnOk Y.prog Y.w K0 Y.mg Y.base CX0 n f fd ps (lift K0 sp)) (hr : Room n Y.A) (hb : Binds K0 fd ps []) (ha : FE Y W a ta wa) (hb' : FE Y W b tb wb) (hm : behindInMarks .In b = false := by first | exact nobehind _ (by decide) (by decide) | rfl) :
    FE Y W (.Compare a [.In] [b] pos) (tOp (rInO K0 C (lift K0 sp)) ta tb) (wOp (dInO C sp) wa wb) := by
  obtain ⟨rfl⟩ := hKK
  exact f_cmp (op_inO F hr hs hf hb) rr_inO ha hb' hm
theorem ft_inO {K0 : PySem.W.Frag} [hKK : HasK Y K0] (hs : PySem.W.findIn K0 (.ref C) "__contains__" = some (some (.ref f))) (hf : PySem.W.isFn K0 (.ref f) = true) (F : FnOk Y.prog Y.w K0 Y.mg Y.base CX0 n f fd ps (lift K0 sp)) (hr : Room n Y.A) (hb : Binds K0 fd ps []) (ha : FE Y W a ta wa) (hb' : FE Y W b tb wb) (hm : behindInMarks .In b = false := by first | exact nobehind _ (by decide) (by decide) | rfl) :
    FT Y W (.Compare a [.In] [b] pos) (tTest (tOp (rInO K0 C (lift K0 sp)) ta tb)) (wTest (wOp (dInO C sp) wa wb)) := by
  obtain ⟨rfl⟩ := hKK
  exact ft_cmp (op_inO F hr hs hf hb) rr_inO ha hb' hm
theorem f_lenO {K0 : PySem.W.Frag} [hKK : HasK Y K0] (hs : PySem.W.findIn K0 (.ref C) "__len__" = some (some (.ref f))) (hf : PySem.W.isFn K0 (.ref f) = true) (F : FnOk Y.prog Y.w K0 Y.mg Y.base CX0 n f fd ps (lift K0 sp)) (hr : Room (n + 1) Y.A) (hb : Binds K0 fd ps []) (hm : Y.mg "len" = none) (h : FE Y W e te we)
    (hg : Gl Y "len" := by rfl) (he : starEach [e] Y.env = (false, eval e Y.env) :: starEach [] Y.env := by rfl) : FE Y W (.Call (.Name "len" p) [e] [] pos) (tCB (rLenO K0 C (lift K0 sp)) (tCons te tNil)) (wCB (dLenO C sp) (wCons we wNil)) := by
  obtain ⟨rfl⟩ := hKK
  exact f_callB (call_lenO F hr hs hf hb) rc_lenO hm (fa1 h he) (hg := hg) (he := he)
theorem f_strO {K0 : PySem.W.Frag} [hKK : HasK Y K0] (hs : PySem.W.findIn K0 (.ref C) "__str__" = some (some (.ref f))) (hf : PySem.W.isFn K0 (.ref f) = true) (F : FnOk Y.prog Y.w K0 Y.mg Y.base CX0 n f fd ps (lift K0 sp)) (hr : Room (n + 2) Y.A) (hu : Y.A.in1.in1.units < cLine) (hb : Binds K0 fd ps []) (hm : Y.mg "str" = none) (h : FE Y W e te we)
    (hg : Gl Y "str" := by rfl) (he : starEach [e] Y.env = (false, eval e Y.env) :: starEach [] Y.env := by rfl) : FE Y W (.Call (.Name "str" p) [e] [] pos) (tCB (rStrO K0 C (lift K0 sp)) (tCons te tNil)) (wCB (dStrO C sp) (wCons we wNil)) := by
  obtain ⟨rfl⟩ := hKK
  exact f_callTy (call_strO F hr hs hf hb hu) rc_strO hm (fa1 h he) (hg := hg) (he := he)
end
section
variable {S : Store} {Q : XQ} {C : Addr} {sp : DSp}
@[simp] theorem x_objIs {C' : Addr} {gs : List (Str × D)} : objIs (.d (.obj C' gs)) S C = (C' = C) := rfl
@[simp] theorem x_addO {x y : X} : dAddO C sp x y S Q = (objIs x S C ∧ objIs y S C ∧ callD sp [] [x, y] S Q noE) := rfl
@[simp] theorem x_lenO {x : X} : dLenO C sp [x] S Q = (objIs x S C ∧ callD sp [] [x] S (fun r S' => ∃ i : Int, r = .d (.int i) ∧ 0 ≤ i ∧ i < 2 ^ 63 ∧ Q r S') noE) := rfl
@[simp] theorem x_strO {x : X} : dStrO C sp [x] S Q = (objIs x S C ∧ callD sp [] [x] S (fun r S' => ∃ t : Str, r = .d (.str t) ∧ Q r S') noE) := rfl
@[simp] theorem x_inO {x y : X} : dInO C sp x y S Q = (objIs y S C ∧ callD sp [] [y, x] S (fun r S' => ∃ b, r = .d (.bl b) ∧ Q r S') noE) := rfl
end
end DP

set_option Elab.async false
set_option linter.all false
set_option maxRecDepth 100000
set_option maxHeartbeats 1000000
namespace DP
open PySem PySem.Spec PyProof.Rows L2
open Evl (Ex ex_l ex_t ex_rd fresh_back)

/-! ### != of an own class that says == alone -/
section
variable {prog : Program} {w : World} {A : Around} {E : Value → Shared → Prop} {s : Shared} {K : PySem.W.Frag} {x C f : Addr} {ox : Obj} {od : Option Obj} {b tb : Value}
theorem ifBound_ne {M : Model} {Q : Option Value → Shared → Prop} (X : K.In s.heap) (I : PySem.W.InstAt s.heap x ox C od) (hs : PySem.W.findIn K (.ref C) "__ne__" = some (some (.builtin "object.__ne__")))
    (hb : ∀ self, bindSpecial (.builtin "object.__ne__") self = pure (.builtin "object.__ne__", [self])) (h : wpAny M A (call (.builtin "object.__ne__") [.ref x, b]) (fun v => Q (some v)) E s) : wpAny M A (callSpecialIfBound? (.ref x) "__ne__" [b]) Q E s := by
  simp only [callSpecialIfBound?, bindSpecialIfBound?]
  refine wpAny_holding (wpAny_bind (wpAny_bind (wpAny_bind (I.type.here ((PySem.W.looks_findIn X hs).here ?_)))))
  refine wpAny_bind (wpAny_askSetting (wpAny_ite ?_))
  have fin : wpAny M A (call (.builtin "object.__ne__") ([.ref x] ++ [b]) >>= fun v => pure (some v)) Q E s := wpAny_bind (wpAny_mono h (fun v s' h' => wpAny_pure h') fun _ _ h' => h')
  split
  · exact wpAny_bind ((PySem.W.Looks.of_pure (hb _)).here (wpAny_pure (by exact fin)))
  · exact wpAny_tryCatch (wpAny_bind ((PySem.W.Looks.of_pure (hb _)).here (wpAny_pure (by exact fin))))
/-- the built-in's own run -/
theorem call_ne (X : K.In s.heap) (I : PySem.W.InstAt s.heap x ox C od) (hm : PySem.W.mroIn K C (.type "object") = some true) (hs : PySem.W.findIn K (.ref C) "__eq__" = some (some (.ref f))) (hf : PySem.W.isFn K (.ref f) = true) (hu : A.in1.units < cLine) {Q : Value → Shared → Prop}
    (h : wpAny (model prog w) A.in1 (call (.ref f) [.ref x, b]) (fun v s' => ∃ c, v = .bool c ∧ Q (.bool (!c)) s') E s) : wpAny (model prog w) A (call (.builtin "object.__ne__") [.ref x, b]) Q E s := by
  have sub : PySem.W.Looks (model prog w) s.heap (isInstance (.ref x) (.type "object")) true := I.type.andThen (PySem.W.looks_mroIn X hm)
  refine wpAny_call (codeAny_call_builtin F.cmp_object.ne.plain F.cmpEntry_ne (@PySem.W.check_slot (model prog w) _ _ s "object.__ne__" "object" "__ne__" (.ref x) [b] [] _ F.cmpKind_ne F.cmpSplit_ne sub (F.cmpArgs_ne _ _) ?_))
  unfold Builtin.«object.__ne__»
  refine wpAny_bind (wpAny_of_eq (a := ((Value.ref x : Value), [b])) (by first | rfl | (simp only [slotArgs]; rfl)) ?_)
  refine wpAny_bind (wpAny_cRoomFor hu ?_)
  refine wpAny_bind (m := callSpecialIfBound? (.ref x) (Str.ofString "__eq__") [b]) (PySem.W.ifBound_K X I hs hf (wpAny_mono h (fun v s' hv => ?_) fun _ _ e => e))
  obtain ⟨c, rfl, q⟩ := hv
  refine wpAny_bind (m := truthy (.bool c)) (wpAny_truthy_bool ?_)
  exact wpAny_pure q
theorem cmp_ne (hu : A.in1.units < cLine) (hu0 : A.units < cLine) (X : K.In s.heap) (I : PySem.W.InstAt s.heap x ox C od) (hb : PySem.W.Looks (model prog w) s.heap (typeOf b) tb) (hn : PySem.W.notFirst K C tb = true) (hne : PySem.W.findIn K (.ref C) "__ne__" = some (some (.builtin "object.__ne__"))) (hm : PySem.W.mroIn K C (.type "object") = some true)
    (hs : PySem.W.findIn K (.ref C) "__eq__" = some (some (.ref f))) (hf : PySem.W.isFn K (.ref f) = true) {Q : Value → Shared → Prop}
    (h : wpAny (model prog w) A.in1 (call (.ref f) [.ref x, b]) (fun v s' => ∃ c, v = .bool c ∧ Q (.bool (!c)) s') E s) : wpAny (model prog w) A (richCompare .NotEq (.ref x) b) Q E s := by
  have one : wpAny (model prog w) A (tryCompare (.ref x) "__ne__" b) (fun r s' => ∃ v, r = some v ∧ Q v s') E s := by
    unfold tryCompare
    refine wpAny_bind (ifBound_ne X I hne (fun v => F.cmp_object.ne.bind v) (call_ne X I hm hs hf hu (wpAny_mono h (fun v s' hv => ?_) fun _ _ e => e)))
    obtain ⟨c, rfl, q⟩ := hv
    exact ⟨c, rfl, wpAny_pure ⟨_, rfl, q⟩⟩
  unfold richCompare
  simp only [oneThing_ref]
  refine wpAny_holding (wpAny_bind (wpAny_cRoomFor hu0 ?_))
  rw [cmpInfo_NotEq]
  dsimp only
  refine wpAny_bind (I.type.here (wpAny_bind (hb.here ?_)))
  split
  · rename_i q
    have e : PySem.W.subIn K tb (.ref C) = some false := by
      rcases Bool.or_eq_true_iff.mp hn with e | e
      · rw [beq_iff_eq.mp e] at q; simp at q
      · exact beq_iff_eq.mp e
    refine wpAny_bind ((PySem.W.looks_subIn X e).here ?_)
    simp only [Bool.false_eq_true, if_false]
    refine wpAny_bind (wpAny_mono one (fun r s' z => ?_) fun _ _ e => e)
    obtain ⟨v, rfl, hq⟩ := z
    exact wpAny_pure hq
  · refine wpAny_bind (wpAny_pure ?_)
    simp only [Bool.false_eq_true, if_false]
    refine wpAny_bind (wpAny_mono one (fun r s' z => ?_) fun _ _ e => e)
    obtain ⟨v, rfl, hq⟩ := z
    exact wpAny_pure hq
end
section
variable {X : Cx} {CX : CXT} {k : Nat} {f C : Addr} {fd : FuncData} {ps : List Str} {sp : Sp}
def rNeO (K : PySem.W.Frag) (C : Addr) (sp : Sp) : V → V → Hp → VK → Prop := fun x y H Q => ∃ a dx fs tb, x = .ref a ∧ H a = some (.ins C dx fs) ∧ TyX K H y tb ∧ PySem.W.notFirst K C tb = true ∧ sp [x, y] H (fun v H' => ∃ b, v = .bl b ∧ Q (.bl (!b)) H') fun _ _ _ => False
theorem op_neO (F : FnOk X.prog X.w X.K X.mg X.base CX0 k f fd ps sp) (hr : Room (k + 1) X.A) (hs : PySem.W.findIn X.K (.ref C) "__eq__" = some (some (.ref f))) (hf : PySem.W.isFn X.K (.ref f) = true) (hb : Binds X.K fd ps [])
    (hne : PySem.W.findIn X.K (.ref C) "__ne__" = some (some (.builtin "object.__ne__"))) (hm : PySem.W.mroIn X.K C (.type "object") = some true) : OpR X (compareOp .NotEq) (rNeO X.K C sp) := by
  intro pins s σ H x y v u Q I rx ry hq
  obtain ⟨a, dx, fs, tb, rfl, ha, hty, hn, hsp⟩ := hq
  cases rx
  obtain ⟨mA, J, _⟩ := ins_get I.hok ha
  obtain ⟨od, J, _⟩ := J.look
  obtain ⟨P, Z, hP, _⟩ := kit_of I ry hty
  refine cmp_ne hr.in1.units0 hr.units0 I.kIn J (Z.ty _ _ I.kIn hP) hn hne hm hs hf ?_
  refine wpAny_mono (run_fnS (us := [.ref a, u]) (vs := [.ref a, y]) F ⟨hr.in1, rfl⟩ hb I (.cons rfl (.cons ry .nil)) hsp) (fun r s' hq => ?_) fun _ _ z => z
  obtain ⟨z, H', I', rz, b, rfl, q⟩ := hq
  cases rz
  exact ⟨b, rfl, .bl (!b), H', I', rfl, q⟩
end
def dNeO (K : PySem.W.Frag) (C : Addr) (sp : DSp) : DR2 := fun x y S Q => objIs x S C ∧ TyD K S y (fun t => PySem.W.notFirst K C t = true) ∧ callD sp [] [x, y] S (fun r S' => ∃ b, r = .d (.bl b) ∧ Q (.d (.bl (!b))) S') noE
theorem rr_neO {K : PySem.W.Frag} {C : Addr} {sp : DSp} : RR K (rNeO K C (lift K sp)) (dNeO K C sp) := fun A F δ S σ H v u x y Q Q' st rx ry h k => by
  obtain ⟨h1, h2, h3⟩ := h
  obtain ⟨a, dx, fs, rfl, ha⟩ := objIs.ok st rx h1
  obtain ⟨t, ht, hn⟩ := TyD.ok st ry h2
  refine ⟨a, dx, fs, t, rfl, ha, ht, hn, lift_call st (.cons rx (.cons ry .nil)) h3 (fun F' S' H' v z st' e' rz q => ?_) fun _ _ _ _ _ _ _ _ z => z⟩
  obtain ⟨b, rfl, q⟩ := q
  exact ⟨b, repd_bl rz, k F' S' H' (.bl (!b)) (.d (.bl (!b))) st' e' (Rep.bl _) q⟩
section
variable {Y : Cx} {W : WX} {a b : Expr} {pos : Pos} {ta tb : TE} {wa wb : WE} {n : Nat} {C f : Addr} {fd : FuncData} {ps : List Str} {sp : DSp}
theorem f_neO {K0 : PySem.W.Frag} [hKK : HasK Y K0] (hne : PySem.W.findIn K0 (.ref C) "__ne__" = some (some (.builtin "object.__ne__")) ∧ PySem.W.mroIn K0 C (.type "object") = some true) (hs : PySem.W.findIn K0 (.ref C) "__eq__" = some (some (.ref f))) (hf : PySem.W.isFn K0 (.ref f) = true) (F : FnOk Y.prog Y.w K0 Y.mg Y.base CX0 n f fd ps (lift K0 sp)) (hr : Room (n + 1) Y.A) (hb : Binds K0 fd ps []) (ha : FE Y W a ta wa) (hb' : FE Y W b tb wb) :
    FE Y W (.Compare a [.NotEq] [b] pos) (tOp (rNeO K0 C (lift K0 sp)) ta tb) (wOp (dNeO K0 C sp) wa wb) := by
  obtain ⟨rfl⟩ := hKK
  exact f_cmp (op_neO F hr hs hf hb hne.1 hne.2) rr_neO ha hb'
theorem ft_neO {K0 : PySem.W.Frag} [hKK : HasK Y K0] (hne : PySem.W.findIn K0 (.ref C) "__ne__" = some (some (.builtin "object.__ne__")) ∧ PySem.W.mroIn K0 C (.type "object") = some true) (hs : PySem.W.findIn K0 (.ref C) "__eq__" = some (some (.ref f))) (hf : PySem.W.isFn K0 (.ref f) = true) (F : FnOk Y.prog Y.w K0 Y.mg Y.base CX0 n f fd ps (lift K0 sp)) (hr : Room (n + 1) Y.A) (hb : Binds K0 fd ps []) (ha : FE Y W a ta wa) (hb' : FE Y W b tb wb) :
    FT Y W (.Compare a [.NotEq] [b] pos) (tTest (tOp (rNeO K0 C (lift K0 sp)) ta tb)) (wTest (wOp (dNeO K0 C sp) wa wb)) := by
  obtain ⟨rfl⟩ := hKK
  exact ft_cmp (op_neO F hr hs hf hb hne.1 hne.2) rr_neO ha hb'
end
@[simp] theorem x_neO {K : PySem.W.Frag} {C : Addr} {sp : DSp} {x y : X} {S : Store} {Q : XQ} : dNeO K C sp x y S Q = (objIs x S C ∧ TyD K S y (fun t => PySem.W.notFirst K C t = true) ∧ callD sp [] [x, y] S (fun r S' => ∃ b, r = .d (.bl b) ∧ Q (.d (.bl (!b))) S') noE) := rfl
end DP

set_option Elab.async false
set_option linter.all false
set_option maxRecDepth 100000
set_option maxHeartbeats 1000000
namespace DP
open PySem PySem.Spec PyProof.Rows L2
open Evl (Ex ex_l ex_t ex_rd fresh_back)

/-! ### x += y of an own class without __iadd__ -/
section
variable {prog : Program} {w : World} {A : Around} {E : Value → Shared → Prop} {s : Shared} {K : PySem.W.Frag} {x C f : Addr} {ox : Obj} {od : Option Obj} {b tb : Value} {M : Model} {h : Heap}
theorem fillsI_no {cd : ClassData} (X : K.In h) (hc : PySem.W.clsIn K C = some cd) (hm : cd.mro = [.ref C, .type "object"]) (h1 : PySem.W.findIn K (.ref C) "__iadd__" = some none) : PySem.W.Looks M h (fillsInplaceSlot (.ref C) "add" true) false := by
  intro A Q E s k q
  have Lm : PySem.W.Looks M h (mroOf (.ref C)) cd.mro := (PySem.W.looks_clsIn X hc).andThen (f := fun cd => pure cd.mro) .now
  have Lm' := Lm.keeps k
  obtain ⟨hh, g, d, tt, os⟩ := s
  have X' : K.In hh := X.keeps k
  have L1 : PySem.W.Looks M hh (typeLookup (.ref C) "__iadd__") none := PySem.W.looks_findIn X' h1
  have h2 : typeLookup (.type "object") "__iadd__" = pure none := by rw [typeLookup_type, builtinLookup_eq_fast]; kernel_rfl
  unfold fillsInplaceSlot
  refine wpAny_bind (Lm'.at ?_)
  rw [hm, List.anyM_cons]
  refine wpAny_bind ?_
  have e : dunderI "add" = ("__iadd__" : Str) := by decide +kernel
  rw [e]
  refine wpAny_bind (L1.at (wpAny_pure ?_))
  rw [if_neg (by decide), List.anyM_cons]
  refine wpAny_bind (wpAny_bind ((PySem.W.Looks.of_pure h2).at (wpAny_pure ?_)))
  rw [if_neg (by decide)]
  exact wpAny_pure q
/-- binaryOp1 of two of one class -/
theorem bin1_K {Q : Value → Shared → Prop} {nm : String} (X : K.In s.heap) (I : PySem.W.InstAt s.heap x ox C od) (hb : PySem.W.Looks (model prog w) s.heap (typeOf b) (.ref C)) (hc : PySem.W.selfFirst K C = true) (hs : PySem.W.findIn K (.ref C) (PySem.dunder nm) = some (some (.ref f))) (hf : PySem.W.isFn K (.ref f) = true)
    (h : wpAny (model prog w) A (call (.ref f) [.ref x, b]) (PySem.W.CmpBack Q) E s) : wpAny (model prog w) A (binaryOp1 nm (.ref x) b) (fun r s' => ∃ v, r = some v ∧ Q v s') E s := by
  obtain ⟨cd, hcd, hm⟩ := PySem.W.any_some hc
  obtain ⟨rest, hm⟩ : ∃ rest, cd.mro = .ref C :: rest := by
    cases q : cd.mro with
    | nil => rw [q] at hm; cases hm
    | cons a r => rw [q] at hm; exact ⟨r, by rw [List.head?_cons] at hm; cases (beq_iff_eq.mp hm); rfl⟩
  unfold binaryOp1
  refine wpAny_bind (I.type.here (wpAny_bind (hb.here (wpAny_bind ((PySem.W.fills_K X hcd hm hs).here ?_)))))
  simp only [beq_self_eq_true, if_true]
  refine wpAny_bind (wpAny_pure ?_)
  simp only [Bool.and_false, Bool.false_eq_true, if_false, Bool.false_and]
  refine wpAny_bind (wpAny_pure ?_)
  simp only [Bool.false_eq_true, if_false]
  refine wpAny_bind (m := tryMethod (.ref x) _ b) ?_
  unfold tryMethod
  refine wpAny_bind (PySem.W.special_fn X I hs (beq_iff_eq.mp hf) (wpAny_mono h (fun v s' hv => ?_) fun _ _ e => e))
  cases v <;> first | exact hv.elim | exact wpAny_pure (wpAny_pure ⟨_, rfl, hv⟩)
end
section
variable {X : Cx} {k : Nat} {f C : Addr} {fd : FuncData} {ps : List Str} {sp : Sp}
theorem ip_addO {cd : ClassData} (F : FnOk X.prog X.w X.K X.mg X.base CX0 k f fd ps sp) (hr : Room k X.A) (hc : PySem.W.selfFirst X.K C = true) (hs : PySem.W.findIn X.K (.ref C) "__add__" = some (some (.ref f))) (hf : PySem.W.isFn X.K (.ref f) = true) (hb : Binds X.K fd ps [])
    (hcd : PySem.W.clsIn X.K C = some cd) (hm : cd.mro = [.ref C, .type "object"]) (hi : PySem.W.findIn X.K (.ref C) "__iadd__" = some none) : PIp X .Add (rOpO X.K C sp) := by
  intro pins s σ H x y v u Q I rx ry hq
  obtain ⟨a, dx, fs, b, dy, gs, rfl, ha, rfl, hb', hsp⟩ := hq
  cases rx
  cases ry
  obtain ⟨mA, J, _⟩ := ins_get I.hok ha
  obtain ⟨od, J, _⟩ := J.look
  obtain ⟨mB, J2, _⟩ := ins_get I.hok hb'
  obtain ⟨od2, J2, _⟩ := J2.look
  have L2 : PySem.W.Looks (model X.prog X.w) s.heap (fillsInplaceSlot (.ref C) "add" true) false := fillsI_no I.kIn hcd hm hi
  have one : wpAny (model X.prog X.w) X.A (binaryOp1 "add" (.ref a) (.ref b)) (fun r s' => ∃ v, r = some v ∧ EP X pins σ Q v s') X.xe s := by
    refine bin1_K I.kIn J J2.type hc hs hf ?_
    refine wpAny_mono (run_fnS (us := [.ref a, .ref b]) (vs := [.ref a, .ref b]) F ⟨hr, rfl⟩ hb I (.cons rfl (.cons rfl .nil)) hsp) (fun r s' hq => ?_) fun _ _ z => z
    have hE : EP X pins σ Q r s' := hq
    obtain ⟨z, H', I', rz, q⟩ := hq
    cases r <;> first | exact hE | (cases z <;> first | (cases rz; done) | (obtain ⟨_, h⟩ := rz; cases h))
  show wpAny _ _ (inplaceOp .Add (.ref a) (.ref b)) _ _ _
  unfold inplaceOp
  refine wpAny_holding ?_
  refine wpAny_bind (J.type.here ?_)
  refine wpAny_bind (L2.here ?_)
  simp only [Bool.false_eq_true, if_false]
  refine wpAny_bind (wpAny_mono one (fun r s' hr' => ?_) fun _ _ e => e)
  obtain ⟨v, rfl, hq⟩ := hr'
  exact wpAny_pure hq
end
/-- what a class without __iadd__ says -/
def NoIAdd (K : PySem.W.Frag) (C : Addr) : Prop := ∃ cd, PySem.W.clsIn K C = some cd ∧ cd.mro = [.ref C, .type "object"] ∧ PySem.W.findIn K (.ref C) "__iadd__" = some none
theorem fs_augO {Y : Cx} {W : WX} {K0 : PySem.W.Frag} [hKK : HasK Y K0] {e : Expr} {te : TE} {w : WE} {pos pos' : Pos} {i k : Nat} {x : Str} {f C : Addr} {fd : FuncData} {ps : List Str} {sp : DSp} (hN : Y.N.Nodup) (he : FE Y W e te w) (hx0 : NoIAdd K0 C) (hc : PySem.W.selfFirst K0 C = true) (hs : PySem.W.findIn K0 (.ref C) "__add__" = some (some (.ref f))) (hf0 : PySem.W.isFn K0 (.ref f) = true)
    (F : FnOk Y.prog Y.w K0 Y.mg Y.base CX0 k f fd ps (lift K0 sp)) (hr : Room k Y.A) (hb : Binds K0 fd ps []) (hi : Y.N[i]? = some x := by rfl) (hx : Loc Y.env.scope x := by first | exact Or.inl rfl | exact Or.inr rfl)
    (hf : Y.fn x = true ∨ Y.env.scope.names.lookup x = some .local := by first | exact .inl rfl | exact .inr rfl | assumption) : FS Y W (.AugAssign (.Name x pos') .Add e pos) (tAug i te (rOpO K0 C (lift K0 sp))) (wAug i w (dAddO C sp)) := by
  obtain ⟨rfl⟩ := hKK
  obtain ⟨cd, h1, h2, h3⟩ := hx0
  exact fs_aug hN he (ip_addO F hr hc hs hf0 hb h1 h2 h3) rr_addO hi hx hf
end DP

set_option Elab.async false
set_option linter.all false
set_option maxRecDepth 100000
set_option maxHeartbeats 1000000
namespace DP
open PySem PySem.Spec PyProof.Rows L2
open Evl (Ex ex_l ex_t ex_rd fresh_back)

/-! ### a, b, .. = a list -/
def dLst (n : Nat) (r : DTgs) : DTg := fun x δ S Q => match x with | .d (.lst ds) => ds.length = n ∧ r (ds.map X.d) δ S Q | _ => False
theorem rg_lst {K : PySem.W.Frag} {n : Nat} {t : TGs} {dgs : DTgs} {ws : List Nat} (h : RGs K t dgs ws) : RG K (gLst K n t) (dLst n dgs) ws := fun A F δ S σ H v x Q Q' st r hw k => by
  unfold dLst at hw
  split at hw
  · obtain ⟨hl, q⟩ := hw
    rename_i ds
    obtain ⟨p, vs, xs, rfl, hs, rr, e, q⟩ := dIsL.ok (k := fun xs => xs = ds.map X.d ∧ dgs xs δ S Q) st r ⟨rfl, q⟩
    subst e
    exact ⟨p, vs, rfl, hs, by rw [rr.len, List.length_map]; exact hl, h A F δ S σ H vs _ Q Q' st rr q k⟩
  · exact hw.elim
theorem fg_lst {Y : Cx} {pos : Pos} {K0 : PySem.W.Frag} [hKK : HasK Y K0] {es : List Expr} {k : Nat} {t : TGs} {dgs : DTgs} {n : Nat} {ws : List Nat} (hc : Y.calm = true) (h : FGs Y es t dgs ws) (hn : (assignEach es Y.env).length = n := by rfl) (hst : (assignEach es Y.env).findIdx? (·.1) = none := by rfl) :
    FG Y (.Tuple es k pos) (gLst K0 n t) (dLst n dgs) ws := by
  obtain ⟨rfl⟩ := hKK
  exact ⟨pg_lst hc h.pg hn hst, rg_lst h.re⟩

/-! ### xs.index(k), numbers -/
def isLI (o : X) (k : List Int → Prop) : Prop := ∃ ns, o = .d (.lst (ID ns)) ∧ k ns
def wIndex (wo wa : WE) : WE := fun δ S Q E => wo δ S (fun o S1 => isLI o fun ns => wa δ S1 (fun y S2 => ∃ k : Int, y = .d (.int k) ∧ k ∈ ns ∧ Q (.d (.int (ns.idxOf k : Nat))) S2) E) E
theorem repxs_ints {K : PySem.W.Frag} {F : Hp} : ∀ {ns : List Int} {vs : List V}, RepXs K F vs ((ID ns).map X.d) → vs = ns.map V.int
  | [], _, .nil => rfl
  | n :: ns, _, .cons r t => by rw [List.map_cons, repxs_ints t, repd_int r]
theorem re_index {K : PySem.W.Frag} {W : WX} {to ta : TE} {wo wa : WE} (ho : RE K W to wo) (h : RE K W ta wa) : RE K W (tBM K "list" (rIndex K) to (tCons ta tNil)) (wIndex wo wa) := fun A F δ S σ H Q E Q' st lk hw k =>
  ho A F δ S σ H _ E _ st lk hw fun F1 S1 H1 v o st1 e1 ro ⟨ns, eo, q⟩ => by
    subst eo
    obtain ⟨p, vs, xs, rfl, hs, rr, e, _⟩ := dIsL.ok (k := fun xs => xs = (ID ns).map X.d ∧ True) st1 ro ⟨rfl, trivial⟩
    refine ⟨.inl ⟨rfl, vs, hs⟩, h A F1 δ S1 σ H1 _ E _ st1 lk q fun F2 S2 H2 u y st2 e2 ry ⟨j, ey, hj, q2⟩ => ?_⟩
    subst ey
    obtain ⟨p2, vs2, xs2, ep, hs2, rr2, e3, _⟩ := dIsL.ok (k := fun xs => xs = (ID ns).map X.d ∧ True) st2 (ro.mono e2) ⟨rfl, trivial⟩
    cases ep
    subst e3
    have hv := repxs_ints rr2
    subst hv
    have hu := repd_int ry
    subst hu
    have hlt : ns.idxOf j < ns.length := List.idxOf_lt_length_of_mem hj
    refine ⟨p, ns.map V.int, .int j, ns.idxOf j, .int j, rfl, rfl, hs2, rfl, by simp [flatV], ?_, by simp [eqV], ?_, k F2 S2 H2 _ (.d (.int _)) st2 (e1.trans e2) (Rep.int _) q2⟩
    · rw [List.getElem?_map, List.getElem?_eq_getElem hlt, List.getElem_idxOf]; rfl
    · intro m z hm hz
      rw [List.getElem?_map] at hz
      cases hz' : ns[m]? with
      | none => rw [hz'] at hz; cases hz
      | some w =>
        rw [hz'] at hz
        cases hz
        show (w == j) = false
        rw [beq_eq_false_iff_ne]
        intro e
        subst e
        obtain ⟨hm', hw⟩ := List.getElem?_eq_some_iff.mp hz'
        have := List.not_of_lt_findIdx (p := (· == w)) (xs := ns) (i := m) hm
        simp [hw] at this
theorem f_index {Y : Cx} {W : WX} {cpos apos : Pos} {o e : Expr} {to ta : TE} {wo wa : WE} {K0 : PySem.W.Frag} [hKK : HasK Y K0] (ho : FE Y W o to wo) (h : FE Y W e ta wa) (hbase : attributeBase o "index" Y.env (eval o Y.env) = eval o Y.env := by rfl)
    (hfew : ((backTo cpos (starEach [e] Y.env)).all (fun x => !x.1) && (backToKw cpos (keywordEach [] Y.env)).all (fun x => x.1.isSome) && decide ([e].length + ([] : List Keyword).length + (if ([] : List Keyword).isEmpty then 0 else 1) < 30)) = true := by rfl)
    (hline : (apos.endLine == cpos.line) = true := by rfl) (hs : starEach [e] Y.env = (false, eval e Y.env) :: starEach [] Y.env := by rfl) (hp : (backTo cpos (starEach [] Y.env)).any (·.1) = false := by rfl) :
    FE Y W (.Call (.Attribute o "index" apos) [e] [] cpos) (tBM K0 "list" (rIndex K0) to (tCons ta tNil)) (wIndex wo wa) := by
  obtain ⟨rfl⟩ := hKK
  exact ⟨pe_bm PySem.F.plainAttrs_list PySem.F.slot_list_index PySem.F.type_list_index mt_index ho.pe (fa1 h hs).pa hbase hfew hline hs hp, re_index ho.re h.re⟩
end DP
namespace PySem.AutoSeq1
open PySem PySem.Spec
set_option maxRecDepth 8000 in
theorem ext_tup_any (l : Addr) (items : Array Value) (n : Nat) (b : Addr) (items2 : Array Value) (n2 : Nat) (dd : Option Addr) (sl : Array (Option Value)) (hs0 : ¬(!items.isEmpty && Builtin.List.listTooLong (items.size + items2.size)) = true) (hs1 : items.size ≤ sizeLine) (hs2 : items.size + items2.size ≤ sizeLine + 1) :
    Meets (Builtin.«list.extend» ⟨[.ref l, .ref b], []⟩) (fun _ R s => s.heap.get? l = some { cls := .type "list", dict := none, data := .seq items n, slots := #[] } ∧ s.heap.get? b = some { cls := .type "tuple", dict := dd, data := .seq items2 n2, slots := sl } ∧ R (.ok (.ret Value.none)) { s with heap := s.heap.update l (Obj.mapSeq fun x => x ++ items2), toks := s.toks }) :=
  .of_wp fun prog w A R s h => by
    obtain ⟨hp, g, d, tk, os⟩ := s; obtain ⟨hl, hb, h⟩ := h; have f1 := idx_int; have f2 := sub_tuple_tuple; have f3 := sub_list_list; have f4 := sub_tuple_list; have f5 := sub_list_tuple;
    have hz' : (items ++ items2).size ≤ sizeLine + 1 := by rw [Array.size_append]; exact hs2
    wp_walk using (wpAny_updateSeq hl rfl (hz := hs1) (_hz' := hz')), wpAny_loadPart' hl, wpAny_loadPart' hb; exact ⟨_, rfl, h⟩
end PySem.AutoSeq1
namespace DP
open PySem PySem.Spec PyProof.Rows L2
open Evl (Ex ex_l ex_t ex_rd fresh_back)
/-! ### xs.extend(a tuple) -/
def rExtendT (K : PySem.W.Frag) : V → List V → Hp → VK → Prop := fun x vs H Q => ∃ l b xs zs, x = .ref l ∧ vs = [.ref b] ∧ H l = some (.lst xs) ∧ SqT K H b zs ∧ xs.length + zs.length ≤ sizeLine ∧ Q .non (upd H l (.lst (xs ++ zs)))
theorem mt_extendT {X : Cx} : MtR X "list.extend" (rExtendT X.K) := by
  intro pins s σ H x vs v us Q I rx rv h
  obtain ⟨l, b, xs, zs, rfl, rfl, hH, hB, hz, q⟩ := h
  cases rx
  obtain ⟨u, rfl, ru⟩ := rv.one
  cases ru
  obtain ⟨z, its, n, r, hl, e⟩ := I.lstM hH
  obtain ⟨its2, r2, ⟨o, e2, hc, n2, hd⟩, _⟩ := I.tuple hB
  obtain ⟨oc, od, dt, sl⟩ := o
  simp only at hc hd
  subst hc hd
  have hl2 := Paired.length r2
  have hsz : its.toArray.size + its2.toArray.size ≤ sizeLine := by rw [List.size_toArray, List.size_toArray]; omega
  have hlong : ¬ (!its.toArray.isEmpty && Builtin.List.listTooLong (its.toArray.size + its2.toArray.size)) = true := by
    rw [notLongL hsz, Bool.and_false]
    exact Bool.false_ne_true
  refine call_meets PySem.F.slot_list_extend ⟨_, e, rfl⟩ PySem.F.entry_list_extend (PySem.F.args_list_extend_2 _ _)
    (PySem.AutoSeq1.ext_tup_any l its.toArray n b its2.toArray n2 od sl hlong (by rw [List.size_toArray]; omega) (by omega)) ⟨e, e2, ?_⟩
  refine ⟨.non, _, I.lset (its' := its ++ its2) hH e (by simp) (r.append r2) ?_, rfl, q⟩
  rw [List.length_append]
  omega
def dExtendT : DRM := fun a xs S Q => match xs with
  | [.d (.tup ds)] => lstAt S a fun i ys => ys.length + ds.length ≤ sizeLine ∧ Q (.d .non) (S.set i (a, .lst (ys ++ ds.map X.d)))
  | _ => False
theorem rm_extendT {K : PySem.W.Frag} : RM K (rExtendT K) dExtendT := fun A F δ S σ H a vs xs Q Q' st rs h k => by
  unfold dExtendT at h
  split at h
  · obtain ⟨v, rfl, r⟩ := rs.one
    obtain ⟨i, ys, ws, e, hf, hp, rr, hl, q⟩ := lstAt.ok st h
    cases r with
    | tup h1 h2 => exact ⟨a, _, ws, _, rfl, rfl, hp, ex_t st.fr h1, by rw [rr.len, h2.len]; exact hl, goW st k e hf (rr.app h2.xs) (x := .d .non) Rep.non q⟩
  · exact h.elim
theorem f_extendT {Y : Cx} {W : WX} {cpos apos : Pos} {o e : Expr} {to ta : TE} {wo wa : WE} {K0 : PySem.W.Frag} [hKK : HasK Y K0] (ho : FE Y W o to wo) (h : FE Y W e ta wa) (hbase : attributeBase o "extend" Y.env (eval o Y.env) = eval o Y.env := by rfl)
    (hfew : ((backTo cpos (starEach [e] Y.env)).all (fun x => !x.1) && (backToKw cpos (keywordEach [] Y.env)).all (fun x => x.1.isSome) && decide ([e].length + ([] : List Keyword).length + (if ([] : List Keyword).isEmpty then 0 else 1) < 30)) = true := by rfl)
    (hline : (apos.endLine == cpos.line) = true := by rfl) (hs : starEach [e] Y.env = (false, eval e Y.env) :: starEach [] Y.env := by rfl) (hp : (backTo cpos (starEach [] Y.env)).any (·.1) = false := by rfl) :
    FE Y W (.Call (.Attribute o "extend" apos) [e] [] cpos) (tBM K0 "list" (rExtendT K0) to (tCons ta tNil)) (wBM dExtendT wo (wCons wa wNil)) := by
  obtain ⟨rfl⟩ := hKK
  exact ⟨pe_bm PySem.F.plainAttrs_list PySem.F.slot_list_extend PySem.F.type_list_extend mt_extendT ho.pe (fa1 h hs).pa hbase hfew hline hs hp, re_bm rm_extendT ho.re (fa1 h hs).re⟩
section
variable {S : Store} {Q : XQ} {δ : Env} {E : XR}
@[simp] theorem x_extendT {a : Addr} {ds : List D} : dExtendT a [.d (.tup ds)] S Q = ∃ (i : Nat) (ys : List X), S[i]? = some (a, .lst ys) ∧ (ys.length + ds.length ≤ sizeLine ∧ Q (.d .non) (S.set i (a, .lst (ys ++ ds.map X.d)))) := rfl
@[simp] theorem x_dLst {n : Nat} {r : DTgs} {ds : List D} {Q : Env → Store → Prop} : dLst n r (.d (.lst ds)) δ S Q = (ds.length = n ∧ r (ds.map X.d) δ S Q) := rfl
@[simp] theorem x_index {wo wa : WE} : wIndex wo wa δ S Q E = wo δ S (fun o S1 => isLI o fun ns => wa δ S1 (fun y S2 => ∃ k : Int, y = .d (.int k) ∧ k ∈ ns ∧ Q (.d (.int (ns.idxOf k : Nat))) S2) E) E := rfl
end
end DP

set_option Elab.async false
set_option linter.all false
set_option maxRecDepth 100000
set_option maxHeartbeats 1000000
namespace DP
open PySem PySem.Spec PyProof.Rows L2
open Evl (Ex ex_l ex_t ex_rd fresh_back)

/-! ### enumerate(a list) -/
def enumX (ds : List D) : List X := ds.zipIdx.map fun p => .d (.tup [.int (p.2 : Nat), p.1])
def wIEnum (w : WE) : WI := fun δ S R E => w δ S (fun x S1 => match x with
  | .d (.lst ds) => R (enumX ds) S1
  | _ => False) E
theorem enumX_len (ds : List D) : (enumX ds).length = ds.length := by unfold enumX; rw [List.length_map, List.length_zipIdx]
theorem reps_get {K : PySem.W.Frag} {F : Hp} {i : Nat} {d : D} {vs : List V} {ds : List D} (h : RepXs K F vs (ds.map X.d)) (e : ds[i]? = some d) : ∃ v, vs[i]? = some v ∧ Rep K F v d := by
  obtain ⟨v, h1, h2⟩ := h.get (show (ds.map X.d)[i]? = some (X.d d) by rw [List.getElem?_map, e]; rfl)
  exact ⟨v, h1, h2⟩
theorem ri_enum {K : PySem.W.Frag} {W : WX} {te : TE} {w : WE} (h : RE K W te w) : RI K W (iEnum K (tCons te tNil)) (wIEnum w) := fun A F δ S σ H R E R' st lk hw k =>
  h A F δ S σ H _ E _ st lk hw fun F1 S1 H1 v x st1 e1 r q => by
    split at q
    · rename_i ds
      cases r with
      | @lst p vs _ h1 h2 =>
        have at_ : ∀ (F H : Hp), Ex F1 F → Ex F H → SqL K H p vs := fun F H a b => SqL.of (b _ _ (a _ _ h1))
        refine ⟨p, vs, rfl, SqL.of (st1.fr _ _ h1), k F1 S1 H1 _ _ st1 e1 ⟨fun i F H hi a b => ?_, fun i F H v H' x hx a b hy => ?_, fun F H a b => ?_⟩ q⟩
        · rw [enumX_len] at hi
          have hv : i < vs.length := by rw [h2.len]; exact hi
          exact ⟨vs, vs[i], at_ F H a b, List.getElem?_eq_getElem hv⟩
        · obtain ⟨T, u, rfl, hT, rfl, hu⟩ := hy
          have hu := hu vs (at_ F H a b)
          unfold enumX at hx
          rw [List.getElem?_map, List.getElem?_zipIdx] at hx
          cases hd : ds[i]? with
          | none => rw [hd] at hx; cases hx
          | some d =>
            rw [hd] at hx
            cases hx
            obtain ⟨u', hu', ru⟩ := reps_get h2.xs hd
            rw [hu] at hu'
            cases hu'
            have hF : F T = none := fresh_back b hT
            have ex : Ex F (upd F T (.tup [.int (i : Nat), u])) := fun c o e => by
              rw [upd_ne (fun z => by rw [z, hF] at e; cases e)]; exact e
            refine ⟨upd F T (.tup [.int (i : Nat), u]), .inr ⟨T, _, hT, rfl, rfl⟩, ?_⟩
            have e0 : 0 + i = i := Nat.zero_add i
            refine Rep.tup (SqT.of upd_same) ?_
            have r1 : Rep K (upd F T (.tup [.int (i : Nat), u])) u d := Rep.mono ex (Rep.mono a ru)
            simp only [e0]
            exact .cons (Rep.int _) (.cons r1 .nil)
        · exact ⟨vs, at_ F H a b, by rw [enumX_len, h2.len]; exact Nat.le_refl _⟩
    · exact q.elim
theorem fi_enum {Y : Cx} {W : WX} {K0 : PySem.W.Frag} [hKK : HasK Y K0] {l : Expr} {te : TE} {w : WE} {p pos tpos : Pos} {elts : List Expr} {kk : Nat} (hm : Y.mg "enumerate" = none) (h : FE Y W l te w) (hg : Gl Y "enumerate" := by rfl) (hs : starEach [l] Y.env = [(false, eval l Y.env)] := by rfl) :
    FI Y W (.Tuple elts kk tpos) (.Call (.Name "enumerate" p) [l] [] pos) (iEnum K0 (tCons te tNil)) (wIEnum w) := by
  obtain ⟨rfl⟩ := hKK
  exact ⟨pi_enum hg hm (fa1 h hs).pa hs, ri_enum h.re⟩
@[simp] theorem x_enum {w : WE} {δ : Env} {S : Store} {R : List X → Store → Prop} {E : XR} : wIEnum w δ S R E = w δ S (fun x S1 => match x with
  | .d (.lst ds) => R (enumX ds) S1
  | _ => False) E := rfl
end DP

set_option Elab.async false
set_option linter.all false
set_option maxRecDepth 100000
set_option maxHeartbeats 1000000
namespace DP
open PySem PySem.Spec PyProof.Rows L2
open Evl (Ex ex_l ex_t ex_rd fresh_back)

/-! ### dict comprehensions whose keys are numbers, none twice -/
def kvOf {α : Type} (kf : α → Int) (vf : α → D) (l : List α) : List (Key × D) := l.map fun a => (.inl (kf a), vf a)
theorem put_new {kvs : List (Key × D)} {k : Key} {v : D} (h : ∀ kv ∈ kvs, kv.1 ≠ k) : putKD kvs k v = kvs ++ [(k, v)] := by
  unfold putKD
  rw [if_neg]
  rw [List.any_eq_true]
  rintro ⟨kv, h1, h2⟩
  exact h kv h1 (of_decide_eq_true h2)
theorem dcN {α : Type} {dg : DTg} {wt : WT} {wk wv : WE} {Q : XQ} {δ0 : Env} {S0 : Store} {n : Nat} (inj : α → X) (kf : α → Int) (vf : α → D) (l : List α) (hnd : (l.map kf).Nodup) (hl : l.length < sizeLine)
    (hs : ∀ a ∈ l, ∀ (S : Store) (K : X → X → Store → Prop) (Kf : Store → Prop), (∃ c, S = S0 ++ [c]) → K (.d (.int (kf a))) (.d (vf a)) S →
      dg (inj a) δ0 S fun δ2 S2 => wt δ2 S2 (fun b S3 => if b = true then wk δ2 S3 (fun y S4 => wv δ2 S4 (fun z S5 => K y z S5) E0') E0' else Kf S3) E0')
    (ad : Addr) (q : Q (.h ad) (S0 ++ [(ad, .dct (kvOf kf vf l))])) (hn : n = S0.length := by simp) : dcD dg wt wk wv n ad Q δ0 (l.map inj) (S0 ++ [(ad, .dct [])]) := by
  subst hn
  have key : ∀ (r acc : List α), ((acc ++ r).map kf).Nodup → acc.length + r.length < sizeLine → (∀ a ∈ r, a ∈ l) → Q (.h ad) (S0 ++ [(ad, .dct (kvOf kf vf (acc ++ r)))]) → dcD dg wt wk wv S0.length ad Q δ0 (r.map inj) (S0 ++ [(ad, .dct (kvOf kf vf acc))]) := by
    intro r
    induction r with
    | nil =>
      intro acc _ _ _ q
      rw [List.append_nil] at q
      exact q
    | cons a r ih =>
      intro acc hd hz hm q
      rw [List.length_cons] at hz
      show dg (inj a) δ0 _ _
      refine hs a (hm a List.mem_cons_self) _ (fun y z S5 => match z with
        | .d d => ∃ kvs k, keyX y = some k ∧ S5[S0.length]? = some (ad, .dct kvs) ∧ kvs.length < sizeLine ∧ dcD dg wt wk wv S0.length ad Q δ0 (r.map inj) (S5.set S0.length (ad, .dct (putKD kvs k d)))
        | _ => False) _ ⟨_, rfl⟩ ?_
      refine ⟨kvOf kf vf acc, .inl (kf a), rfl, by simp, by unfold kvOf; rw [List.length_map]; omega, ?_⟩
      rw [List.set_append_right _ _ (Nat.le_refl _), Nat.sub_self, List.set_cons_zero]
      rw [put_new fun kv hkv => ?_]
      · have e : kvOf kf vf acc ++ [(Sum.inl (kf a), vf a)] = kvOf kf vf (acc ++ [a]) := by unfold kvOf; rw [List.map_append]; rfl
        rw [e]
        exact ih (acc ++ [a]) (by rw [List.append_assoc]; exact hd) (by rw [List.length_append]; simp; omega) (fun x hx => hm x (List.mem_cons_of_mem _ hx)) (by rw [List.append_assoc]; exact q)
      · obtain ⟨b, hb, rfl⟩ := List.mem_map.mp hkv
        intro e
        have e : kf b = kf a := Sum.inl.inj e
        rw [List.map_append, List.nodup_append] at hd
        exact hd.2.2 (kf b) (List.mem_map.mpr ⟨b, hb, rfl⟩) (kf a) (by simp) e
  exact key l [] (by simpa using hnd) (by simpa using hl) (fun _ h => h) (by simpa using q)

/-! ### places -/
theorem enumX_ID (os : List Int) : enumX (ID os) = os.zipIdx.map fun p => X.d (.tup [.int (p.2 : Nat), .int p.1]) := by
  unfold enumX ID
  rw [List.zipIdx_map, List.map_map]; rfl
theorem val_place {c : Int} : ∀ (os : List Int) (k : Nat), valKD (kvOf (fun p : Int × Nat => p.1) (fun p => .int (p.2 : Nat)) (os.zipIdx k)) (.inl c) = if c ∈ os then some (.int ((k + os.idxOf c : Nat))) else none
  | [], k => rfl
  | x :: os, k => by
    rw [List.zipIdx_cons]
    have ih := val_place (c := c) os (k + 1)
    unfold kvOf valKD at ih ⊢
    rw [List.map_cons, List.find?_cons]
    by_cases e : x = c
    · subst e
      simp
    · have e2 : (decide ((Sum.inl x : Key) = .inl c)) = false := by simpa using e
      simp only [e2]
      rw [ih, List.idxOf_cons]
      have e3 : (x == c) = false := by simpa using e
      rw [e3]
      by_cases h : c ∈ os
      · rw [if_pos h, if_pos (List.mem_cons_of_mem _ h)]
        simp
        omega
      · rw [if_neg h, if_neg (by simp [h]; exact fun z => e z.symm)]
end DP
namespace DP
open PySem L2
@[simp] theorem x_dDctD {kvs : List (Key × D)} {S : Store} {k : List (Key × D) → Prop} : dDct (.d (.dct kvs)) S k = k kvs := rfl
@[simp] theorem x_dget {wd wy : WE} {δ : Env} {S : Store} {Q : XQ} {E : XR} : wDGet wd wy δ S Q E = wd δ S (fun x S1 => wy δ S1 (fun y S2 => ∃ k, keyX y = some k ∧ dDct x S2 fun kvs => ∃ d, valKD kvs k = some d ∧ Q (.d d) S2) E) E := rfl
end DP

set_option Elab.async false
set_option linter.all false
set_option maxRecDepth 100000
set_option maxHeartbeats 1000000
namespace DP
open PySem PySem.Spec PyProof.Rows L2
open Evl (Ex ex_l ex_t ex_rd fresh_back)

/-! ### enumerate(a list or a tuple) -/
set_option maxHeartbeats 1000000 in
theorem meets_enum1 {v : Value} {o : Obj} {H : Heap → Prop} (B : Begins v o H) :
    Meets (Builtin.«enumerate.__new__» ⟨[.type "enumerate", v], []⟩) (fun _ R s => H s.heap ∧
      R (.ok (.ret (.ref (s.heap.push o).objs.size))) { s with heap := (s.heap.push o).push { cls := .type "enumerate", data := .fields #[.none, .bool false, .ref s.heap.objs.size, rawInt 0, .none, .none] } }) :=
  .of_wp fun prog w A R s h => by
    obtain ⟨hp, g, d, tk, os⟩ := s; obtain ⟨h1, h⟩ := h
    have hsub := sub_enumerate
    have q1 : ∀ {A' : Around} {E : Value → Shared → Prop} {Q : Value → Shared → Prop}, Q (.ref hp.objs.size) ⟨hp.push o, g, d, tk, os⟩ → wpAny (model prog w) A' (pyIter v) Q E ⟨hp, g, d, tk, os⟩ :=
      fun q => B.iter prog w _ _ ⟨hp, g, d, tk, os⟩ _ h1 q
    wp_walk using q1
    refine wpAny_stack_any fun st => wpAny_pure ?_
    split
    · rename_i c _ _ _ _ _
      cases (c == Value.type "enumerate")
      · wp_walk using q1
        exact ⟨_, rfl, h⟩
      · wp_walk using q1
        exact ⟨_, rfl, h⟩
    · wp_walk using q1
      exact ⟨_, rfl, h⟩
section
variable {prog : Program} {w : World} {A : Around} {E : Value → Shared → Prop} {s : Shared}
theorem enum_begins1 {v : Value} {o : Obj} {H : Heap → Prop} {Q : Value → Shared → Prop} (B : Begins v o H) (h1 : H s.heap)
    (h : ∀ h', IsEnum h' (s.heap.objs.size + 1) s.heap.objs.size 0 .none → h'.get? s.heap.objs.size = some o → h'.objs.size = s.heap.objs.size + 2 →
      (∀ b o, s.heap.get? b = some o → h'.get? b = some o) → Q (.ref (s.heap.objs.size + 1)) { s with heap := h' }) :
    wpAny (model prog w) A (call (.type "enumerate") [v]) Q E s := by
  refine callType_new F.called_enumerate (by decide) (F.typeCall_enumerate_1 _) (F.newCall_enumerate_1 _) (fun obj => F.args_object_init_2 obj _) F.entry_enumerate_new
    (meets_enum1 B) ⟨h1, ?_⟩
  have hz : (s.heap.push o).objs.size = s.heap.objs.size + 1 := Heap.size_push ..
  show _ ∧ _
  rw [hz]
  have he : IsEnum ((s.heap.push o).push { cls := .type "enumerate", data := .fields #[.none, .bool false, .ref s.heap.objs.size, rawInt 0, .none, .none] }) (s.heap.objs.size + 1) s.heap.objs.size 0 .none := by
    have := Heap.get?_push_size (s.heap.push o) (o := { cls := .type "enumerate", data := .fields #[.none, .bool false, .ref s.heap.objs.size, rawInt 0, .none, .none] }) rfl
    rw [hz] at this; exact this
  refine ⟨⟨_, he, rfl⟩, h _ he (Heap.get?_push_of_some _ (Heap.get?_push_size _ B.free)) (by rw [Heap.size_push, hz]) fun b o x => Heap.get?_push_of_some _ (Heap.get?_push_of_some _ x)⟩
end
def Itet (K : PySem.W.Frag) (a : Addr) : It :=
  ⟨fun i H => ∃ (xs : List V) (x : V), SqT K H a xs ∧ xs[i]? = some x, fun i H v H' => ∃ T x, v = .ref T ∧ H T = none ∧ H' = upd H T (.tup [.int (i : Nat), x]) ∧ ∀ xs, SqT K H a xs → xs[i]? = some x, fun i H => ∃ xs : List V, SqT K H a xs ∧ xs.length ≤ i⟩
theorem turn_enumT {P : Program} {w : World} {K : PySem.W.Frag} {elts : List Expr} {kk : Nat} {tpos : Pos} (a e it : Addr) :
    Turn P w K (.Tuple elts kk tpos) (Itet K a) [e, it] e (fun i h => (∃ old, IsEnum h e it ((i : Nat) : Int) old) ∧ h.IsTupleIter it a i ∧ e ≠ it) where
  mem := by simp
  obj := fun i h st b hb => by
    obtain ⟨⟨old, he⟩, ⟨o, ho, hc, hd⟩, _⟩ := st
    have e' : b = e ∨ b = it := by simpa using hb
    rcases e' with z | z
    · rw [z]; exact ⟨_, he, fun v q => nomatch q⟩
    · rw [z]; exact ⟨o, ho, fun v q => by rw [hd] at q; cases q⟩
  keep := fun i h h' st k => let ⟨⟨old, he⟩, hi, hne⟩ := st; ⟨⟨old, k e (by simp) _ he⟩, hi.at fun o q => k it (by simp) o q, hne⟩
  item := by
    intro X hP hw hK hc i pins s σ H E I hf st hg
    subst hP hw hK
    obtain ⟨⟨old, he⟩, hit, hne⟩ := st
    obtain ⟨xs, x, hq, hx⟩ := hg
    obtain ⟨its, rv, p, hz⟩ := I.tuple hq
    obtain ⟨u, hu, ru⟩ := rv.get hx
    have hT : s.heap.IsTuple a its.toArray := p
    have hel : e < s.heap.objs.size := Heap.lt_size he
    have hil : it < s.heap.objs.size := by obtain ⟨_, q, _⟩ := hit; exact Heap.lt_size q
    have hae : e ≠ a := fun z => by
      obtain ⟨o, ho, hcl, _⟩ := hT
      rw [← z, he] at ho; cases ho; simp at hcl
    have hai : a ≠ it := fun z => by
      obtain ⟨o, ho, hcl, _⟩ := hT
      obtain ⟨o', ho', hcl', _⟩ := hit
      rw [z, ho'] at ho; cases ho; rw [hcl'] at hcl; exact absurd hcl (by decide)
    have D := Draws.tuple (prog := X.prog) (w := X.w) (A := X.A.in1) (I.ok.hd hc) it a hai its.toArray
    refine wpAny_pyNext_enum_itemD D he ⟨hit, hT⟩ (by have := rv.length; have := (List.getElem?_eq_some_iff.mp hx).1; simp; omega) hne (by simp [hne, hae]) fun x' h' tk hP ho hs' hT' hsz hk => ?_
    have hxu : x' = u := by
      have h1 : its[i]? = some x' := by simpa using hP
      have h2 : its[i]? = some u := by simpa using hu
      rw [h1] at h2; cases h2; rfl
    subst hxu
    refine ⟨_, rfl, wpAny_letOwnedTupleGo_enum (s := { s with heap := h', toks := tk + 1 }) ho fun h'' he' sb => ?_⟩
    have hT2 : h''.get? s.heap.objs.size = some { cls := .type "tuple", data := .seq #[.int i tk, x'] } := (sb.2 _ (Nat.ne_of_gt hel)).trans hT'
    have new : ObjOk X.prog X.w (upd H s.heap.objs.size (.tup [.int (i : Nat), x])) h'' s.heap.objs.size (.tup [.int (i : Nat), x]) :=
      ⟨by show 2 ≤ sizeLine; decide, [.int i tk, x'], .cons ⟨_, rfl⟩ (.cons ru .nil), ⟨_, hT2, rfl, _, rfl⟩⟩
    have I1 : Inv X pins σ (upd H s.heap.objs.size (.tup [.int (i : Nat), x])) { s with heap := h'', toks := tk + 1 } :=
      I.turnedNew (ch := [e, it]) (fun b ob hb q => (sb.2 b (fun z => hb (by simp [z]))).trans (hk b ob (fun z => hb (by simp [z])) (fun z => hb (by simp [z])) q)) hf (Nat.le_refl _) new
    refine ⟨.ref s.heap.objs.size, _, I1, rfl, ⟨_, x, rfl, I.hok.fresh (Nat.le_refl _), rfl, fun ys hy => by rw [I.tuple_inj hy hq]; exact hx⟩, ⟨⟨x', ?_⟩, hs'.1.at fun o q => (sb.2 it (Ne.symm hne)).trans q, hne⟩, fun b hb => ?_⟩
    · have e1 : ((i + 1 : Nat) : Int) = (i : Int) + 1 := by omega
      rw [e1]; exact he'
    · have hb' : b < s.heap.objs.size := by
        have e' : b = e ∨ b = it := by simpa using hb
        rcases e' with z | z
        · rw [z]; exact hel
        · rw [z]; exact hil
      rw [upd_ne (Nat.ne_of_lt hb')]
      exact (hf b hb).1
  done := by
    intro X hP hw hK hc i pins s σ H E I hf st hg
    subst hP hw hK
    obtain ⟨⟨old, he⟩, hit, hne⟩ := st
    obtain ⟨xs, hq, hx⟩ := hg
    obtain ⟨its, rv, p, hz⟩ := I.tuple hq
    obtain ⟨f0, f1, f2, f3, f4, f5⟩ := hf it (by simp)
    have hl := rv.length
    have hT : s.heap.IsTuple a its.toArray := p
    have hai : a ≠ it := fun z => by
      obtain ⟨o, ho, hcl, _⟩ := hT
      obtain ⟨o', ho', hcl', _⟩ := hit
      rw [z, ho'] at ho; cases ho; rw [hcl'] at hcl; exact absurd hcl (by decide)
    have hT0 : s.TypeIs (.ref e) "enumerate" := ⟨_, he, rfl⟩
    unfold pyNext
    refine wpAny_bind (wpAny_attempt (wpAny_callSpecial?_slot (name := Str.ofString "__next__") hT0 F.slot_enumerate_next
      (wpAny_call_entry F.slot_enumerate_next hT0 F.entry_enumerate_next ?_ (F.args_enumerate_next_1 _))))
    show wpAny _ _ (field (.ref e) 2 >>= _) _ _ _
    refine wpAny_bind (wpAny_field he rfl (x := .ref it) rfl ?_)
    refine wpAny_bind (wpAny_nextOf_tuple_end (I.ok.hd hc) hit hT (by simp; omega) fun h' x he' hx' => ?_)
    obtain ⟨o, ho, hc⟩ := hx'
    refine wpAny_bind (wpAny_isInstance (T := "StopIteration") (b := true) ⟨o, ho, hc⟩ isSubtype_stop ?_)
    exact wpAny_pure ⟨rfl, I.turned (t' := s.toks) (fun b o hb q => he' b o hb q) f0 f1 f3 f4 f5⟩
  self := fun A i s Q E st h => let ⟨⟨_, he⟩, _⟩ := st; wpAny_pyIter_enum he h
def iEnumA (K : PySem.W.Frag) (ta : TA) : TI := fun σ H R => ta σ H fun vs H1 => ∃ a, vs = [.ref a] ∧ (((∃ xs, SqL K H1 a xs) ∧ R (Ite K a) H1) ∨ ((∃ xs, SqT K H1 a xs) ∧ R (Itet K a) H1))
theorem pi_enumA {X : Cx} {e : Expr} {ta : TA} {p pos tpos : Pos} {elts : List Expr} {kk : Nat} (hg : Gl X "enumerate") (hm : X.mg "enumerate" = none) (ha : PA X [e] ta) (hs : starEach [e] X.env = [(false, eval e X.env)] := by rfl) :
    PI X (.Tuple elts kk tpos) (.Call (.Name "enumerate" p) [e] [] pos) (iEnumA X.K ta) := by
  refine ⟨fun pins s σ H R I h => ?_⟩
  refine Call_ (ld_blt I hg hm boot_enumerate (PyProof.Rows.callWith_type1 (thn (ha.run pos pins s σ H _ I h) fun us s1 ⟨vs, H1, I1, r1, q1⟩ => ?_) hs rfl))
  obtain ⟨a, ex, q⟩ := q1
  subst ex
  cases r1 with
  | cons r rr =>
    cases rr
    cases r
    have fin : ∀ b ∈ [s1.heap.objs.size + 1, s1.heap.objs.size], FpOk X pins H1 b := fun b hb => by
      have e' : b = s1.heap.objs.size + 1 ∨ b = s1.heap.objs.size := by simpa using hb
      have hle : s1.heap.objs.size ≤ b := by
        rcases e' with z | z
        · rw [z]; exact Nat.le_add_right _ _
        · rw [z]; exact Nat.le_refl _
      exact I1.fpOk hle (I1.hok.fresh hle)
    rcases q with ⟨⟨xs, hq⟩, q⟩ | ⟨⟨xs, hq⟩, q⟩
    · obtain ⟨its, rv, p', hz⟩ := I1.list hq
      refine call_enumerate_list p'.isList fun h' he hit hsz hk => wpAny_pyIter_enum he ?_
      have I2 : Inv X pins σ H1 { s1 with heap := h' } := I1.kept (t' := s1.toks) hk
      exact ⟨s1.heap.objs.size + 1, [s1.heap.objs.size + 1, s1.heap.objs.size], _, _, H1, rfl, I2, turn_enum a (s1.heap.objs.size + 1) s1.heap.objs.size, ⟨⟨.none, he⟩, hit, Nat.succ_ne_self _⟩, fin, q⟩
    · obtain ⟨its, rv, p', hz⟩ := I1.tuple hq
      have hT : s1.heap.IsTuple a its.toArray := p'
      refine enum_begins1 (begins_tuple a its.toArray) hT fun h' he hit hsz hk => wpAny_pyIter_enum he ?_
      have I2 : Inv X pins σ H1 { s1 with heap := h' } := I1.kept (t' := s1.toks) hk
      exact ⟨s1.heap.objs.size + 1, [s1.heap.objs.size + 1, s1.heap.objs.size], _, _, H1, rfl, I2, turn_enumT a (s1.heap.objs.size + 1) s1.heap.objs.size, ⟨⟨.none, he⟩, ⟨_, hit, rfl, rfl⟩, Nat.succ_ne_self _⟩, fin, q⟩
def wIEnumA (w : WE) : WI := fun δ S R E => w δ S (fun x S1 => match x with
  | .d d => (match seqD d with | some (_, ds) => R (enumX ds) S1 | none => False)
  | _ => False) E
theorem ri_enumA {K : PySem.W.Frag} {W : WX} {te : TE} {w : WE} (h : RE K W te w) : RI K W (iEnumA K (tCons te tNil)) (wIEnumA w) := fun A F δ S σ H R E R' st lk hw k =>
  h A F δ S σ H _ E _ st lk hw fun F1 S1 H1 v x st1 e1 r q => by
    split at q
    · rename_i d
      have r : Rep K F1 v d := r
      split at q
      · rename_i b ds e
        have lists : ∀ (p : Addr) (vs : List V), v = .ref p → (∀ F H : Hp, Ex F1 F → Ex F H → SqL K H p vs) → SqL K H1 p vs → Reps K F1 vs ds → iEnumA K (fun σ H Q => Q [v] H) σ H1 R' := fun p vs ev at_ sq h2 => by
          refine ⟨p, by rw [ev], .inl ⟨⟨vs, sq⟩, k F1 S1 H1 _ _ st1 e1 ⟨fun i F H hi a b => ?_, fun i F H v H' x hx a b hy => ?_, fun F H a b => ?_⟩ q⟩⟩
          · rw [enumX_len] at hi
            have hv : i < vs.length := by rw [h2.len]; exact hi
            exact ⟨vs, vs[i], at_ F H a b, List.getElem?_eq_getElem hv⟩
          · obtain ⟨T, u, rfl, hT, rfl, hu⟩ := hy
            have hu := hu vs (at_ F H a b)
            unfold enumX at hx
            rw [List.getElem?_map, List.getElem?_zipIdx] at hx
            cases hd : ds[i]? with
            | none => rw [hd] at hx; cases hx
            | some d =>
              rw [hd] at hx
              cases hx
              obtain ⟨u', hu', ru⟩ := reps_get h2.xs hd
              rw [hu] at hu'
              cases hu'
              have hF : F T = none := fresh_back b hT
              have ex : Ex F (upd F T (.tup [.int (i : Nat), u])) := fun c o e => by
                rw [upd_ne (fun z => by rw [z, hF] at e; cases e)]; exact e
              refine ⟨upd F T (.tup [.int (i : Nat), u]), .inr ⟨T, _, hT, rfl, rfl⟩, ?_⟩
              have e0 : 0 + i = i := Nat.zero_add i
              refine Rep.tup (SqT.of upd_same) ?_
              have r1 : Rep K (upd F T (.tup [.int (i : Nat), u])) u d := Rep.mono ex (Rep.mono a ru)
              simp only [e0]
              exact .cons (Rep.int _) (.cons r1 .nil)
          · exact ⟨vs, at_ F H a b, by rw [enumX_len, h2.len]; exact Nat.le_refl _⟩
        have tups : ∀ (p : Addr) (vs : List V), v = .ref p → (∀ F H : Hp, Ex F1 F → Ex F H → SqT K H p vs) → SqT K H1 p vs → Reps K F1 vs ds → iEnumA K (fun σ H Q => Q [v] H) σ H1 R' := fun p vs ev at_ sq h2 => by
          refine ⟨p, by rw [ev], .inr ⟨⟨vs, sq⟩, k F1 S1 H1 _ _ st1 e1 ⟨fun i F H hi a b => ?_, fun i F H v H' x hx a b hy => ?_, fun F H a b => ?_⟩ q⟩⟩
          · rw [enumX_len] at hi
            have hv : i < vs.length := by rw [h2.len]; exact hi
            exact ⟨vs, vs[i], at_ F H a b, List.getElem?_eq_getElem hv⟩
          · obtain ⟨T, u, rfl, hT, rfl, hu⟩ := hy
            have hu := hu vs (at_ F H a b)
            unfold enumX at hx
            rw [List.getElem?_map, List.getElem?_zipIdx] at hx
            cases hd : ds[i]? with
            | none => rw [hd] at hx; cases hx
            | some d =>
              rw [hd] at hx
              cases hx
              obtain ⟨u', hu', ru⟩ := reps_get h2.xs hd
              rw [hu] at hu'
              cases hu'
              have hF : F T = none := fresh_back b hT
              have ex : Ex F (upd F T (.tup [.int (i : Nat), u])) := fun c o e => by
                rw [upd_ne (fun z => by rw [z, hF] at e; cases e)]; exact e
              refine ⟨upd F T (.tup [.int (i : Nat), u]), .inr ⟨T, _, hT, rfl, rfl⟩, ?_⟩
              have e0 : 0 + i = i := Nat.zero_add i
              refine Rep.tup (SqT.of upd_same) ?_
              have r1 : Rep K (upd F T (.tup [.int (i : Nat), u])) u d := Rep.mono ex (Rep.mono a ru)
              simp only [e0]
              exact .cons (Rep.int _) (.cons r1 .nil)
          · exact ⟨vs, at_ F H a b, by rw [enumX_len, h2.len]; exact Nat.le_refl _⟩
        cases r with
        | tup h1 h2 => cases e; exact tups _ _ rfl (fun F H a b => ex_t b (ex_t a h1)) (ex_t st1.fr h1) h2
        | lst h1 h2 => cases e; exact lists _ _ rfl (fun F H a b => SqL.of (b _ _ (a _ _ h1))) (SqL.of (st1.fr _ _ h1)) h2
        | scr h1 h2 => cases e; exact lists _ _ rfl (fun F H a b => ex_l b (ex_l a h1)) (ex_l st1.fr h1) h2
        | _ => cases e
      · exact q.elim
    · exact q.elim
theorem fi_enumA {Y : Cx} {W : WX} {K0 : PySem.W.Frag} [hKK : HasK Y K0] {l : Expr} {te : TE} {w : WE} {p pos tpos : Pos} {elts : List Expr} {kk : Nat} (hm : Y.mg "enumerate" = none) (h : FE Y W l te w) (hg : Gl Y "enumerate" := by rfl) (hs : starEach [l] Y.env = [(false, eval l Y.env)] := by rfl) :
    FI Y W (.Tuple elts kk tpos) (.Call (.Name "enumerate" p) [l] [] pos) (iEnumA K0 (tCons te tNil)) (wIEnumA w) := by
  obtain ⟨rfl⟩ := hKK
  exact ⟨pi_enumA hg hm (fa1 h hs).pa hs, ri_enumA h.re⟩
@[simp] theorem x_enumA {w : WE} {δ : Env} {S : Store} {R : List X → Store → Prop} {E : XR} : wIEnumA w δ S R E = w δ S (fun x S1 => match x with
  | .d d => (match seqD d with | some (_, ds) => R (enumX ds) S1 | none => False)
  | _ => False) E := rfl
end DP

set_option Elab.async false
set_option linter.all false
set_option maxRecDepth 100000
set_option maxHeartbeats 1000000
namespace DP
open PySem PySem.Spec PyProof.Rows L2
open Evl (Ex ex_l ex_t ex_rd fresh_back)

/-! ### data of any depth in a tuple of data -/
section
variable {X : Cx}
def rInDT (K : PySem.W.Frag) : R2 := fun x y H Q => ∃ d ds, Dp K H x d ∧ Dp K H y (.tuple ds) ∧ SeqAt.shaped d = true ∧ SeqAt.shaped (.tuple ds) = true ∧ Q (.bl (ds.any fun z => PyData.eqv z d)) H
def rNotInDT (K : PySem.W.Frag) : R2 := fun x y H Q => ∃ d ds, Dp K H x d ∧ Dp K H y (.tuple ds) ∧ SeqAt.shaped d = true ∧ SeqAt.shaped (.tuple ds) = true ∧ Q (.bl (!ds.any fun z => PyData.eqv z d)) H
theorem op_inDT (hu : X.A.units + 65 < cLine) : OpR X (compareOp .In) (rInDT X.K) := by
  intro pins s σ H x y v u Q I rx ry h
  obtain ⟨d, ds, hd, he, sd, se, q⟩ := h
  obtain ⟨as, r1⟩ := Dp.reads I d x v hd rx
  obtain ⟨bs, r2⟩ := Dp.reads I (.tuple ds) y u he ry
  exact SeqAt.in_tuple_reads r2 r1 (SeqAt.canLay_of_shaped se) (SeqAt.canLay_of_shaped sd) (room_in_shaped sd hu) ⟨.bl _, H, I, rfl, q⟩
theorem op_notInDT (hu : X.A.units + 65 < cLine) : OpR X (compareOp .NotIn) (rNotInDT X.K) := by
  intro pins s σ H x y v u Q I rx ry h
  obtain ⟨d, ds, hd, he, sd, se, q⟩ := h
  obtain ⟨as, r1⟩ := Dp.reads I d x v hd rx
  obtain ⟨bs, r2⟩ := Dp.reads I (.tuple ds) y u he ry
  exact SeqAt.notIn_tuple_reads r2 r1 (SeqAt.canLay_of_shaped se) (SeqAt.canLay_of_shaped sd) (room_in_shaped sd hu) ⟨.bl _, H, I, rfl, q⟩
end
def dInT : DR2 := fun x y S Q => dPy x S fun p => dPy y S fun q => match q with
  | .tuple ps => SeqAt.shaped p = true ∧ SeqAt.shaped (.tuple ps) = true ∧ Q (.d (.bl (ps.any fun z => PyData.eqv z p))) S
  | _ => False
def dNotInT : DR2 := fun x y S Q => dPy x S fun p => dPy y S fun q => match q with
  | .tuple ps => SeqAt.shaped p = true ∧ SeqAt.shaped (.tuple ps) = true ∧ Q (.d (.bl (!ps.any fun z => PyData.eqv z p))) S
  | _ => False
section
variable {K : PySem.W.Frag}
theorem rr_inT : RR K (rInDT K) dInT := fun A F δ S σ H v u x y Q Q' st rx ry h k => by
  obtain ⟨p, hp, h⟩ := dPy.ok st rx h
  obtain ⟨q, hq, h⟩ := dPy.ok st ry h
  split at h
  · exact ⟨p, _, hp, hq, h.1, h.2.1, go st k (x := .d _) (Rep.bl _) h.2.2⟩
  · exact h.elim
theorem rr_notInT : RR K (rNotInDT K) dNotInT := fun A F δ S σ H v u x y Q Q' st rx ry h k => by
  obtain ⟨p, hp, h⟩ := dPy.ok st rx h
  obtain ⟨q, hq, h⟩ := dPy.ok st ry h
  split at h
  · exact ⟨p, _, hp, hq, h.1, h.2.1, go st k (x := .d _) (Rep.bl _) h.2.2⟩
  · exact h.elim
end
section
variable {Y : Cx} {W : WX} {a b : Expr} {pos : Pos} {ta tb : TE} {wa wb : WE}
theorem f_inT {K0 : PySem.W.Frag} [hKK : HasK Y K0] (hu : Y.A.units + 65 < cLine) (ha : FE Y W a ta wa) (hb : FE Y W b tb wb) (hm : behindInMarks .In b = false := by rfl) : FE Y W (.Compare a [.In] [b] pos) (tOp (rInDT K0) ta tb) (wOp dInT wa wb) := by
  obtain ⟨rfl⟩ := hKK
  exact f_cmp (op_inDT hu) rr_inT ha hb hm
theorem ft_inT {K0 : PySem.W.Frag} [hKK : HasK Y K0] (hu : Y.A.units + 65 < cLine) (ha : FE Y W a ta wa) (hb : FE Y W b tb wb) (hm : behindInMarks .In b = false := by rfl) : FT Y W (.Compare a [.In] [b] pos) (tTest (tOp (rInDT K0) ta tb)) (wTest (wOp dInT wa wb)) := by
  obtain ⟨rfl⟩ := hKK
  exact ft_cmp (op_inDT hu) rr_inT ha hb hm
theorem f_notInT {K0 : PySem.W.Frag} [hKK : HasK Y K0] (hu : Y.A.units + 65 < cLine) (ha : FE Y W a ta wa) (hb : FE Y W b tb wb) (hm : behindInMarks .NotIn b = false := by rfl) : FE Y W (.Compare a [.NotIn] [b] pos) (tOp (rNotInDT K0) ta tb) (wOp dNotInT wa wb) := by
  obtain ⟨rfl⟩ := hKK
  exact f_cmp (op_notInDT hu) rr_notInT ha hb hm
theorem ft_notInT {K0 : PySem.W.Frag} [hKK : HasK Y K0] (hu : Y.A.units + 65 < cLine) (ha : FE Y W a ta wa) (hb : FE Y W b tb wb) (hm : behindInMarks .NotIn b = false := by rfl) : FT Y W (.Compare a [.NotIn] [b] pos) (tTest (tOp (rNotInDT K0) ta tb)) (wTest (wOp dNotInT wa wb)) := by
  obtain ⟨rfl⟩ := hKK
  exact ft_cmp (op_notInDT hu) rr_notInT ha hb hm
end
end DP

set_option Elab.async false
set_option linter.all false
set_option maxRecDepth 100000
set_option maxHeartbeats 1000000
namespace DP
open PySem PySem.Spec PyProof.Rows L2
open Evl (Ex ex_l ex_t ex_rd fresh_back)

/-! ### maps made of maps: promises and readings -/
def turnT (os : List Int) (ts : List (Int × Int)) : List (Int × Int) := ts.map fun p => ((os.idxOf p.1 : Int), (os.idxOf p.2 : Int))
def shiftT (n : Int) (ts : List (Int × Int)) : List (Int × Int) := ts.map fun p => (p.1 + n, p.2 + n)
def downF (c x : Int) : Int := x - (if x > c then 1 else 0)
def dropT (c : Int) (ts : List (Int × Int)) : List (Int × Int) := (ts.filter fun p => decide (c ∉ [p.1, p.2])).map fun p => (downF c p.1, downF c p.2)
def cutT (a b : Int) (ts : List (Int × Int)) : List (Int × Int) := ts.filter fun p => decide (p ∉ [(a, b), (b, a)])
def newMap (g : GM) (n : Int) (ts : List (Int × Int)) (Q : XQ) : Prop := ∀ a, Q (.h a) [(a, .obj g.Map [("many", .d (.int n)), ("touches", .d (.tup (PD ts)))])]
def sp_turned (g : GM) : DSp := fun xs S Q _ => match xs with
  | [.d m, .d d] => S = [] ∧ ∃ n ts b os, m = mapO g n ts ∧ OkM n ts ∧ seqD d = some (b, ID os) ∧ os.Perm (rng n) ∧ newMap g n (normT n (PD (turnT os ts))) Q
  | _ => False
def sp_map_add (g : GM) : DSp := fun xs S Q _ => match xs with
  | [.d m, .d m'] => S = [] ∧ OwnC g.K g.Map ∧ ∃ n ts n' ts', m = mapO g n ts ∧ OkM n ts ∧ m' = mapO g n' ts' ∧ OkM n' ts' ∧ n + n' ≤ 64 ∧ newMap g (n + n') (normT (n + n') (PD (ts ++ shiftT n ts'))) Q
  | _ => False
def sp_without (g : GM) : DSp := fun xs S Q _ => match xs with
  | [.d m, .d (.int c)] => S = [] ∧ ∃ n ts, m = mapO g n ts ∧ OkM n ts ∧ 0 ≤ c ∧ c < n ∧ 2 ≤ n ∧ newMap g (n - 1) (normT (n - 1) (PD (dropT c ts))) Q
  | _ => False
def sp_tied (g : GM) : DSp := fun xs S Q _ => match xs with
  | [.d m, .d (.int a), .d (.int b)] => S = [] ∧ ∃ n ts, m = mapO g n ts ∧ OkM n ts ∧ 0 ≤ a ∧ a < n ∧ 0 ≤ b ∧ b < n ∧ a ≠ b ∧ newMap g n (normT n (PD (ts ++ [(a, b)]))) Q
  | _ => False
def sp_cut (g : GM) : DSp := fun xs S Q _ => match xs with
  | [.d m, .d (.int a), .d (.int b)] => S = [] ∧ ∃ n ts, m = mapO g n ts ∧ OkM n ts ∧ 0 ≤ a ∧ a < n ∧ 0 ≤ b ∧ b < n ∧ newMap g n (normT n (PD (cutT a b ts))) Q
  | _ => False
def sp_map_len (g : GM) : DSp := fun xs S Q _ => match xs with
  | [.d m] => ∃ n ts, m = mapO g n ts ∧ 0 ≤ n ∧ n ≤ 1000 ∧ Q (.d (.int n)) S
  | _ => False
/-- Map.turned -/
def w_turned (g : GM) : WS := (wSeq (wIfS (wOr (wNot (wTest (wCall (sp_is_sequence g) [] [] (wCons (wVar 1) wNil)))) (wNot (wTest (wCB dAll (wCons (wFz (wLc (wISeq (wVar 1)) (dName 3) wYes (wCall (sp_is_integer g) [] [] (wCons (wVar 3) wNil)) [3])) wNil))))) wNever wNext)
  (wSeq (wAsg (wDc (wIEnumA (wVar 1)) (dTup 2 (dCons (dName 4) (dCons (dName 3) dNil))) wYes (wVar 3) (wVar 4) [4, 3]) (dName 2))
  (wFreezeD 2 (wForget 0 (wSeq (wIfS (wOr (wTest (wOp dNe (wCB dLen (wCons (wVar 1) wNil)) (wFld g.Map "many" (wVar 0)))) (wTest (wCB dAny (wCons (wFz (wLc (wIR1 (wCons (wFld g.Map "many" (wVar 0)) wNil)) (dName 3) wYes (wDIn true (wVar 3) (wVar 2)) [3])) wNil)))) wNever wNext)
  (wRet (wMake g.Map (sp_map_init g) [] (wCons (wFld g.Map "many" (wVar 0)) (wCons (wFz (wLc (wISeq (wFld g.Map "touches" (wVar 0))) (dTup 2 (dCons (dName 5) (dCons (dName 6) dNil))) wYes (wTup (wCons (wDGet (wVar 2) (wVar 5)) (wCons (wDGet (wVar 2) (wVar 6)) wNil))) [5, 6])) wNil)))))))))
abbrev HW_turned (g : GM) : Prop := ∀ (xs : List X) (S : Store) (Q : XQ) (E : Exn → Store → Prop), sp_turned g xs S Q E → w_turned g { nx := fun _ S' => Q (.d .non) S', rt := Q } (startD ["self", "order", "place", "cell", "at", "one", "other"] xs) S (fun _ _ _ => False)
theorem len_turned {g : GM} (xs : List X) (S : Store) (Q : XQ) (E : Exn → Store → Prop) (h : sp_turned g xs S Q E) : xs.length = 2 := by
  unfold sp_turned at h
  split at h <;> first | rfl | exact h.elim
/-- Map.without -/
def w_without (g : GM) : WS := (wSeq (wDrop (wMeth g.Map "check_cells" (sp_check_cells g) [] [] (wVar 0) (wCons (wTup (wCons (wVar 1) wNil)) wNil)))
  (wSeq (wIfS (wTest (wOp dEq (wFld g.Map "many" (wVar 0)) (wC (.int 1)))) wNever wNext)
  (wSeq (wAsg (wFz (wLc (wISeq (wFld g.Map "touches" (wVar 0))) (dName 3) (wTest (wOp (dIn true) (wVar 1) (wVar 3))) (wVar 3) [3])) (dName 2))
  (wRet (wMake g.Map (sp_map_init g) [] (wCons (wOp dSub (wFld g.Map "many" (wVar 0)) (wC (.int 1))) (wCons (wFz (wLc (wISeq (wVar 2)) (dTup 2 (dCons (dName 4) (dCons (dName 5) dNil))) wYes (wTup (wCons (wOp dSub (wVar 4) (wCB dInt (wCons (wOp dGt (wVar 4) (wVar 1)) wNil))) (wCons (wOp dSub (wVar 5) (wCB dInt (wCons (wOp dGt (wVar 5) (wVar 1)) wNil))) wNil))) [4, 5])) wNil)))))))
abbrev HW_without (g : GM) : Prop := ∀ (xs : List X) (S : Store) (Q : XQ) (E : Exn → Store → Prop), sp_without g xs S Q E → w_without g { nx := fun _ S' => Q (.d .non) S', rt := Q } (startD ["self", "cell", "kept", "pair", "one", "other"] xs) S (fun _ _ _ => False)
theorem len_without {g : GM} (xs : List X) (S : Store) (Q : XQ) (E : Exn → Store → Prop) (h : sp_without g xs S Q E) : xs.length = 2 := by
  unfold sp_without at h
  split at h <;> first | rfl | exact h.elim
/-- Map.tied -/
def w_tied (g : GM) : WS := (wSeq (wDrop (wMeth g.Map "check_cells" (sp_check_cells g) [] [] (wVar 0) (wCons (wTup (wCons (wVar 1) (wCons (wVar 2) wNil))) wNil)))
  (wRet (wMake g.Map (sp_map_init g) [] (wCons (wFld g.Map "many" (wVar 0)) (wCons (wFz (wLst (wStar (wFld g.Map "touches" (wVar 0)) (wCons (wTup (wCons (wVar 1) (wCons (wVar 2) wNil))) wNil)))) wNil)))))
abbrev HW_tied (g : GM) : Prop := ∀ (xs : List X) (S : Store) (Q : XQ) (E : Exn → Store → Prop), sp_tied g xs S Q E → w_tied g { nx := fun _ S' => Q (.d .non) S', rt := Q } (startD ["self", "one", "other"] xs) S (fun _ _ _ => False)
theorem len_tied {g : GM} (xs : List X) (S : Store) (Q : XQ) (E : Exn → Store → Prop) (h : sp_tied g xs S Q E) : xs.length = 3 := by
  unfold sp_tied at h
  split at h <;> first | rfl | exact h.elim
/-- Map.cut -/
def w_cut (g : GM) : WS := (wSeq (wDrop (wMeth g.Map "check_cells" (sp_check_cells g) [] [] (wVar 0) (wCons (wTup (wCons (wVar 1) (wCons (wVar 2) wNil))) wNil)))
  (wRet (wMake g.Map (sp_map_init g) [] (wCons (wFld g.Map "many" (wVar 0)) (wCons (wFz (wLc (wISeq (wFld g.Map "touches" (wVar 0))) (dName 3) (wTest (wOp dNotInT (wVar 3) (wTup (wCons (wTup (wCons (wVar 1) (wCons (wVar 2) wNil))) (wCons (wTup (wCons (wVar 2) (wCons (wVar 1) wNil))) wNil))))) (wVar 3) [3])) wNil)))))
abbrev HW_cut (g : GM) : Prop := ∀ (xs : List X) (S : Store) (Q : XQ) (E : Exn → Store → Prop), sp_cut g xs S Q E → w_cut g { nx := fun _ S' => Q (.d .non) S', rt := Q } (startD ["self", "one", "other", "pair"] xs) S (fun _ _ _ => False)
theorem len_cut {g : GM} (xs : List X) (S : Store) (Q : XQ) (E : Exn → Store → Prop) (h : sp_cut g xs S Q E) : xs.length = 3 := by
  unfold sp_cut at h
  split at h <;> first | rfl | exact h.elim
/-- Map.__len__ -/
def w_map_len (g : GM) : WS := (wRet (wCB dLen (wCons (wFz (wLstRg (wRg1 (wFld g.Map "many" (wVar 0))))) wNil)))
abbrev HW_map_len (g : GM) : Prop := ∀ (xs : List X) (S : Store) (Q : XQ) (E : Exn → Store → Prop), sp_map_len g xs S Q E → w_map_len g { nx := fun _ S' => Q (.d .non) S', rt := Q } (startD ["self"] xs) S (fun _ _ _ => False)
theorem len_map_len {g : GM} (xs : List X) (S : Store) (Q : XQ) (E : Exn → Store → Prop) (h : sp_map_len g xs S Q E) : xs.length = 1 := by
  unfold sp_map_len at h
  split at h <;> first | rfl | exact h.elim
/-- Map.__add__ -/
def w_map_add (g : GM) : WS := (wSeq (wIfS (wNot (wTest (wCB (dIsi g.K) (wCons (wVar 1) (wCons (wC (.glob g.Map)) wNil))))) wNever wNext)
  (wSeq (wAsg (wFz (wLc (wISeq (wFld g.Map "touches" (wVar 1))) (dTup 2 (dCons (dName 3) (dCons (dName 4) dNil))) wYes (wTup (wCons (wOp dAdd (wVar 3) (wFld g.Map "many" (wVar 0))) (wCons (wOp dAdd (wVar 4) (wFld g.Map "many" (wVar 0))) wNil))) [3, 4])) (dName 2))
  (wRet (wMake g.Map (sp_map_init g) [] (wCons (wOp dAdd (wFld g.Map "many" (wVar 0)) (wFld g.Map "many" (wVar 1))) (wCons (wFz (wLst (wStar (wFld g.Map "touches" (wVar 0)) (wStar (wVar 2) wNil)))) wNil))))))
abbrev HW_map_add (g : GM) : Prop := ∀ (xs : List X) (S : Store) (Q : XQ) (E : Exn → Store → Prop), sp_map_add g xs S Q E → w_map_add g { nx := fun _ S' => Q (.d .non) S', rt := Q } (startD ["self", "other", "behind", "one", "last"] xs) S (fun _ _ _ => False)
theorem len_map_add {g : GM} (xs : List X) (S : Store) (Q : XQ) (E : Exn → Store → Prop) (h : sp_map_add g xs S Q E) : xs.length = 2 := by
  unfold sp_map_add at h
  split at h <;> first | rfl | exact h.elim
end DP

set_option Elab.async false
set_option linter.all false
set_option maxRecDepth 100000
set_option maxHeartbeats 1000000
namespace DP
open PySem PySem.Spec PyProof.Rows L2
open Evl (Ex ex_l ex_t ex_rd fresh_back)

/-! ### growing: what is within so many steps -/
theorem mem_arnd {ts : List (Int × Int)} {x y : Int} : y ∈ around ts x ↔ (y, x) ∈ ts ∨ (x, y) ∈ ts := by
  unfold around
  rw [List.mem_append, List.mem_map, List.mem_map]
  constructor
  · rintro (⟨⟨a, b⟩, h, rfl⟩ | ⟨⟨a, b⟩, h, rfl⟩)
    · obtain ⟨h1, h2⟩ := List.mem_filter.mp h
      simp at h2; subst h2; exact .inl h1
    · obtain ⟨h1, h2⟩ := List.mem_filter.mp h
      simp at h2; subst h2; exact .inr h1
  · rintro (h | h)
    · exact .inl ⟨_, List.mem_filter.mpr ⟨h, by simp⟩, rfl⟩
    · exact .inr ⟨_, List.mem_filter.mpr ⟨h, by simp⟩, rfl⟩
theorem around_sym {ts : List (Int × Int)} {x y : Int} : y ∈ around ts x ↔ x ∈ around ts y := by
  rw [mem_arnd, mem_arnd]; exact or_comm
def WK (ts : List (Int × Int)) : Nat → Int → Int → Prop
  | 0, y, x => y = x
  | k + 1, y, x => WK ts k y x ∨ ∃ z, z ∈ around ts y ∧ WK ts k z x
theorem WK.right {ts : List (Int × Int)} : ∀ {k : Nat} {y z x : Int}, WK ts k y z → x ∈ around ts z → WK ts (k + 1) y x
  | 0, y, z, x, h, a => by
    have h : y = z := h
    subst h
    exact .inr ⟨x, a, rfl⟩
  | k + 1, y, z, x, h, a => by
    rcases h with h | ⟨w, hw, h⟩
    · exact .inl (WK.right h a)
    · exact .inr ⟨w, hw, WK.right h a⟩
theorem WK.up {ts : List (Int × Int)} {k : Nat} {y x : Int} (h : WK ts k y x) : WK ts (k + 1) y x := .inl h
theorem WK.sym {ts : List (Int × Int)} : ∀ {k : Nat} {y x : Int}, WK ts k y x → WK ts k x y
  | 0, y, x, h => Eq.symm h
  | k + 1, y, x, h => by
    rcases h with h | ⟨z, hz, h⟩
    · exact (WK.sym h).up
    · exact WK.right (WK.sym h) (around_sym.mp hz)
theorem WK.refl {ts : List (Int × Int)} : ∀ (k : Nat) (x : Int), WK ts k x x
  | 0, _ => rfl
  | k + 1, x => .inl (WK.refl k x)
theorem mem_grow {n : Int} {ts : List (Int × Int)} {ys : List Int} {x : Int} : x ∈ grow n ts ys ↔ (0 ≤ x ∧ x < n) ∧ (x ∈ ys ∨ ∃ y ∈ ys, x ∈ around ts y) := by
  unfold grow
  rw [mem_part, List.mem_append, List.mem_flatMap]
theorem mem_growN {n : Int} {ts : List (Int × Int)} (ok : OkM n ts) : ∀ {k : Nat} {ys : List Int} {x : Int}, (∀ y ∈ ys, 0 ≤ y ∧ y < n) → (x ∈ growN n ts k ys ↔ ∃ y ∈ ys, WK ts k y x)
  | 0, ys, x, hr => ⟨fun h => ⟨x, h, rfl⟩, fun ⟨y, hy, e⟩ => by have e : y = x := e; subst e; exact hy⟩
  | k + 1, ys, x, hr => by
    show x ∈ growN n ts k (grow n ts ys) ↔ _
    rw [mem_growN ok fun y hy => (mem_grow.mp hy).1]
    constructor
    · rintro ⟨y, hy, h⟩
      rcases (mem_grow.mp hy).2 with h1 | ⟨z, hz, h1⟩
      · exact ⟨y, h1, .inl h⟩
      · exact ⟨z, hz, .inr ⟨y, h1, h⟩⟩
    · rintro ⟨y, hy, h | ⟨z, hz, h⟩⟩
      · exact ⟨y, mem_grow.mpr ⟨hr y hy, .inl hy⟩, h⟩
      · exact ⟨z, mem_grow.mpr ⟨around_in ok hz, .inr ⟨y, hy, hz⟩⟩, h⟩
theorem growN_asc {n : Int} {ts : List (Int × Int)} : ∀ {k : Nat} {ys : List Int}, ys.Pairwise (· < ·) → (growN n ts k ys).Pairwise (· < ·)
  | 0, _, h => h
  | k + 1, _, _ => growN_asc (k := k) ((rng_sorted n).filter _)
theorem part_sorted (n : Int) (xs : List Int) : (part n xs).Pairwise (· < ·) := (rng_sorted n).filter _
theorem growN_in {n : Int} {ts : List (Int × Int)} (ok : OkM n ts) : ∀ {k : Nat} {ys : List Int} {x : Int}, (∀ y ∈ ys, 0 ≤ y ∧ y < n) → x ∈ growN n ts k ys → 0 ≤ x ∧ x < n
  | 0, _, x, h, hx => h x hx
  | k + 1, ys, x, h, hx => growN_in ok (k := k) (ys := grow n ts ys) (fun y hy => (mem_grow.mp hy).1) hx
theorem growN_add {n : Int} {ts : List (Int × Int)} : ∀ {j k : Nat} {ys : List Int}, growN n ts k (growN n ts j ys) = growN n ts (j + k) ys
  | 0, k, ys => by rw [Nat.zero_add]; rfl
  | j + 1, k, ys => by
    rw [Nat.add_right_comm]
    exact growN_add (j := j) (k := k) (ys := grow n ts ys)
/-- cells, ascending and of the map -/
structure Cs (n : Int) (cs : List Int) : Prop where
  asc : cs.Pairwise (· < ·)
  rg : ∀ c ∈ cs, 0 ≤ c ∧ c < n
theorem Cs.part {n : Int} {cs : List Int} (h : Cs n cs) : part n cs = cs := (asc_part h.asc h.rg).trans rfl |>.symm
theorem Cs.ext {n : Int} {cs ds : List Int} (h : Cs n cs) (h' : Cs n ds) (e : ∀ x, x ∈ cs ↔ x ∈ ds) : cs = ds := asc_ext h.asc h'.asc e
theorem cs_part (n : Int) (xs : List Int) : Cs n (part n xs) := ⟨part_sorted n xs, fun c hc => (mem_part.mp hc).1⟩
theorem cs_rest (n : Int) (xs : List Int) : Cs n (rest n xs) := ⟨rest_asc n xs, fun c hc => (mem_rest.mp hc).1⟩
theorem Cs.growN {n : Int} {ts : List (Int × Int)} {cs : List Int} {k : Nat} (ok : OkM n ts) (h : Cs n cs) : Cs n (growN n ts k cs) := ⟨growN_asc h.asc, fun c hc => growN_in ok h.rg hc⟩
theorem cs_pour (n : Int) (ts : List (Int × Int)) (cs ws : List Int) : Cs n (pourL n ts cs ws) := ⟨pourL_asc n ts cs ws, fun c hc => (mem_pourL.mp hc).1⟩
theorem Cs.len {n : Int} {cs : List Int} (h : Cs n cs) : cs.length ≤ n.toNat := by
  have := part_len n cs
  rw [h.part] at this; exact this
section
variable {n : Int} {ts : List (Int × Int)} {as bs cs ws : List Int}
theorem grow_union (ok : OkM n ts) (ha : Cs n as) (hb : Cs n bs) : growN n ts 1 (part n (as ++ bs)) = part n (growN n ts 1 as ++ growN n ts 1 bs) := by
  refine ((cs_part n _).growN ok).ext (cs_part n _) fun x => ?_
  rw [mem_growN ok (cs_part n _).rg, mem_part, List.mem_append, mem_growN ok ha.rg, mem_growN ok hb.rg]
  constructor
  · rintro ⟨y, hy, h⟩
    have hx : 0 ≤ x ∧ x < n := growN_in ok (k := 1) (ys := part n (as ++ bs)) (cs_part n _).rg ((mem_growN ok (cs_part n _).rg).mpr ⟨y, hy, h⟩)
    rcases List.mem_append.mp (mem_part.mp hy).2 with h1 | h1
    · exact ⟨hx, .inl ⟨y, h1, h⟩⟩
    · exact ⟨hx, .inr ⟨y, h1, h⟩⟩
  · rintro ⟨_, ⟨y, hy, h⟩ | ⟨y, hy, h⟩⟩
    · exact ⟨y, mem_part.mpr ⟨ha.rg y hy, List.mem_append_left _ hy⟩, h⟩
    · exact ⟨y, mem_part.mpr ⟨hb.rg y hy, List.mem_append_right _ hy⟩, h⟩
/-- shrinking what has grown loses nothing -/
theorem sub_shrink (ok : OkM n ts) (ha : Cs n as) {k : Nat} : ∀ x ∈ as, x ∈ rest n (growN n ts k (rest n (growN n ts k as))) := by
  intro x hx
  refine mem_rest.mpr ⟨ha.rg x hx, fun h => ?_⟩
  obtain ⟨y, hy, h⟩ := (mem_growN ok (cs_rest n _).rg).mp h
  exact (mem_rest.mp hy).2 ((mem_growN ok ha.rg).mpr ⟨x, hx, h.sym⟩)
theorem grow_shrink (ok : OkM n ts) {k : Nat} : ∀ x ∈ growN n ts k (rest n (growN n ts k (rest n as))), x ∈ as := by
  intro x hx
  have hr := growN_in ok (cs_rest n _).rg hx
  obtain ⟨y, hy, h⟩ := (mem_growN ok (cs_rest n _).rg).mp hx
  refine Classical.byContradiction fun hn => (mem_rest.mp hy).2 ((mem_growN ok (cs_rest n _).rg).mpr ⟨x, mem_rest.mpr ⟨hr, hn⟩, h.sym⟩)
theorem Pour.mono {cs ds ws : List Int} (h : ∀ x ∈ cs, x ∈ ws → x ∈ ds) {x : Int} (p : Pour ts cs ws x) : Pour ts ds ws x := by
  induction p with
  | base h1 h2 => exact .base (h _ h1 h2) h2
  | step _ h1 h2 ih => exact .step ih h1 h2
theorem pour_union (ha : Cs n as) (hb : Cs n bs) : pourL n ts (part n (as ++ bs)) ws = part n (pourL n ts as ws ++ pourL n ts bs ws) := by
  refine (cs_pour n ts _ ws).ext (cs_part n _) fun x => ?_
  rw [mem_pourL, mem_part, List.mem_append, mem_pourL, mem_pourL]
  constructor
  · rintro ⟨hx, p⟩
    refine ⟨hx, ?_⟩
    suffices h : Pour ts as ws x ∨ Pour ts bs ws x from h.elim (fun h => .inl ⟨hx, h⟩) fun h => .inr ⟨hx, h⟩
    clear hx
    induction p with
    | base h1 h2 => exact (List.mem_append.mp (mem_part.mp h1).2).elim (fun h => .inl (.base h h2)) fun h => .inr (.base h h2)
    | step _ h1 h2 ih => exact ih.elim (fun h => .inl (.step h h1 h2)) fun h => .inr (.step h h1 h2)
  · rintro ⟨hx, ⟨_, p⟩ | ⟨_, p⟩⟩
    · exact ⟨hx, p.mono fun y hy _ => mem_part.mpr ⟨ha.rg y hy, List.mem_append_left _ hy⟩⟩
    · exact ⟨hx, p.mono fun y hy _ => mem_part.mpr ⟨hb.rg y hy, List.mem_append_right _ hy⟩⟩
theorem pour_pour : pourL n ts (pourL n ts as ws) ws = pourL n ts as ws := by
  refine (cs_pour n ts _ ws).ext (cs_pour n ts _ ws) fun x => ?_
  rw [mem_pourL, mem_pourL]
  suffices hh : ∀ x, Pour ts (pourL n ts as ws) ws x → Pour ts as ws x from ⟨fun ⟨hx, p⟩ => ⟨hx, hh x p⟩, fun ⟨hx, p⟩ => ⟨hx, .base (mem_pourL.mpr ⟨hx, p⟩) (pour_ws p)⟩⟩
  intro x p
  induction p with
  | base h1 h2 => exact (mem_pourL.mp h1).2
  | step _ h1 h2 ih => exact .step ih h1 h2
theorem pour_both : pourL n ts (as.filter fun x => decide (x ∈ ws)) ws = pourL n ts as ws := by
  refine (cs_pour n ts _ ws).ext (cs_pour n ts _ ws) fun x => ?_
  rw [mem_pourL, mem_pourL]
  refine and_congr_right fun _ => ⟨fun p => p.mono fun y hy _ => (List.mem_filter.mp hy).1, fun p => p.mono fun y hy hw => List.mem_filter.mpr ⟨hy, by simpa using hw⟩⟩
end
end DP

set_option Elab.async false
set_option linter.all false
set_option maxRecDepth 100000
set_option maxHeartbeats 1000000
namespace DP
open PySem PySem.Spec PyProof.Rows L2
open Evl (Ex ex_l ex_t ex_rd fresh_back)

/-! ### parts -/
section
variable {n : Int} {ts : List (Int × Int)} {cs : List Int}
theorem Pour.refl {c : Int} (h : c ∈ cs) : Pour ts [c] cs c := .base (by simp) h
theorem Pour.trans {c x y : Int} (h : Pour ts [c] cs x) (k : Pour ts [x] cs y) : Pour ts [c] cs y := by
  induction k with
  | base h1 h2 => simp at h1; subst h1; exact h
  | step _ h1 h2 ih => exact .step ih h1 h2
theorem Pour.sym {c x : Int} (h : Pour ts [c] cs x) : Pour ts [x] cs c := by
  induction h with
  | base h1 h2 => simp at h1; subst h1; exact .refl h2
  | @step x y p h1 h2 ih => exact (Pour.step (.refl h2) (around_sym.mp h1) (pour_ws p)).trans ih
theorem pour_self (hc : Cs n cs) {c c' : Int} (h : c' ∈ pourL n ts [c] cs) : pourL n ts [c'] (pourL n ts [c] cs) = pourL n ts [c] cs := by
  refine (cs_pour n ts _ _).ext (cs_pour n ts _ _) fun x => ?_
  have p' := (mem_pourL.mp h).2
  constructor
  · intro hx
    exact pour_ws (mem_pourL.mp hx).2
  · intro hx
    refine mem_pourL.mpr ⟨(mem_pourL.mp hx).1, ?_⟩
    have q : Pour ts [c'] cs x := p'.sym.trans (mem_pourL.mp hx).2
    clear hx
    induction q with
    | base h1 h2 => simp at h1; subst h1; exact .refl h
    | @step x y p h1 h2 ih => exact .step ih h1 (mem_pourL.mpr ⟨hc.rg x h2, p'.trans (.step p h1 h2)⟩)
theorem partsF_in {p : List Int} : ∀ (l : List Int) (acc : List (List Int)), p ∈ acc → (∀ x ∈ l, x ∈ p) → partsF n ts cs l acc = acc
  | [], _, _, _ => rfl
  | c :: l, acc, hp, h => by
    have e : acc.all (fun p => decide (c ∉ p)) = false := by
      rw [List.all_eq_false]
      exact ⟨p, hp, by simpa using h c List.mem_cons_self⟩
    show partsF n ts cs l (if acc.all (fun p => decide (c ∉ p)) then acc ++ [pourL n ts [c] cs] else acc) = acc
    rw [e]
    exact partsF_in l acc hp fun x hx => h x (List.mem_cons_of_mem _ hx)
theorem part_joined (hc : Cs n cs) {c : Int} : (partsL n ts (pourL n ts [c] cs)).length < 2 := by
  have hp := cs_pour n ts [c] cs
  generalize hq : pourL n ts [c] cs = p at hp
  unfold partsL
  rw [hp.part]
  cases p with
  | nil => exact (show (0 : Nat) < 2 by decide)
  | cons x l =>
    have hx : x ∈ pourL n ts [c] cs := by rw [hq]; exact List.mem_cons_self
    have e := pour_self hc hx
    rw [hq] at e
    show (partsF n ts (x :: l) l ([] ++ [pourL n ts [x] (x :: l)])).length < 2
    rw [e, partsF_in (p := x :: l) l _ (by simp) fun y hy => List.mem_cons_of_mem _ hy]
    exact (show (1 : Nat) < 2 by decide)
/-- the parts: classes, none twice, all cells -/
structure PO (n : Int) (ts : List (Int × Int)) (cs : List Int) (acc : List (List Int)) : Prop where
  cl : ∀ p ∈ acc, ∃ c ∈ cs, p = pourL n ts [c] cs
  nd : acc.flatten.Nodup
theorem PO.add (hc : Cs n cs) {acc : List (List Int)} {c : Int} (h : PO n ts cs acc) (hcs : c ∈ cs) (hn : ∀ p ∈ acc, c ∉ p) : PO n ts cs (acc ++ [pourL n ts [c] cs]) := by
  refine ⟨fun p hp => ?_, ?_⟩
  · rcases List.mem_append.mp hp with hp | hp
    · exact h.cl p hp
    · simp at hp; exact ⟨c, hcs, hp⟩
  · rw [List.flatten_append, List.nodup_append]
    refine ⟨h.nd, ?_, fun x hx y hy => ?_⟩
    · simp
      exact (pourL_asc n ts [c] cs).imp (fun h => by omega)
    · simp at hy
      intro e
      subst e
      obtain ⟨q, hq, hxq⟩ := List.mem_flatten.mp hx
      obtain ⟨d, hd, rfl⟩ := h.cl q hq
      exact hn _ hq (mem_pourL.mpr ⟨hc.rg c hcs, (mem_pourL.mp hxq).2.trans (mem_pourL.mp hy).2.sym⟩)
theorem partsF_po (hc : Cs n cs) : ∀ (l : List Int) (acc : List (List Int)), (∀ x ∈ l, x ∈ cs) → PO n ts cs acc → PO n ts cs (partsF n ts cs l acc) ∧ (∀ x, (x ∈ l ∨ x ∈ acc.flatten) → x ∈ (partsF n ts cs l acc).flatten)
  | [], acc, _, h => ⟨h, fun x hx => hx.elim (fun h => by cases h) id⟩
  | c :: l, acc, hl, h => by
    have hcs := hl c List.mem_cons_self
    have hl' : ∀ x ∈ l, x ∈ cs := fun x hx => hl x (List.mem_cons_of_mem _ hx)
    show PO n ts cs (partsF n ts cs l (if acc.all (fun p => decide (c ∉ p)) then acc ++ [pourL n ts [c] cs] else acc)) ∧ _
    cases e : acc.all (fun p => decide (c ∉ p)) with
    | true =>
      have hn : ∀ p ∈ acc, c ∉ p := fun p hp => by simpa using List.all_eq_true.mp e p hp
      obtain ⟨h1, h2⟩ := partsF_po hc l _ hl' (h.add hc hcs hn)
      refine ⟨h1, fun x hx => ?_⟩
      have er : partsF n ts cs (c :: l) acc = partsF n ts cs l (acc ++ [pourL n ts [c] cs]) := by
        show partsF n ts cs l (if acc.all (fun p => decide (c ∉ p)) then acc ++ [pourL n ts [c] cs] else acc) = _
        rw [e]; rfl
      rw [er]
      refine h2 x ?_
      rcases hx with hx | hx
      · rcases List.mem_cons.mp hx with rfl | hx
        · refine .inr ?_
          rw [List.flatten_append]
          exact List.mem_append_right _ (by simp; exact mem_pourL.mpr ⟨hc.rg x hcs, .refl hcs⟩)
        · exact .inl hx
      · refine .inr ?_
        rw [List.flatten_append]
        exact List.mem_append_left _ hx
    | false =>
      obtain ⟨h1, h2⟩ := partsF_po hc l acc hl' h
      refine ⟨h1, fun x hx => ?_⟩
      have er : partsF n ts cs (c :: l) acc = partsF n ts cs l acc := by
        show partsF n ts cs l (if acc.all (fun p => decide (c ∉ p)) then acc ++ [pourL n ts [c] cs] else acc) = _
        rw [e]; rfl
      rw [er]
      refine h2 x ?_
      rcases hx with hx | hx
      · rcases List.mem_cons.mp hx with rfl | hx
        · obtain ⟨p, hp, hxp⟩ := List.all_eq_false.mp e
          exact .inr (List.mem_flatten.mpr ⟨p, hp, by simpa using hxp⟩)
        · exact .inl hx
      · exact .inr hx
theorem parts_po (hc : Cs n cs) : PO n ts cs (partsL n ts cs) := (partsF_po hc (part n cs) [] (fun x hx => (mem_part.mp hx).2) ⟨by simp, by simp⟩).1
theorem parts_mem (hc : Cs n cs) (x : Int) : x ∈ (partsL n ts cs).flatten ↔ x ∈ cs := by
  have h := partsF_po (ts := ts) hc (part n cs) [] (fun x hx => (mem_part.mp hx).2) ⟨by simp, by simp⟩
  refine ⟨fun hx => ?_, fun hx => h.2 x (.inl (mem_part.mpr ⟨hc.rg x hx, hx⟩))⟩
  obtain ⟨p, hp, hxp⟩ := List.mem_flatten.mp hx
  obtain ⟨c, _, rfl⟩ := h.1.cl p hp
  exact pour_ws (mem_pourL.mp hxp).2
/-- a part's neighbours are its own -/
theorem part_apart (hc : Cs n cs) (ok : OkM n ts) {c x : Int} (h : x ∈ growN n ts 1 (pourL n ts [c] cs)) (hx : x ∈ cs) : x ∈ pourL n ts [c] cs := by
  obtain ⟨y, hy, h⟩ := (mem_growN ok (cs_pour n ts _ _).rg).mp h
  rcases h with h | ⟨z, hz, h⟩
  · have e : y = x := h
    subst e; exact hy
  · have e : z = x := h
    subst e
    exact mem_pourL.mpr ⟨hc.rg z hx, .step (mem_pourL.mp hy).2 hz hx⟩
end
/-- two ascending lists of the same, when one has none twice -/
theorem sorted_same {as bs xs ys : List Int} (h1 : as.Perm xs) (h2 : as.Pairwise (· ≤ ·)) (h3 : bs.Perm ys) (h4 : bs.Pairwise (· ≤ ·)) (hx : xs.Nodup) (hy : ys.Nodup) (e : ∀ x, x ∈ xs ↔ x ∈ ys) : as = bs := by
  have st : ∀ {l m : List Int}, l.Perm m → l.Pairwise (· ≤ ·) → m.Nodup → l.Pairwise (· < ·) := fun {l m} p s d => by
    have d' : l.Nodup := p.nodup_iff.mpr d
    exact (List.pairwise_and_iff.mpr ⟨s, d'⟩).imp fun h => by omega
  refine asc_ext (st h1 h2 hx) (st h3 h4 hy) fun x => ?_
  rw [h1.mem_iff, h3.mem_iff]; exact e x
theorem Cs.nd {n : Int} {cs : List Int} (h : Cs n cs) : cs.Nodup := h.asc.imp fun h => by omega
/-! ### a map within another -/
structure Iso (n : Int) (ts : List (Int × Int)) (n' : Int) (ts' : List (Int × Int)) (f : Int → Int) : Prop where
  rg : ∀ x, 0 ≤ x → x < n → 0 ≤ f x ∧ f x < n'
  inj : ∀ x y, 0 ≤ x → x < n → 0 ≤ y → y < n → f x = f y → x = y
  ar : ∀ x z, 0 ≤ x → x < n → (z ∈ around ts' (f x) ↔ ∃ y, y ∈ around ts x ∧ z = f y)
section
variable {n n' : Int} {ts ts' : List (Int × Int)} {f : Int → Int}
theorem Iso.wk (I : Iso n ts n' ts' f) (ok : OkM n ts) : ∀ {k : Nat} {y z : Int}, 0 ≤ y → y < n → (WK ts' k (f y) z ↔ ∃ x, (0 ≤ x ∧ x < n) ∧ z = f x ∧ WK ts k y x)
  | 0, y, z, h0, h1 => ⟨fun h => ⟨y, ⟨h0, h1⟩, Eq.symm h, rfl⟩, fun ⟨x, _, e, h⟩ => by
      have h : y = x := h
      subst h; exact e.symm⟩
  | k + 1, y, z, h0, h1 => by
    constructor
    · rintro (h | ⟨w, hw, h⟩)
      · obtain ⟨x, hx, e, h⟩ := (I.wk ok h0 h1).mp h
        exact ⟨x, hx, e, .inl h⟩
      · obtain ⟨v, hv, rfl⟩ := (I.ar y w h0 h1).mp hw
        have hr := around_in ok hv
        obtain ⟨x, hx, e, h⟩ := (I.wk ok hr.1 hr.2).mp h
        exact ⟨x, hx, e, .inr ⟨v, hv, h⟩⟩
    · rintro ⟨x, hx, e, h | ⟨v, hv, h⟩⟩
      · exact .inl ((I.wk ok h0 h1).mpr ⟨x, hx, e, h⟩)
      · have hr := around_in ok hv
        exact .inr ⟨f v, (I.ar y _ h0 h1).mpr ⟨v, hv, rfl⟩, (I.wk ok hr.1 hr.2).mpr ⟨x, hx, e, h⟩⟩
theorem Iso.grown (I : Iso n ts n' ts' f) (ok : OkM n ts) (ok' : OkM n' ts') {k : Nat} {cs : List Int} (hc : Cs n cs) : growN n' ts' k (part n' (cs.map f)) = part n' ((growN n ts k cs).map f) := by
  refine ((cs_part n' _).growN ok').ext (cs_part n' _) fun z => ?_
  rw [mem_growN ok' (cs_part n' _).rg, mem_part, List.mem_map]
  constructor
  · rintro ⟨w, hw, h⟩
    obtain ⟨y, hy, rfl⟩ := List.mem_map.mp (mem_part.mp hw).2
    obtain ⟨x, hx, e, h⟩ := (I.wk ok (hc.rg y hy).1 (hc.rg y hy).2).mp h
    exact ⟨e ▸ I.rg x hx.1 hx.2, x, (mem_growN ok hc.rg).mpr ⟨y, hy, h⟩, e.symm⟩
  · rintro ⟨_, x, hx, rfl⟩
    have hr := growN_in ok hc.rg hx
    obtain ⟨y, hy, h⟩ := (mem_growN ok hc.rg).mp hx
    exact ⟨f y, mem_part.mpr ⟨I.rg y (hc.rg y hy).1 (hc.rg y hy).2, List.mem_map.mpr ⟨y, hy, rfl⟩⟩, (I.wk ok (hc.rg y hy).1 (hc.rg y hy).2).mpr ⟨x, hr, rfl, h⟩⟩
theorem mem_im (I : Iso n ts n' ts' f) {cs : List Int} (hc : Cs n cs) {x : Int} (h0 : 0 ≤ x) (h1 : x < n) : f x ∈ part n' (cs.map f) ↔ x ∈ cs := by
  rw [mem_part, List.mem_map]
  exact ⟨fun ⟨_, y, hy, e⟩ => (I.inj y x (hc.rg y hy).1 (hc.rg y hy).2 h0 h1 e) ▸ hy, fun h => ⟨I.rg x h0 h1, x, h, rfl⟩⟩
theorem Iso.poured (I : Iso n ts n' ts' f) (ok : OkM n ts) {cs ws : List Int} (hc : Cs n cs) (hw : Cs n ws) : pourL n' ts' (part n' (cs.map f)) (part n' (ws.map f)) = part n' ((pourL n ts cs ws).map f) := by
  refine (cs_pour n' ts' _ _).ext (cs_part n' _) fun z => ?_
  rw [mem_pourL, mem_part, List.mem_map]
  constructor
  · rintro ⟨hz, p⟩
    refine ⟨hz, ?_⟩
    clear hz
    suffices h : ∃ x, (0 ≤ x ∧ x < n) ∧ z = f x ∧ Pour ts cs ws x by
      obtain ⟨x, hx, e, p⟩ := h
      exact ⟨x, mem_pourL.mpr ⟨hx, p⟩, e.symm⟩
    induction p with
    | base h1 h2 =>
      obtain ⟨y, hy, rfl⟩ := List.mem_map.mp (mem_part.mp h1).2
      have hr := hc.rg y hy
      exact ⟨y, hr, rfl, .base hy ((mem_im I hw hr.1 hr.2).mp h2)⟩
    | step _ h1 h2 ih =>
      obtain ⟨x, hx, rfl, p⟩ := ih
      obtain ⟨y, hy, rfl⟩ := (I.ar x _ hx.1 hx.2).mp h1
      have hr := around_in ok hy
      exact ⟨y, hr, rfl, .step p hy ((mem_im I hw hr.1 hr.2).mp h2)⟩
  · rintro ⟨hz, x, hx, rfl⟩
    refine ⟨hz, ?_⟩
    clear hz
    obtain ⟨hr, p⟩ := mem_pourL.mp hx
    clear hx hr
    induction p with
    | @base y h1 h2 =>
      have hr := hw.rg y h2
      exact .base ((mem_im I hc hr.1 hr.2).mpr h1) ((mem_im I hw hr.1 hr.2).mpr h2)
    | @step x y p h1 h2 ih =>
      have hy := hw.rg y (pour_ws p)
      have hx := hw.rg x h2
      exact .step ih ((I.ar y _ hy.1 hy.2).mpr ⟨x, h1, rfl⟩) ((mem_im I hw hx.1 hx.2).mpr h2)
/-- .. shrunk: what the image leaves is not told -/
theorem Iso.shrunk (I : Iso n ts n' ts' f) (ok : OkM n ts) (ok' : OkM n' ts') {k : Nat} {cs : List Int} (hc : Cs n cs) : rest n' (growN n' ts' k (rest n' (part n' (cs.map f)))) = part n' ((rest n (growN n ts k (rest n cs))).map f) := by
  refine (cs_rest n' _).ext (cs_part n' _) fun z => ?_
  rw [mem_rest, mem_part, List.mem_map, mem_growN ok' (cs_rest n' _).rg]
  constructor
  · rintro ⟨hz, hn⟩
    have hzc : z ∈ part n' (cs.map f) := Classical.byContradiction fun h => hn ⟨z, mem_rest.mpr ⟨hz, h⟩, WK.refl k z⟩
    obtain ⟨x, hx, rfl⟩ := List.mem_map.mp (mem_part.mp hzc).2
    have hr := hc.rg x hx
    refine ⟨hz, x, mem_rest.mpr ⟨hr, fun h => ?_⟩, rfl⟩
    obtain ⟨y, hy, h⟩ := (mem_growN ok (cs_rest n _).rg).mp h
    have hyr := (mem_rest.mp hy).1
    refine hn ⟨f y, mem_rest.mpr ⟨I.rg y hyr.1 hyr.2, fun h' => (mem_rest.mp hy).2 ((mem_im I hc hyr.1 hyr.2).mp h')⟩, (I.wk ok hyr.1 hyr.2).mpr ⟨x, hr, rfl, h⟩⟩
  · rintro ⟨hz, x, hx, rfl⟩
    obtain ⟨hr, hn⟩ := mem_rest.mp hx
    refine ⟨hz, fun ⟨w, hw, h⟩ => ?_⟩
    obtain ⟨y, hyr, e, h2⟩ := (I.wk ok hr.1 hr.2).mp h.sym
    subst e
    exact hn ((mem_growN ok (cs_rest n _).rg).mpr ⟨y, mem_rest.mpr ⟨hyr, fun h' => (mem_rest.mp hw).2 ((mem_im I hc hyr.1 hyr.2).mpr h')⟩, h2.sym⟩)
end
end DP

set_option Elab.async false
set_option linter.all false
set_option maxRecDepth 100000
set_option maxHeartbeats 1000000
namespace DP
open PySem PySem.Spec PyProof.Rows L2
open Evl (Ex ex_l ex_t ex_rd fresh_back)

theorem touch_pair2 {n : Int} {p : Int × Int} (h : 0 ≤ p.1 ∧ p.1 < n ∧ 0 ≤ p.2 ∧ p.2 < n ∧ p.1 ≠ p.2) : OkT (.tup [.int p.1, .int p.2]) ∧ isTouchB n (.tup [.int p.1, .int p.2]) = true := by
  refine ⟨⟨rfl, fun b ds e x hx => ?_⟩, ?_⟩
  · cases e
    rcases List.mem_cons.mp hx with rfl | hx
    · rfl
    · rcases List.mem_cons.mp hx with rfl | hx
      · rfl
      · cases hx
  · show (decide (0 ≤ p.1) && decide (p.1 < n) && (decide (0 ≤ p.2) && decide (p.2 < n)) && !decide (p.1 = p.2)) = true
    simp only [Bool.and_eq_true, decide_eq_true_eq, Bool.not_eq_true', decide_eq_false_iff_not]
    omega
theorem make_map {g : GM} {n : Int} {ps : List (Int × Int)} {a : Addr} {Q : XQ} {E : Exn → Store → Prop} {S0 : Store} (h0 : 1 ≤ n) (h1 : n ≤ 1000000000) (hl : (PD ps).length ≤ 100000) (hp : ∀ p ∈ ps, 0 ≤ p.1 ∧ p.1 < n ∧ 0 ≤ p.2 ∧ p.2 < n ∧ p.1 ≠ p.2) (hs : S0 = [])
    (h : Q (.h a) [(a, .obj g.Map [("many", .d (.int n)), ("touches", .d (.tup (PD (normT n (PD ps)))))])]) :
    callD (sp_map_init g) [S0.length] [.h a, .d (.int n), .d (.lst (PD ps))] (S0 ++ [(a, .obj g.Map [])]) (fun r S' => r = .d .non ∧ Q (.h a) S') E := by
  subst hs
  refine callI (Sc := [(a, .obj g.Map [])]) rfl (by simp) fun Q' E' hQ => ⟨rfl, h0, h1, false, PD ps, rfl, hl, fun e he => ?_, hQ (.d .non) [(a, .obj g.Map [("many", .d (.int n)), ("touches", .d (.tup (PD (normT n (PD ps)))))])] [] rfl ⟨rfl, h⟩⟩
  unfold PD at he
  obtain ⟨p, hpp, rfl⟩ := List.mem_map.mp he
  exact touch_pair2 (hp p hpp)
theorem turn_ok {n : Int} {ts : List (Int × Int)} {os : List Int} (ok : OkM n ts) (hp : os.Perm (rng n)) : ∀ p ∈ turnT os ts, 0 ≤ p.1 ∧ p.1 < n ∧ 0 ≤ p.2 ∧ p.2 < n ∧ p.1 ≠ p.2 := by
  intro p h
  obtain ⟨q, hq, rfl⟩ := List.mem_map.mp h
  obtain ⟨h0, h1, h2⟩ := ok.pr q hq
  have hl : os.length = n.toNat := by rw [hp.length_eq, rng_len]
  have m1 : q.1 ∈ os := hp.mem_iff.mpr (mem_rng.mpr ⟨h0, by omega⟩)
  have m2 : q.2 ∈ os := hp.mem_iff.mpr (mem_rng.mpr ⟨by omega, h2⟩)
  have l1 := List.idxOf_lt_length_of_mem m1
  have l2 := List.idxOf_lt_length_of_mem m2
  refine ⟨by simp, by simp; omega, by simp, by simp; omega, fun e => ?_⟩
  have e : os.idxOf q.1 = os.idxOf q.2 := Int.ofNat.inj e
  have g1 := List.getElem_idxOf l1
  have g2 := List.getElem_idxOf l2
  have : q.1 = q.2 := by rw [← g1, ← g2]; simp only [e]
  omega
theorem hw_turned (g : GM) : HW_turned g := by
  intro xs S Q E h
  unfold sp_turned at h
  split at h
  · rename_i m d
    obtain ⟨rfl, n, ts, b, os, rfl, ok, hs, hp, hq⟩ := h
    have hsz : sizeLine = 16777216 := rfl
    have hn := ok.hi
    have hn1 := ok.lo
    have hl : os.length = n.toNat := by rw [hp.length_eq, rng_len]
    have hnd : os.Nodup := hp.nodup_iff.mpr ((rng_sorted n).imp fun h => by omega)
    unfold w_turned
    simp
    refine callP fun Q' E' hQ => ⟨(seqD_yes hs).2, hQ _ ?_⟩
    clear hQ
    simp [(seqD_yes hs).1, hs]
    intro ad
    refine lcq (S0 := []) (fun n : Int => X.d (.int n)) (fun _ => true) (fun _ => .bl true) os (by omega) ?_ ?_ ad
    · intro a ha S' K Kf hc hk
      simp
      refine callP fun Q' E' hQ => ⟨rfl, hQ _ ?_⟩
      exact hk
    rw [filter_yes]
    refine ⟨os.map fun _ => true, by simp, ?_⟩
    have e1 : (os.map fun _ => true).all id = true := by simp
    rw [e1]
    simp
    intro ad2
    rw [enumX_ID]
    refine dcN (S0 := []) (fun p : Int × Nat => X.d (.tup [.int (p.2 : Nat), .int p.1])) (fun p => p.1) (fun p => .int (p.2 : Nat)) os.zipIdx ?_ ?_ ?_ ad2 ?_
    · rw [List.zipIdx_map_fst]; exact hnd
    · rw [List.length_zipIdx]; omega
    · intro a ha S' K Kf hc hK
      simpa using hK
    simp
    refine ⟨0, _, rfl, ?_⟩
    rw [len_seq hs]
    refine ⟨rfl, .int n, rfl, ?_⟩
    simp
    have e2 : (os.length : Int) = n := by omega
    have hmem : ∀ c, 0 ≤ c → c < n → c ∈ os := fun c h0 h1 => hp.mem_iff.mpr (mem_rng.mpr ⟨h0, h1⟩)
    have hval : ∀ c, 0 ≤ c → c < n → valKD (kvOf (fun p : Int × Nat => p.1) (fun p => .int (p.2 : Nat)) os.zipIdx) (.inl c) = some (.int (os.idxOf c : Nat)) := fun c h0 h1 => by
      have := val_place (c := c) os 0
      rw [if_pos (hmem c h0 h1), Nat.zero_add] at this
      exact this
    generalize kvOf (fun p : Int × Nat => p.1) (fun p => D.int (p.2 : Nat)) os.zipIdx = kvs at hval ⊢
    simp [e2]
    refine ⟨rfl, .int n, rfl, ?_⟩
    simp
    refine ⟨by omega, by omega, ?_⟩
    intro ad3
    refine lcq (S0 := []) (fun n : Int => X.d (.int n)) (fun _ => true) (fun _ => .bl false) (rng n) (by rw [rng_len]; omega) ?_ ?_ ad3
    · intro a ha S' K Kf hc hk
      obtain ⟨h0, h1⟩ := mem_rng.mp ha
      have hv := hval a h0 h1
      simp [hv]
      exact hk
    rw [filter_yes]
    refine ⟨(rng n).map fun _ => false, by simp, ?_⟩
    have e3 : ((rng n).map fun _ => false).any id = false := by simp
    rw [e3]
    simp
    refine ⟨rfl, .int n, rfl, rfl, .tup (PD ts), rfl, ?_⟩
    simp
    intro ad4
    have htl := ok.sz
    refine lcq (S0 := []) (fun p : Int × Int => X.d (.tup [.int p.1, .int p.2])) (fun _ => true) (fun p => .tup [.int (os.idxOf p.1 : Nat), .int (os.idxOf p.2 : Nat)]) ts (by omega) ?_ ?_ ad4
    · intro p hpt S' K Kf hc hk
      obtain ⟨h0, h1, h2⟩ := ok.pr p hpt
      have hv1 := hval p.1 h0 (by omega)
      have hv2 := hval p.2 (by omega) h2
      simp [hv1, hv2]
      exact ⟨by decide, hk⟩
    rw [filter_yes]
    have e4 : (ts.map fun p => D.tup [.int (os.idxOf p.1 : Nat), .int (os.idxOf p.2 : Nat)]) = PD (turnT os ts) := by unfold PD turnT; rw [List.map_map]; rfl
    rw [e4]
    intro a
    exact make_map (by omega) (by omega) (by unfold PD turnT; rw [List.length_map, List.length_map]; omega) (turn_ok ok hp) rfl (hq a)
  · exact h.elim
theorem add_ok {n n' : Int} {ts ts' : List (Int × Int)} (ok : OkM n ts) (ok' : OkM n' ts') : ∀ p ∈ ts ++ shiftT n ts', 0 ≤ p.1 ∧ p.1 < n + n' ∧ 0 ≤ p.2 ∧ p.2 < n + n' ∧ p.1 ≠ p.2 := by
  intro p h
  have := ok.lo
  have := ok'.lo
  rcases List.mem_append.mp h with h | h
  · have := ok.pr p h; omega
  · obtain ⟨q, hq, rfl⟩ := List.mem_map.mp h
    have := ok'.pr q hq
    simp only
    omega
theorem around_norm {n : Int} {ps : List (Int × Int)} (h : ∀ p ∈ ps, 0 ≤ p.1 ∧ p.1 < n ∧ 0 ≤ p.2 ∧ p.2 < n ∧ p.1 ≠ p.2) {w z : Int} : z ∈ around (normT n (PD ps)) w ↔ ∃ q ∈ ps, (q.1 = z ∧ q.2 = w) ∨ (q.1 = w ∧ q.2 = z) := by
  have hm : ∀ p, p ∈ normT n (PD ps) ↔ ∃ q ∈ ps, ordP q.1 q.2 = p := fun p => by
    rw [mem_normT fun e he => ?_]
    · unfold PD
      constructor
      · rintro ⟨e, he, rfl⟩
        obtain ⟨q, hq, rfl⟩ := List.mem_map.mp he
        exact ⟨q, hq, rfl⟩
      · rintro ⟨q, hq, rfl⟩
        exact ⟨_, List.mem_map.mpr ⟨q, hq, rfl⟩, rfl⟩
    · unfold PD at he
      obtain ⟨q, hq, rfl⟩ := List.mem_map.mp he
      exact (touch_pair2 (h q hq)).2
  rw [mem_arnd, hm, hm]
  constructor
  · rintro (⟨q, hq, e⟩ | ⟨q, hq, e⟩)
    · refine ⟨q, hq, ?_⟩
      unfold ordP at e
      split at e <;> cases e <;> simp
    · refine ⟨q, hq, ?_⟩
      unfold ordP at e
      split at e <;> cases e <;> simp
  · rintro ⟨q, hq, ⟨rfl, rfl⟩ | ⟨rfl, rfl⟩⟩
    · by_cases hlt : q.1 < q.2
      · exact .inl ⟨q, hq, by unfold ordP; rw [if_pos hlt]⟩
      · exact .inr ⟨q, hq, by unfold ordP; rw [if_neg hlt]⟩
    · by_cases hlt : q.1 < q.2
      · exact .inr ⟨q, hq, by unfold ordP; rw [if_pos hlt]⟩
      · exact .inl ⟨q, hq, by unfold ordP; rw [if_neg hlt]⟩
theorem okM_add {n n' : Int} {ts ts' : List (Int × Int)} (ok : OkM n ts) (ok' : OkM n' ts') (h : n + n' ≤ 64) : OkM (n + n') (normT (n + n') (PD (ts ++ shiftT n ts'))) := okM_normT (by have := ok.lo; have := ok'.lo; omega) h fun e he => by
  unfold PD at he
  obtain ⟨q, hq, rfl⟩ := List.mem_map.mp he
  exact (touch_pair2 (add_ok ok ok' q hq)).2
theorem iso_add {n n' : Int} {ts ts' : List (Int × Int)} (ok : OkM n ts) (ok' : OkM n' ts') : Iso n ts (n + n') (normT (n + n') (PD (ts ++ shiftT n ts'))) (fun x => x) := by
  refine ⟨fun x h0 h1 => ⟨h0, by have := ok'.lo; omega⟩, fun x y _ _ _ _ e => e, fun x z h0 h1 => ?_⟩
  rw [around_norm (add_ok ok ok')]
  constructor
  · rintro ⟨q, hq, h⟩
    rcases List.mem_append.mp hq with hq | hq
    · refine ⟨z, mem_arnd.mpr ?_, rfl⟩
      rcases h with ⟨rfl, rfl⟩ | ⟨rfl, rfl⟩
      · exact .inl hq
      · exact .inr hq
    · obtain ⟨r, hr, rfl⟩ := List.mem_map.mp hq
      have := ok'.pr r hr
      simp only at h
      omega
  · rintro ⟨y, hy, rfl⟩
    rcases mem_arnd.mp hy with h | h
    · exact ⟨_, List.mem_append_left _ h, .inl ⟨rfl, rfl⟩⟩
    · exact ⟨_, List.mem_append_left _ h, .inr ⟨rfl, rfl⟩⟩
def plF (os : List Int) (x : Int) : Int := (os.idxOf x : Nat)
theorem plF_rg {n : Int} {os : List Int} (hp : os.Perm (rng n)) {x : Int} (h0 : 0 ≤ x) (h1 : x < n) : 0 ≤ plF os x ∧ plF os x < n ∧ os[(plF os x).toNat]? = some x := by
  have hl : os.length = n.toNat := by rw [hp.length_eq, rng_len]
  have m := hp.mem_iff.mpr (mem_rng.mpr ⟨h0, h1⟩)
  have l := List.idxOf_lt_length_of_mem m
  unfold plF
  refine ⟨by omega, by omega, ?_⟩
  rw [Int.toNat_natCast, List.getElem?_eq_getElem l, List.getElem_idxOf]
theorem plF_inj {n : Int} {os : List Int} (hp : os.Perm (rng n)) {x y : Int} (h0 : 0 ≤ x) (h1 : x < n) (h2 : 0 ≤ y) (h3 : y < n) (e : plF os x = plF os y) : x = y := by
  have a := (plF_rg hp h0 h1).2.2
  have b := (plF_rg hp h2 h3).2.2
  rw [e, b] at a
  exact (Option.some.inj a).symm
theorem iso_turn {n : Int} {ts : List (Int × Int)} {os : List Int} (ok : OkM n ts) (hp : os.Perm (rng n)) : Iso n ts n (normT n (PD (turnT os ts))) (plF os) := by
  refine ⟨fun x h0 h1 => ⟨(plF_rg hp h0 h1).1, (plF_rg hp h0 h1).2.1⟩, fun x y => plF_inj hp, fun x z h0 h1 => ?_⟩
  rw [around_norm (turn_ok ok hp)]
  constructor
  · rintro ⟨q, hq, h⟩
    obtain ⟨r, hr, rfl⟩ := List.mem_map.mp hq
    obtain ⟨r0, r1, r2⟩ := ok.pr r hr
    rcases h with ⟨rfl, h⟩ | ⟨h, rfl⟩
    · have e : r.2 = x := plF_inj hp (by omega) r2 h0 h1 h
      exact ⟨r.1, mem_arnd.mpr (.inl (by rw [← e]; exact hr)), rfl⟩
    · have e : r.1 = x := plF_inj hp r0 (by omega) h0 h1 h
      exact ⟨r.2, mem_arnd.mpr (.inr (by rw [← e]; exact hr)), rfl⟩
  · rintro ⟨y, hy, rfl⟩
    rcases mem_arnd.mp hy with h | h
    · exact ⟨_, List.mem_map.mpr ⟨_, h, rfl⟩, .inl ⟨rfl, rfl⟩⟩
    · exact ⟨_, List.mem_map.mpr ⟨_, h, rfl⟩, .inr ⟨rfl, rfl⟩⟩
theorem okM_turn {n : Int} {ts : List (Int × Int)} {os : List Int} (ok : OkM n ts) (hp : os.Perm (rng n)) : OkM n (normT n (PD (turnT os ts))) := okM_normT ok.lo ok.hi fun e he => by
  unfold PD at he
  obtain ⟨q, hq, rfl⟩ := List.mem_map.mp he
  exact (touch_pair2 (turn_ok ok hp q hq)).2
theorem hw_map_add (g : GM) : HW_map_add g := by
  intro xs S Q E h
  unfold sp_map_add at h
  split at h
  · rename_i m m'
    obtain ⟨rfl, ow, n, ts, n', ts', rfl, ok, rfl, ok', hn, hq⟩ := h
    have hsz : sizeLine = 16777216 := rfl
    have hn1 := ok.lo
    have hn2 := ok'.lo
    unfold w_map_add
    simp
    refine ⟨ow, .ref g.Map, true, rfl, by unfold PySem.W.kitOne; simp, ?_⟩
    simp
    refine ⟨rfl, .tup (PD ts'), rfl, ?_⟩
    simp
    intro ad
    have htl := ok.sz
    have htl' := ok'.sz
    refine lcq (S0 := []) (fun p : Int × Int => X.d (.tup [.int p.1, .int p.2])) (fun _ => true) (fun p => .tup [.int (p.1 + n), .int (p.2 + n)]) ts' (by omega) ?_ ?_ ad
    · intro p hpt S' K Kf hc hk
      simp
      refine ⟨rfl, .int n, rfl, ?_⟩
      simp
      refine ⟨rfl, .int n, rfl, ?_⟩
      simp
      exact ⟨by decide, hk⟩
    rw [filter_yes]
    have e4 : (ts'.map fun p => D.tup [.int (p.1 + n), .int (p.2 + n)]) = PD (shiftT n ts') := by unfold PD shiftT; rw [List.map_map]; rfl
    rw [e4]
    simp
    refine ⟨rfl, .int n, rfl, rfl, .int n', rfl, ?_⟩
    simp
    refine ⟨rfl, .tup (PD ts), rfl, ?_⟩
    simp
    have epx : PX ts ++ PX (shiftT n ts') = PX (ts ++ shiftT n ts') := by unfold PX; rw [List.map_append]
    have hsl : (shiftT n ts').length = ts'.length := by unfold shiftT; rw [List.length_map]
    refine ⟨by unfold PX; simp only [List.length_map]; omega, .lst (PD (ts ++ shiftT n ts')), ⟨_, by rw [epx, xdata_PX], rfl⟩, fun a => ?_⟩
    exact make_map (S0 := []) (by omega) (by omega) (by unfold PD; rw [List.length_map, List.length_append]; omega) (add_ok ok ok') rfl (hq a)
  · exact h.elim
theorem hw_map_len (g : GM) : HW_map_len g := by
  intro xs S Q E h
  unfold sp_map_len at h
  split at h
  · rename_i m
    obtain ⟨n, ts, rfl, h0, h1, hq⟩ := h
    unfold w_map_len
    simp
    refine ⟨rfl, .int n, rfl, ?_⟩
    simp
    refine ⟨rgok (by omega) (by omega), ?_⟩
    rw [rng_len]
    have e : ((n.toNat : Nat) : Int) = n := by omega
    simpa [e] using hq
  · exact h.elim
theorem hw_tied (g : GM) : HW_tied g := by
  intro xs S Q E h
  unfold sp_tied at h
  split at h
  · rename_i m a b
    obtain ⟨rfl, n, ts, rfl, ok, a0, a1, b0, b1, hab, hq⟩ := h
    have hsz : sizeLine = 16777216 := rfl
    have htl := ok.sz
    have hn := ok.hi
    unfold w_tied
    simp
    refine ⟨⟨rfl, rfl⟩, by omega, ?_⟩
    refine callP fun Q' E' hQ => ⟨n, ts, true, [a, b], rfl, rfl, by simp; omega, hQ _ ?_⟩
    refine ⟨rfl, .int n, rfl, rfl, .tup (PD ts), rfl, ?_⟩
    simp
    have e1 : PX ts ++ [X.d (.tup [.int a, .int b])] = PX (ts ++ [(a, b)]) := by unfold PX; rw [List.map_append]; rfl
    refine ⟨by omega, by unfold PX; simp only [List.length_map]; omega, .lst (PD (ts ++ [(a, b)])), ⟨_, by rw [e1, xdata_PX], rfl⟩, fun p => ?_⟩
    refine make_map (S0 := []) (by omega) (by omega) (by unfold PD; rw [List.length_map, List.length_append, List.length_singleton]; omega) (fun q hq' => ?_) rfl (hq p)
    rcases List.mem_append.mp hq' with h | h
    · have := ok.pr q h; omega
    · simp at h; subst h; simp; omega
  · exact h.elim
theorem eqv_prT (p q : Int × Int) : PyData.eqv (.tuple [.int p.1, .int p.2]) (.tuple [.int q.1, .int q.2]) = decide (p = q) := eqv_pr p q
theorem hw_cut (g : GM) : HW_cut g := by
  intro xs S Q E h
  unfold sp_cut at h
  split at h
  · rename_i m a b
    obtain ⟨rfl, n, ts, rfl, ok, a0, a1, b0, b1, hq⟩ := h
    have hsz : sizeLine = 16777216 := rfl
    have htl := ok.sz
    have hn := ok.hi
    unfold w_cut
    simp
    refine ⟨⟨rfl, rfl⟩, by omega, ?_⟩
    refine callP fun Q' E' hQ => ⟨n, ts, true, [a, b], rfl, rfl, by simp; omega, hQ _ ?_⟩
    refine ⟨rfl, .int n, rfl, rfl, .tup (PD ts), rfl, ?_⟩
    simp
    intro ad
    refine lcq (S0 := []) (fun p : Int × Int => X.d (.tup [.int p.1, .int p.2])) (fun p => decide (p ∉ [(a, b), (b, a)])) (fun p => .tup [.int p.1, .int p.2]) ts (by omega) ?_ ?_ ad
    · intro p hpt S' K Kf hc hk
      simp
      refine ⟨by omega, .tuple [.int p.1, .int p.2], rfl, .tuple [.tuple [.int a, .int b], .tuple [.int b, .int a]], rfl, rfl, rfl, ?_⟩
      have e : ([PyData.tuple [.int a, .int b], .tuple [.int b, .int a]].any fun z => PyData.eqv z (.tuple [.int p.1, .int p.2])) = decide (p ∈ [(a, b), (b, a)]) := by
        simp only [List.any_cons, List.any_nil, Bool.or_false]
        have h1 := eqv_pr (a, b) p
        have h2 := eqv_pr (b, a) p
        simp only at h1 h2
        rw [h1, h2, ← Bool.decide_or]
        exact decide_eq_decide.mpr (by rw [List.mem_cons, List.mem_singleton]; exact or_congr eq_comm eq_comm)
      rw [e]
      rw [decide_not] at hk
      exact hk
    have e4 : ((ts.filter fun p => decide (p ∉ [(a, b), (b, a)])).map fun p => D.tup [.int p.1, .int p.2]) = PD (cutT a b ts) := rfl
    rw [e4]
    intro p
    refine make_map (S0 := []) (by omega) (by omega) (by have := List.length_filter_le (fun p => decide (p ∉ [(a, b), (b, a)])) ts; unfold PD cutT; rw [List.length_map]; omega) (fun q hq' => ?_) rfl (hq p)
    have := ok.pr q (List.mem_filter.mp hq').1
    omega
  · exact h.elim
theorem down_in {n c x : Int} (h0 : 0 ≤ x) (h1 : x < n) (hc : 0 ≤ c) (hn : c < n) (h : c ≠ x) : 0 ≤ downF c x ∧ downF c x < n - 1 := by
  unfold downF
  split <;> omega
theorem down_lt {c x y : Int} (h : c ≠ x) (h' : c ≠ y) (hl : x < y) : downF c x < downF c y := by
  unfold downF
  split <;> split <;> omega
theorem drop_ok {n c : Int} {ts : List (Int × Int)} (hp : ∀ p ∈ ts, 0 ≤ p.1 ∧ p.1 < p.2 ∧ p.2 < n) (hc : 0 ≤ c) (hn : c < n) : ∀ p ∈ dropT c ts, 0 ≤ p.1 ∧ p.1 < p.2 ∧ p.2 < n - 1 := by
  intro p h
  obtain ⟨q, hq, rfl⟩ := List.mem_map.mp h
  obtain ⟨h1, h2⟩ := List.mem_filter.mp hq
  simp at h2
  have := hp q h1
  exact ⟨(down_in this.1 (by omega) hc hn h2.1).1, down_lt h2.1 h2.2 this.2.1, (down_in (by omega) this.2.2 hc hn h2.2).2⟩
theorem hw_without (g : GM) : HW_without g := by
  intro xs S Q E h
  unfold sp_without at h
  split at h
  · rename_i m c
    obtain ⟨rfl, n, ts, rfl, ok, c0, c1, hn2, hq⟩ := h
    have hsz : sizeLine = 16777216 := rfl
    have htl := ok.sz
    have hn := ok.hi
    unfold w_without
    simp
    refine ⟨⟨rfl, rfl⟩, by omega, ?_⟩
    refine callP fun Q' E' hQ => ⟨n, ts, true, [c], rfl, rfl, by simp; omega, hQ _ ?_⟩
    refine ⟨rfl, .int n, rfl, ?_⟩
    simp
    rw [if_neg (by omega)]
    refine ⟨rfl, .tup (PD ts), rfl, ?_⟩
    simp
    intro ad
    refine lcq (S0 := []) (fun p : Int × Int => X.d (.tup [.int p.1, .int p.2])) (fun p => decide (c ∉ [p.1, p.2])) (fun p => .tup [.int p.1, .int p.2]) ts (by omega) ?_ ?_ ad
    · intro p hpt S' K Kf hc hk
      simp
      have e : D.tup [D.int p.1, .int p.2] = .tup (ID [p.1, p.2]) := rfl
      rw [e, x_inT]
      rw [decide_not] at hk
      exact hk
    have hl : (ts.filter fun p => decide (c ∉ [p.1, p.2])).length ≤ 5000 := Nat.le_trans (List.length_filter_le _ _) htl
    have e4 : ((ts.filter fun p => decide (c ∉ [p.1, p.2])).map fun p => D.tup [.int p.1, .int p.2]) = PD (ts.filter fun p => decide (c ∉ [p.1, p.2])) := rfl
    rw [e4]
    have hdr : dropT c ts = (ts.filter fun p => decide (c ∉ [p.1, p.2])).map fun p => (downF c p.1, downF c p.2) := rfl
    generalize (ts.filter fun p => decide (c ∉ [p.1, p.2])) = ks at hl hdr ⊢
    refine ⟨rfl, .int n, rfl, ?_⟩
    simp
    intro ad2
    refine lcq (S0 := []) (fun p : Int × Int => X.d (.tup [.int p.1, .int p.2])) (fun _ => true) (fun p => .tup [.int (downF c p.1), .int (downF c p.2)]) ks (by omega) ?_ ?_ ad2
    · intro p hpt S' K Kf hc hk
      simp
      refine ⟨by decide, ?_⟩
      unfold downF at hk
      simpa using hk
    rw [filter_yes]
    have e5 : (ks.map fun p => D.tup [.int (downF c p.1), .int (downF c p.2)]) = PD (dropT c ts) := by rw [hdr]; unfold PD; rw [List.map_map]; rfl
    rw [e5]
    intro p
    refine make_map (S0 := []) (by omega) (by omega) (by rw [hdr]; unfold PD; rw [List.length_map, List.length_map]; omega) (fun q hq' => ?_) rfl (hq p)
    have := drop_ok ok.pr c0 c1 q hq'
    omega
  · exact h.elim
end DP

set_option Elab.async false
set_option linter.all false
set_option maxRecDepth 100000
set_option maxHeartbeats 1000000
namespace DP
open PySem PySem.Spec PyProof.Rows L2
open Evl (Ex ex_l ex_t ex_rd fresh_back)

/-! ### charts and touches: the ascending list of pairs is told by its members -/
theorem lex_ext : ∀ {xs ys : List (Int × Int)}, xs.Pairwise Lex → ys.Pairwise Lex → (∀ x, x ∈ xs ↔ x ∈ ys) → xs = ys
  | [], [], _, _, _ => rfl
  | [], y :: ys, _, _, h => absurd ((h y).mpr List.mem_cons_self) (by simp)
  | x :: xs, [], _, _, h => absurd ((h x).mp List.mem_cons_self) (by simp)
  | x :: xs, y :: ys, hx, hy, h => by
    obtain ⟨hx1, hx2⟩ := List.pairwise_cons.mp hx
    obtain ⟨hy1, hy2⟩ := List.pairwise_cons.mp hy
    have asym : ∀ {p q : Int × Int}, Lex p q → Lex q p → False := fun {p q} h1 h2 => by unfold Lex at h1 h2; omega
    have e : x = y := by
      rcases List.mem_cons.mp ((h x).mp List.mem_cons_self) with e | e
      · exact e
      · rcases List.mem_cons.mp ((h y).mpr List.mem_cons_self) with e' | e'
        · exact e'.symm
        · exact (asym (hx1 y e') (hy1 x e)).elim
    subst e
    have irr : ∀ {p : Int × Int}, ¬ Lex p p := fun {p} h1 => asym h1 h1
    congr 1
    refine lex_ext hx2 hy2 fun z => ⟨fun hz => ?_, fun hz => ?_⟩
    · rcases List.mem_cons.mp ((h z).mp (List.mem_cons_of_mem _ hz)) with e | e
      · exact (irr (e ▸ hx1 z hz)).elim
      · exact e
    · rcases List.mem_cons.mp ((h z).mpr (List.mem_cons_of_mem _ hz)) with e | e
      · exact (irr (e ▸ hy1 z hz)).elim
      · exact e
def Vp (n : Int) (p : Int × Int) : Prop := 0 ≤ p.1 ∧ p.1 < n ∧ 0 ≤ p.2 ∧ p.2 < n ∧ p.1 ≠ p.2
theorem mem_normP {n : Int} {ps : List (Int × Int)} (h : ∀ p ∈ ps, Vp n p) (p : Int × Int) : p ∈ normT n (PD ps) ↔ ∃ q ∈ ps, ordP q.1 q.2 = p := by
  rw [mem_normT fun e he => ?_]
  · unfold PD
    constructor
    · rintro ⟨e, he, rfl⟩
      obtain ⟨q, hq, rfl⟩ := List.mem_map.mp he
      exact ⟨q, hq, rfl⟩
    · rintro ⟨q, hq, rfl⟩
      exact ⟨_, List.mem_map.mpr ⟨q, hq, rfl⟩, rfl⟩
  · unfold PD at he
    obtain ⟨q, hq, rfl⟩ := List.mem_map.mp he
    exact (touch_pair2 (h q hq)).2
theorem norm_eq {n : Int} {qs rs : List (Int × Int)} (hn : 1 ≤ n) (h : ∀ p ∈ qs, Vp n p) (hr : rs.Pairwise Lex) (hm : ∀ p, p ∈ rs ↔ ∃ q ∈ qs, ordP q.1 q.2 = p) : normT n (PD qs) = rs :=
  lex_ext (normT_lex n hn _) hr fun p => (mem_normP h p).trans (hm p).symm
theorem ordP_lt {a b : Int} (h : a < b) : ordP a b = (a, b) := by unfold ordP; rw [if_pos h]
theorem ordP_ge {a b : Int} (h : ¬ a < b) : ordP a b = (b, a) := by unfold ordP; rw [if_neg h]
theorem norm_self {n : Int} {ps : List (Int × Int)} (hn : 1 ≤ n) (hp : ∀ p ∈ ps, 0 ≤ p.1 ∧ p.1 < p.2 ∧ p.2 < n) (hs : ps.Pairwise Lex) : normT n (PD ps) = ps :=
  norm_eq hn (fun p h => by have := hp p h; unfold Vp; omega) hs fun p => ⟨fun h => ⟨p, h, ordP_lt (hp p h).2.1⟩, fun ⟨q, hq, e⟩ => by rw [ordP_lt (hp q hq).2.1] at e; subst e; exact hq⟩
theorem lex_small {n : Int} {ps : List (Int × Int)} (hp : ∀ p ∈ ps, 0 ≤ p.1 ∧ p.1 < n ∧ 0 ≤ p.2 ∧ p.2 < n) (hs : ps.Pairwise Lex) : ps.length ≤ (n * n).toNat := by
  have h1 : (ps.map fun p => p.1 * n + p.2).Pairwise (· < ·) := by
    rw [List.pairwise_map]
    refine hs.imp_of_mem fun {p q} hpm hqm h => ?_
    have a := hp p hpm
    have b := hp q hqm
    rcases h with h | ⟨h, h'⟩
    · have : (p.1 + 1) * n ≤ q.1 * n := Int.mul_le_mul_of_nonneg_right (by omega) (by omega)
      rw [Int.add_mul, Int.one_mul] at this
      omega
    · rw [h]; omega
  have h2 := asc_small h1 (n := n * n) fun x hx => by
    obtain ⟨p, hpm, rfl⟩ := List.mem_map.mp hx
    have a := hp p hpm
    exact code_lt a.1 a.2.1 a.2.2.1 a.2.2.2
  rwa [List.length_map] at h2
theorem okC_mk {n : Int} {ps : List (Int × Int)} (h1 : 1 ≤ n) (h2 : n ≤ 24) (hp : ∀ p ∈ ps, 0 ≤ p.1 ∧ p.1 < p.2 ∧ p.2 < n) (hs : ps.Pairwise Lex) : OkC n ps := ⟨h1, h2, hp, hs, by
  have := lex_small (n := n) (fun p h => by have := hp p h; omega) hs
  have h3 : n * n ≤ 24 * 24 := Int.mul_le_mul h2 h2 (by omega) (by omega)
  omega⟩
theorem norm_C {n : Int} {ps : List (Int × Int)} (ok : OkC n ps) : normT n (PD ps) = ps := norm_self ok.lo ok.pr ok.st
theorem okM_C {n : Int} {ps : List (Int × Int)} (ok : OkC n ps) : OkM n ps := by have := okM_norm ok; rwa [norm_C ok] at this
/-- pairs by their first ones -/
theorem lex_flat {n : Int} {f : Int → List Int} (hf : ∀ i, (f i).Pairwise (· < ·)) : ((rng n).flatMap fun i => (f i).map fun j => (i, j)).Pairwise Lex := by
  rw [List.pairwise_flatMap]
  refine ⟨fun i _ => ?_, (rng_sorted n).imp fun {a b} h x hx y hy => ?_⟩
  · rw [List.pairwise_map]
    exact (hf i).imp fun h => .inr ⟨rfl, h⟩
  · obtain ⟨j, _, rfl⟩ := List.mem_map.mp hx
    obtain ⟨k, _, rfl⟩ := List.mem_map.mp hy
    exact .inl h
theorem mem_flat {n : Int} {f : Int → List Int} {p : Int × Int} : p ∈ ((rng n).flatMap fun i => (f i).map fun j => (i, j)) ↔ (0 ≤ p.1 ∧ p.1 < n) ∧ p.2 ∈ f p.1 := by
  rw [List.mem_flatMap]
  constructor
  · rintro ⟨i, hi, h⟩
    obtain ⟨j, hj, rfl⟩ := List.mem_map.mp h
    exact ⟨mem_rng.mp hi, hj⟩
  · rintro ⟨h, hj⟩
    exact ⟨p.1, mem_rng.mpr h, List.mem_map.mpr ⟨p.2, hj, rfl⟩⟩
def pairsL (n : Int) : List (Int × Int) := (rng n).flatMap fun i => (rng2 (i + 1) n).map fun j => (i, j)
theorem mem_pairsL {n : Int} {p : Int × Int} : p ∈ pairsL n ↔ 0 ≤ p.1 ∧ p.1 < p.2 ∧ p.2 < n := by
  unfold pairsL
  rw [mem_flat (f := fun i => rng2 (i + 1) n), mem_rng2]
  omega
theorem pairsL_lex (n : Int) : (pairsL n).Pairwise Lex := lex_flat fun i => rng2_sorted _ _

/-! ### places -/
theorem nd_asc {l : List Int} (h : l.Pairwise (· < ·)) : l.Nodup := h.imp fun h => by omega
theorem idx_of {l : List Int} (h : l.Nodup) {i : Nat} {x : Int} (e : l[i]? = some x) : l.idxOf x = i := by
  obtain ⟨hi, rfl⟩ := List.getElem?_eq_some_iff.mp e
  exact h.idxOf_getElem i hi
theorem rng_get {n x : Int} (h0 : 0 ≤ x) (h1 : x < n) : (rng n)[x.toNat]? = some x := by
  unfold rng
  rw [List.getElem?_map, List.getElem?_range (by omega)]
  simp; omega
theorem rng_idx {n x : Int} (h0 : 0 ≤ x) (h1 : x < n) : ((rng n).idxOf x : Int) = x := by
  rw [idx_of (nd_asc (rng_sorted n)) (rng_get h0 h1)]; omega
theorem rng2_get {a b x : Int} (h0 : a ≤ x) (h1 : x < b) : (rng2 a b)[(x - a).toNat]? = some x := by
  unfold rng2
  rw [List.getElem?_map, List.getElem?_range (by omega)]
  simp; omega
def keptL (n c : Int) : List Int := (rng n).filter fun x => !decide (x = c)
theorem keptL_eq {n c : Int} (h0 : 0 ≤ c) (h1 : c < n) : keptL n c = rng c ++ rng2 (c + 1) n := by
  refine asc_ext ((rng_sorted n).filter _) ?_ fun x => ?_
  · rw [List.pairwise_append]
    refine ⟨rng_sorted c, rng2_sorted _ _, fun x hx y hy => ?_⟩
    have := mem_rng.mp hx
    have := mem_rng2.mp hy
    omega
  · unfold keptL
    rw [List.mem_filter, mem_rng, List.mem_append, mem_rng, mem_rng2]
    simp; omega
theorem kept_idx {n c x : Int} (h0 : 0 ≤ c) (h1 : c < n) (x0 : 0 ≤ x) (x1 : x < n) (hx : c ≠ x) : x ∈ keptL n c ∧ ((keptL n c).idxOf x : Int) = downF c x := by
  have hm : x ∈ keptL n c := by unfold keptL; rw [List.mem_filter, mem_rng]; simp; omega
  refine ⟨hm, ?_⟩
  have hnd : (keptL n c).Nodup := nd_asc ((rng_sorted n).filter _)
  unfold downF
  by_cases hc : x > c
  · rw [if_pos hc]
    have e : (keptL n c)[(rng c).length + (x - (c + 1)).toNat]? = some x := by
      rw [keptL_eq h0 h1, List.getElem?_append_right (by omega)]
      rw [Nat.add_sub_cancel_left]
      exact rng2_get (by omega) x1
    rw [idx_of hnd e, rng_len]
    omega
  · rw [if_neg hc]
    have e : (keptL n c)[x.toNat]? = some x := by
      rw [keptL_eq h0 h1, List.getElem?_append_left (by rw [rng_len]; omega)]
      exact rng_get x0 (by omega)
    rw [idx_of hnd e]
    omega
/-! ### the maps of the laws -/
def atL (os : List Int) (i : Int) : Int := os.getD i.toNat 0
theorem atL_get {os : List Int} {i : Int} (h : i.toNat < os.length) : os[i.toNat]? = some (atL os i) := by
  unfold atL
  rw [List.getD_eq_getElem?_getD, List.getElem?_eq_getElem h]; rfl
section
variable {n : Int} {os : List Int} (hp : os.Perm (rng n))
include hp
theorem at_in {i : Int} (h0 : 0 ≤ i) (h1 : i < n) : 0 ≤ atL os i ∧ atL os i < n := by
  have hl : os.length = n.toNat := by rw [hp.length_eq, rng_len]
  have := atL_get (os := os) (i := i) (by omega)
  exact mem_rng.mp (hp.mem_iff.mp (List.mem_of_getElem? this))
theorem at_pl {x : Int} (h0 : 0 ≤ x) (h1 : x < n) : atL os (plF os x) = x := by
  unfold atL
  rw [List.getD_eq_getElem?_getD, (plF_rg hp h0 h1).2.2]; rfl
theorem pl_at {i : Int} (h0 : 0 ≤ i) (h1 : i < n) : plF os (atL os i) = i := by
  have hl : os.length = n.toNat := by rw [hp.length_eq, rng_len]
  have hnd : os.Nodup := hp.nodup_iff.mpr (nd_asc (rng_sorted n))
  have := idx_of hnd (atL_get (os := os) (i := i) (by omega))
  unfold plF
  rw [this]; omega
end
def reoL (n : Int) (ps : List (Int × Int)) (os : List Int) : List (Int × Int) := (rng n).flatMap fun i => ((rng2 (i + 1) n).filter fun j => decide (atL os j ∈ besideL n ps (atL os i))).map fun j => (i, j)
theorem reoL_lex (n : Int) (ps : List (Int × Int)) (os : List Int) : (reoL n ps os).Pairwise Lex := lex_flat fun i => (rng2_sorted _ _).filter _
theorem mem_reoL {n : Int} {ps : List (Int × Int)} {os : List Int} {p : Int × Int} : p ∈ reoL n ps os ↔ (0 ≤ p.1 ∧ p.1 < p.2 ∧ p.2 < n) ∧ atL os p.2 ∈ besideL n ps (atL os p.1) := by
  unfold reoL
  rw [mem_flat (f := fun i => (rng2 (i + 1) n).filter fun j => decide (atL os j ∈ besideL n ps (atL os i))), List.mem_filter, mem_rng2]
  simp only [decide_eq_true_eq]
  constructor
  · rintro ⟨h, h', h2⟩; exact ⟨by omega, h2⟩
  · rintro ⟨h, h2⟩; exact ⟨by omega, by omega, h2⟩
theorem turn_reo {n : Int} {ps : List (Int × Int)} {os : List Int} (ok : OkC n ps) (hp : os.Perm (rng n)) : normT n (PD (turnT os ps)) = reoL n ps os := by
  refine norm_eq ok.lo (fun p h => turn_ok (okM_C ok) hp p h) (reoL_lex n ps os) fun p => ?_
  rw [mem_reoL]
  constructor
  · rintro ⟨⟨h0, h1, h2⟩, h⟩
    rw [mem_beside] at h
    have e1 := pl_at hp h0 (by omega : p.1 < n)
    have e2 := pl_at hp (by omega : 0 ≤ p.2) h2
    rcases h.2 with h | h
    · refine ⟨_, List.mem_map.mpr ⟨_, h, rfl⟩, ?_⟩
      show ordP (plF os _) (plF os _) = p
      simp only
      rw [e1, e2, ordP_lt h1]
    · refine ⟨_, List.mem_map.mpr ⟨_, h, rfl⟩, ?_⟩
      show ordP (plF os _) (plF os _) = p
      simp only
      rw [e1, e2, ordP_ge (by omega)]
  · rintro ⟨q, hq, rfl⟩
    obtain ⟨r, hr, rfl⟩ := List.mem_map.mp hq
    obtain ⟨r0, r1, r2⟩ := ok.pr r hr
    have a1 := plF_rg hp r0 (by omega : r.1 < n)
    have a2 := plF_rg hp (by omega : 0 ≤ r.2) r2
    have b1 := at_pl hp r0 (by omega : r.1 < n)
    have b2 := at_pl hp (by omega : 0 ≤ r.2) r2
    have hne : plF os r.1 ≠ plF os r.2 := fun e => by rw [e, b2] at b1; omega
    have key : ∀ w : Int × Int, w = ordP (plF os r.1) (plF os r.2) → (0 ≤ w.1 ∧ w.1 < w.2 ∧ w.2 < n) ∧ atL os w.2 ∈ besideL n ps (atL os w.1) := ?_
    · exact key _ rfl
    rintro w rfl
    by_cases hlt : plF os r.1 < plF os r.2
    · rw [ordP_lt hlt]
      refine ⟨⟨a1.1, hlt, a2.2.1⟩, ?_⟩
      rw [b1, b2, mem_beside]
      exact ⟨by omega, .inl hr⟩
    · rw [ordP_ge hlt]
      refine ⟨⟨a2.1, by omega, a1.2.1⟩, ?_⟩
      rw [b1, b2, mem_beside]
      exact ⟨by omega, .inr hr⟩
theorem okC_reo {n : Int} {ps : List (Int × Int)} {os : List Int} (ok : OkC n ps) : OkC n (reoL n ps os) := okC_mk ok.lo ok.hi (fun p h => (mem_reoL.mp h).1) (reoL_lex n ps os)
theorem turn_same {n : Int} {ps : List (Int × Int)} (ok : OkC n ps) : normT n (PD (turnT (rng n) ps)) = ps := by
  have e : turnT (rng n) ps = ps := by
    unfold turnT
    conv => rhs; rw [← List.map_id ps]
    refine List.map_congr_left fun p h => ?_
    obtain ⟨h0, h1, h2⟩ := ok.pr p h
    rw [rng_idx h0 (by omega : p.1 < n), rng_idx (by omega : 0 ≤ p.2) h2]; rfl
  rw [e, norm_C ok]
def backL (n : Int) (os : List Int) : List Int := (rng n).map fun c => (os.idxOf c : Int)
theorem back_perm {n : Int} {os : List Int} (hp : os.Perm (rng n)) : (backL n os).Perm (rng n) := by
  refine (List.perm_ext_iff_of_nodup ?_ (nd_asc (rng_sorted n))).mpr fun x => ?_
  · unfold backL
    rw [List.Nodup, List.pairwise_map]
    refine (nd_asc (rng_sorted n)).imp_of_mem fun {a b} ha hb h e => h ?_
    obtain ⟨a0, a1⟩ := mem_rng.mp ha
    obtain ⟨b0, b1⟩ := mem_rng.mp hb
    exact plF_inj hp a0 a1 b0 b1 e
  · unfold backL
    rw [List.mem_map, mem_rng]
    constructor
    · rintro ⟨c, hc, rfl⟩
      obtain ⟨a0, a1⟩ := mem_rng.mp hc
      have := plF_rg hp a0 a1
      exact ⟨this.1, this.2.1⟩
    · rintro ⟨h0, h1⟩
      exact ⟨atL os x, mem_rng.mpr (at_in hp h0 h1), pl_at hp h0 h1⟩
theorem at_back {n : Int} {os : List Int} {i : Int} (h0 : 0 ≤ i) (h1 : i < n) : atL (backL n os) i = plF os i := by
  unfold atL backL
  rw [List.getD_eq_getElem?_getD, List.getElem?_map, rng_get h0 h1]; rfl
theorem turn_back {n : Int} {ps : List (Int × Int)} {os : List Int} (ok : OkC n ps) (hp : os.Perm (rng n)) : normT n (PD (turnT (backL n os) (reoL n ps os))) = ps := by
  rw [turn_reo (okC_reo ok) (back_perm hp)]
  refine lex_ext (reoL_lex _ _ _) ok.st fun p => ?_
  rw [mem_reoL]
  constructor
  · rintro ⟨⟨h0, h1, h2⟩, h⟩
    rw [at_back h0 (by omega), at_back (by omega) h2, mem_beside] at h
    have b1 := at_pl hp h0 (by omega : p.1 < n)
    have b2 := at_pl hp (by omega : 0 ≤ p.2) h2
    rcases h.2 with h | h
    · rw [mem_reoL] at h
      simp only [b1, b2] at h
      rcases (mem_beside.mp h.2).2 with h | h
      · exact h
      · have := ok.pr _ h
        simp only at this
        omega
    · rw [mem_reoL] at h
      simp only [b1, b2] at h
      rcases (mem_beside.mp h.2).2 with h | h
      · have := ok.pr _ h
        simp only at this
        omega
      · exact h
  · intro h
    obtain ⟨h0, h1, h2⟩ := ok.pr p h
    refine ⟨⟨h0, h1, h2⟩, ?_⟩
    rw [at_back h0 (by omega), at_back (by omega) h2, mem_beside]
    have a1 := plF_rg hp h0 (by omega : p.1 < n)
    have a2 := plF_rg hp (by omega : 0 ≤ p.2) h2
    have b1 := at_pl hp h0 (by omega : p.1 < n)
    have b2 := at_pl hp (by omega : 0 ≤ p.2) h2
    have hne : plF os p.1 ≠ plF os p.2 := fun e => by rw [e, b2] at b1; omega
    refine ⟨⟨a2.1, a2.2.1⟩, ?_⟩
    by_cases hlt : plF os p.1 < plF os p.2
    · refine .inl (mem_reoL.mpr ⟨⟨a1.1, hlt, a2.2.1⟩, ?_⟩)
      simp only [b1, b2]
      exact mem_beside.mpr ⟨by omega, .inl h⟩
    · refine .inr (mem_reoL.mpr ⟨⟨a2.1, by simp only; omega, a1.2.1⟩, ?_⟩)
      simp only [b1, b2]
      exact mem_beside.mpr ⟨by omega, .inr h⟩
/-! beside one another -/
theorem okC_add {n n' : Int} {ps ps' : List (Int × Int)} (ok : OkC n ps) (ok' : OkC n' ps') (h : n + n' ≤ 24) : OkC (n + n') (ps ++ shiftT n ps') := by
  have h1 := ok.lo
  have h2 := ok'.lo
  refine okC_mk (by omega) h (fun p hp => ?_) ?_
  · rcases List.mem_append.mp hp with hp | hp
    · have := ok.pr p hp; omega
    · obtain ⟨q, hq, rfl⟩ := List.mem_map.mp hp
      have := ok'.pr q hq
      simp only
      omega
  · rw [List.pairwise_append]
    refine ⟨ok.st, ?_, fun p hp q hq => ?_⟩
    · unfold shiftT
      rw [List.pairwise_map]
      exact ok'.st.imp fun {a b} h => by unfold Lex at h ⊢; simp only; omega
    · obtain ⟨r, hr, rfl⟩ := List.mem_map.mp hq
      have := ok.pr p hp
      have := ok'.pr r hr
      refine .inl ?_
      simp only
      omega
/-! without a cell, tied, cut -/
theorem okC_drop {n c : Int} {ps : List (Int × Int)} (ok : OkC n ps) (h0 : 0 ≤ c) (h1 : c < n) (h2 : 2 ≤ n) : OkC (n - 1) (dropT c ps) := by
  refine okC_mk (by omega) (by have := ok.hi; omega) (drop_ok ok.pr h0 h1) ?_
  unfold dropT
  rw [List.pairwise_map]
  refine (ok.st.filter _).imp_of_mem fun {p q} hp hq h => ?_
  have a := (List.mem_filter.mp hp).2
  have b := (List.mem_filter.mp hq).2
  simp at a b
  rcases h with h | ⟨h, h'⟩
  · exact .inl (down_lt a.1 b.1 h)
  · exact .inr ⟨by show downF c p.1 = downF c q.1; rw [h], down_lt a.2 b.2 h'⟩
theorem okC_filter {n : Int} {ps : List (Int × Int)} (ok : OkC n ps) (f : Int × Int → Bool) : OkC n (ps.filter f) := okC_mk ok.lo ok.hi (fun p h => ok.pr p (List.mem_filter.mp h).1) (ok.st.filter _)
theorem cut_eq {n a b : Int} {ps : List (Int × Int)} (ok : OkC n ps) : cutT a b ps = ps.filter fun p => !decide (p = ordP a b) := by
  refine List.filter_congr fun p h => ?_
  have hlt := (ok.pr p h).2.1
  rw [← decide_not]
  refine decide_eq_decide.mpr (not_congr ?_)
  rw [List.mem_cons, List.mem_singleton]
  by_cases hab : a < b
  · rw [ordP_lt hab]
    refine ⟨fun h => h.resolve_right fun e => ?_, .inl⟩
    rw [e] at hlt
    simp only at hlt
    omega
  · rw [ordP_ge hab]
    refine ⟨fun h => h.resolve_left fun e => ?_, .inr⟩
    rw [e] at hlt
    simp only at hlt
    omega
def moreL (n a b : Int) (ps : List (Int × Int)) : List (Int × Int) := (pairsL n).filter fun p => decide (p ∈ ps.filter fun p => !decide (p = ordP a b)) || decide (p = ordP a b)
theorem okC_more {n a b : Int} {ps : List (Int × Int)} (ok : OkC n ps) : OkC n (moreL n a b ps) := okC_mk ok.lo ok.hi (fun p h => mem_pairsL.mp (List.mem_filter.mp h).1) ((pairsL_lex n).filter _)
theorem tied_eq {n a b : Int} {ps : List (Int × Int)} (ok : OkC n ps) (a0 : 0 ≤ a) (a1 : a < n) (b0 : 0 ≤ b) (b1 : b < n) (hab : a ≠ b) : normT n (PD (ps ++ [(a, b)])) = moreL n a b ps := by
  refine norm_eq ok.lo (fun p h => ?_) ((pairsL_lex n).filter _) fun p => ?_
  · rcases List.mem_append.mp h with h | h
    · have := ok.pr p h; unfold Vp; omega
    · simp at h; subst h; exact ⟨a0, a1, b0, b1, hab⟩
  · unfold moreL
    rw [List.mem_filter, mem_pairsL]
    simp only [Bool.or_eq_true, decide_eq_true_eq, List.mem_filter, Bool.not_eq_true', decide_eq_false_iff_not]
    constructor
    · rintro ⟨hp, ⟨h, _⟩ | h⟩
      · exact ⟨p, List.mem_append_left _ h, ordP_lt hp.2.1⟩
      · exact ⟨(a, b), List.mem_append_right _ (by simp), h.symm⟩
    · rintro ⟨q, hq, rfl⟩
      rcases List.mem_append.mp hq with hq | hq
      · have h := ok.pr q hq
        rw [ordP_lt h.2.1]
        refine ⟨h, ?_⟩
        by_cases e : q = ordP a b
        · exact .inr e
        · exact .inl ⟨hq, e⟩
      · simp at hq
        subst hq
        refine ⟨?_, .inr rfl⟩
        by_cases hlt : a < b
        · simp only [ordP_lt hlt]; omega
        · simp only [ordP_ge hlt]; omega
theorem growL_eq {n : Int} {ps : List (Int × Int)} {cs : List Int} (ok : OkC n ps) : growN n ps 1 cs = growL n ps cs := by
  show grow n ps cs = _
  unfold grow growL
  have e : around ps = besideL n ps := by
    funext c
    have := around_beside ok c
    rwa [norm_C ok] at this
  rw [e]
end DP

set_option Elab.async false
set_option linter.all false
set_option maxRecDepth 100000
set_option maxHeartbeats 1000000
namespace DP
open PySem PySem.Spec PyProof.Rows L2
open Evl (Ex ex_l ex_t ex_rd fresh_back)

@[simp] theorem x_fzPX {Q : XQ} {S : Store} {p : Addr} {ts : List (Int × Int)} : fzQ Q (.h p) (S ++ [(p, .lst (PX ts))]) = Q (.d (.lst (PD ts))) S := by
  rw [x_fzh, x_dataL, xdata_PX]; simp
theorem qn_itE {xs ys : List Int} {S : Store} {Q : XQ} (e : xs = ys) (q : Q (.d (.bl false)) S) : dNe (.d (.tup (ID xs))) (.d (.tup (ID ys))) S Q := qn_it (by rw [e]; simpa using q)
theorem q_itE {xs ys : List Int} {S : Store} {Q : XQ} (e : xs = ys) (q : Q (.d (.bl true)) S) : dEq (.d (.tup (ID xs))) (.d (.tup (ID ys))) S Q := q_it (by rw [e]; simpa using q)
def sp_Lchart_of (g : GM) : DSp := fun xs S Q _ => match xs with
  | [.d m] => ∃ n ts, m = mapO g n ts ∧ Q (.d (chartD n ts)) S
  | _ => False
/-- _law_chart_of -/
def w_Lchart_of (g : GM) : WS := (wRet (wTup (wCons (wFld g.Map "many" (wVar 0)) (wCons (wFz (wCB dListOf (wCons (wFld g.Map "touches" (wVar 0)) wNil))) wNil))))
abbrev HW_Lchart_of (g : GM) : Prop := ∀ (xs : List X) (S : Store) (Q : XQ) (E : Exn → Store → Prop), sp_Lchart_of g xs S Q E → w_Lchart_of g { nx := fun _ S' => Q (.d .non) S', rt := Q } (startD ["_law_made"] xs) S (fun _ _ _ => False)
theorem len_Lchart_of {g : GM} (xs : List X) (S : Store) (Q : XQ) (E : Exn → Store → Prop) (h : sp_Lchart_of g xs S Q E) : xs.length = 1 := by
  unfold sp_Lchart_of at h
  split at h <;> first | rfl | exact h.elim
theorem hw_Lchart_of (g : GM) : HW_Lchart_of g := by
  intro xs S Q E h
  unfold sp_Lchart_of at h
  split at h
  · rename_i m
    obtain ⟨n, ts, rfl, hq⟩ := h
    unfold w_Lchart_of
    simp
    refine ⟨rfl, .int n, rfl, rfl, .tup (PD ts), rfl, ?_⟩
    simp
    exact ⟨_, ⟨_, xdata_PX ts, rfl⟩, by decide, hq⟩
  · exact h.elim
section
variable {g : GM} {n a b : Int} {ps ts : List (Int × Int)} {S : Store} {Q : XQ} {E : Exn → Store → Prop}
theorem c_chart_of (h : Q (.d (chartD n ts)) S) : callD (sp_Lchart_of g) [] [.d (mapO g n ts)] S Q E :=
  callP fun Q' E' hQ => ⟨n, ts, rfl, hQ _ h⟩
theorem c_turned2 {d : D} {bb : Bool} {os : List Int} (hs : seqD d = some (bb, ID os)) (ok : OkC n ps) (hp : os.Perm (rng n)) (h : Q (.d (mapO g n (normT n (PD (turnT os ps))))) S) : callD (sp_turned g) [] [.d (mapO g n ps), .d d] S (fzQ Q) E :=
  callF fun Q' E' hQ => ⟨rfl, n, ps, bb, os, rfl, okM_C ok, hs, hp, fun p => hQ _ _ (by
    rw [x_fzh]; exact ⟨_, rfl, h⟩)⟩
theorem c_add2 {n' : Int} {ps' : List (Int × Int)} (ok : OkC n ps) (ok' : OkC n' ps') (hn : n + n' ≤ 24) (h : Q (.d (mapO g (n + n') (ps ++ shiftT n ps'))) S) : callD (sp_map_add g) [] [.d (mapO g n ps), .d (mapO g n' ps')] S (fzQ Q) E :=
  callF fun Q' E' hQ => ⟨rfl, g.own, n, ps, n', ps', rfl, okM_C ok, rfl, okM_C ok', by omega, fun a => hQ _ _ (by
    rw [norm_C (okC_add ok ok' hn), x_fzh]; exact ⟨_, rfl, h⟩)⟩
theorem c_grown2 {d : D} {bb : Bool} {as : List Int} (hs : seqD d = some (bb, ID as)) (ok : OkC n ps) (ha : Cs n as) (h : Q (.d (.tup (ID (growL n ps as)))) S) : callD (sp_grown g) [] [.d (mapO g n ps), .d d, .d (.int 1)] S Q E :=
  callP fun Q' E' hQ => ⟨n, ps, bb, as, rfl, okM_C ok, hs, by have := ha.len; have := ok.hi; omega, ha.rg, by decide, by decide, hQ _ (by
    show Q (.d (.tup (ID (growN n ps 1 (part n as))))) S
    rw [ha.part, growL_eq ok]; exact h)⟩
theorem c_Lgrown {d : D} {bb : Bool} {as : List Int} (hs : seqD d = some (bb, ID as)) (ok : OkC n ps) (ha : as.length ≤ 1000) (h : Q (.d (.tup (ID (growL n ps as)))) S) : callD (sp_Lgrown g) [] [.d (chartD n ps), .d d] S Q E :=
  callP fun Q' E' hQ => ⟨n, ps, bb, as, rfl, ok, rfl, hs, ha, hQ _ h⟩
theorem c_poured2 {d e : D} {bb b2 : Bool} {as ws : List Int} (hs : seqD d = some (bb, ID as)) (hs2 : seqD e = some (b2, ID ws)) (ok : OkC n ps) (ha : Cs n as) (hw : Cs n ws) (h : Q (.d (.tup (ID (pourL n ps as ws)))) S) : callD (sp_poured g) [] [.d (mapO g n ps), .d d, .d e] S Q E :=
  callP fun Q' E' hQ => ⟨rfl, n, ps, bb, as, b2, ws, rfl, okM_C ok, hs, hs2, by have := hw.len; have := ok.hi; omega, ha.rg, hw.rg, hQ _ h⟩
theorem c_Lpoured {d e : D} {bb b2 : Bool} {as ws : List Int} (hs : seqD d = some (bb, ID as)) (hs2 : seqD e = some (b2, ID ws)) (ok : OkC n ps) (hw : Cs n ws) (h : Q (.d (.tup (ID (pourL n ps as ws)))) S) : callD (sp_Lpoured g) [] [.d (chartD n ps), .d d, .d e] S Q E :=
  callP fun Q' E' hQ => ⟨rfl, n, ps, bb, as, b2, ws, rfl, ok, hs, hs2, hw.rg, hQ _ (by rw [norm_C ok]; exact h)⟩
theorem tr_chart (ok : OkC n ps) : Tr 3 4000 (chartD n ps) := by
  have h1 : Tr 2 (576 * 3) (.lst (PD ps)) := (tr_lst (k := 1) (b := 2) fun d hd => by
    obtain ⟨p, hp, rfl⟩ := List.mem_map.mp hd
    have := ok.pr p hp
    have := ok.hi
    refine (tr_tup (k := 0) (b := 0) fun d hd => ?_).up (Nat.le_refl _) (Nat.le_refl _)
    simp at hd
    rcases hd with rfl | rfl <;> exact tr_int (by omega) (by omega)).up (Nat.le_refl _) (by
      have := ok.sz
      have e : (PD ps).length = ps.length := by unfold PD; rw [List.length_map]
      rw [e]; omega)
  refine (tr_tup (k := 2) (b := 576 * 3) fun d hd => ?_).up (Nat.le_refl _) (by simp)
  simp at hd
  rcases hd with rfl | rfl
  · exact (tr_int (by have := ok.lo; omega) (by have := ok.hi; omega)).up (by decide) (by decide)
  · exact h1
theorem qn_chart (ok : OkC n ps) (q : Q (.d (.bl false)) S) : dNe (.d (chartD n ps)) (.d (chartD n ps)) S Q := q_neT ((tr_chart ok).up (by decide) (Nat.le_refl _)) q
theorem q_chart (ok : OkC n ps) (q : Q (.d (.bl true)) S) : dEq (.d (chartD n ps)) (.d (chartD n ps)) S Q := q_eqT ((tr_chart ok).up (by decide) (Nat.le_refl _)) q
theorem q_own {n' : Int} {ts' : List (Int × Int)} (h : Q (.d (.bl (decide (n = n' ∧ ts = ts')))) S) : dOwn g.K g.Map (sp_map_eq g) (.d (mapO g n ts)) (.d (mapO g n' ts')) S Q := ⟨rfl, ⟨g.own, by unfold PySem.W.notFirst; simp⟩, callP fun Q' E' hQ => ⟨n, ts, n', ts', rfl, rfl, g.own, hQ _ ⟨_, rfl, h⟩⟩⟩
theorem q_neO {n' : Int} {ts' : List (Int × Int)} (h : Q (.d (.bl (!decide (n = n' ∧ ts = ts')))) S) : dNeO g.K g.Map (sp_map_eq g) (.d (mapO g n ts)) (.d (mapO g n' ts')) S Q := ⟨rfl, ⟨g.own, by unfold PySem.W.notFirst; simp⟩, callP fun Q' E' hQ => ⟨n, ts, n', ts', rfl, rfl, g.own, hQ _ ⟨_, rfl, h⟩⟩⟩
theorem cs_one (a0 : 0 ≤ a) (a1 : a < n) : Cs n [a] := ⟨by simp, by simpa using ⟨a0, a1⟩⟩
theorem cs_rng : Cs n (rng n) := ⟨rng_sorted n, fun c hc => mem_rng.mp hc⟩
theorem q_pairE {p q : Int × Int} (h : Q (.d (.bl (decide (p = q)))) S) : dEq (.d (.tup [.int p.1, .int p.2])) (.d (.tup [.int q.1, .int q.2])) S Q := ⟨_, rfl, _, rfl, rfl, rfl, by rw [eqv_pr]; exact h⟩
theorem qn_pairE {p q : Int × Int} (h : Q (.d (.bl (!decide (p = q)))) S) : dNe (.d (.tup [.int p.1, .int p.2])) (.d (.tup [.int q.1, .int q.2])) S Q := ⟨_, rfl, _, rfl, rfl, rfl, by rw [eqv_pr]; exact h⟩
end
section
variable {g : GM} {b p : Addr} {s : DLs} {n n' : Int} {ps ps' : List (Int × Int)} {S : Store} {Q : XQ} {E : Exn → Store → Prop}
theorem c_mixedF {d : D} {bb : Bool} {cs : List Int} (hs : seqD d = some (bb, ID cs)) (hl : cs.length < 1000)
    (h : ∀ (s : DLs) cs', cs'.Perm cs → Q (.d (.lst (ID cs'))) (dS b p s)) : callD (sp_Lmixed g) [0, 1] [.h p, .d d] (dS b p s) (fzQ Q) E :=
  callI (Sc := dS b p s) rfl (by decide) fun Q' E' hQ => ⟨b, s.ys, s.m, bb, cs, rfl, s.ok, hs, hl, fun ys' m' cs' q o hp => hQ (.h q) (dealS b p ys' m') [(q, .lst (IX cs'))] rfl (by
    show fzQ Q (.h q) (dS b p ⟨ys', m', o⟩ ++ [(q, .lst (IX cs'))])
    rw [x_fzIX]
    exact h ⟨ys', m', o⟩ cs' hp)⟩
theorem c_len (h0 : 0 ≤ n) (h1 : n ≤ 1000) (h : Q (.d (.int n)) S) : dLenO g.Map (sp_map_len g) [.d (mapO g n ps)] S Q :=
  ⟨rfl, callP fun Q' E' hQ => ⟨n, ps, rfl, h0, h1, hQ _ ⟨n, rfl, h0, by omega, h⟩⟩⟩
theorem call_mapC (ok : OkC n ps) (h : Q (.d (mapO g n ps)) S) : callD (sp_Lmap_of g) [] [.d (chartD n ps)] S (fzQ Q) E :=
  call_map ok (by rw [norm_C ok]; exact h)
end
theorem IXat {os : List Int} {i : Int} (h0 : 0 ≤ i) (h1 : i.toNat < os.length) : atI (IX os) i = some (.d (.int (atL os i))) := by
  have := atI_nat (xs := IX os) (j := i.toNat) (v := .d (.int (atL os i))) (by
    unfold IX
    rw [List.getElem?_map, atL_get h1]; rfl)
  rw [Int.toNat_of_nonneg h0] at this
  exact this
end DP

set_option Elab.async false
set_option linter.all false
set_option maxRecDepth 100000
set_option maxHeartbeats 1000000
namespace DP
open PySem PySem.Spec PyProof.Rows L2
open Evl (Ex ex_l ex_t ex_rd fresh_back)

/-! ### a, *b = a list -/
section
variable {prog : Program} {w : World} {A : Around} {E : Value → Shared → Prop} {s : Shared}
theorem walk_rest (hh : A.handled = none) (I ax : Addr) (hne : ax ≠ I) (x : Value) (rest : List Value) :
    Walks prog w A I [I, ax] [I] rest.length (fun i v => rest[i]? = some v) (fun i h => h.IsListIter I ax (i + 1) ∧ h.IsList ax (x :: rest).toArray) where
  sub := fun b hb => by simp at hb; simp [hb]
  frame := fun _ _ _ st hk => ⟨st.1.at fun o e => hk I (by simp) o e, st.2.at fun o e => hk ax (by simp) o e⟩
  item := fun i s Q E hi st hQ => by
    refine wpAny_pyNext_list_item st.1 st.2 (x := rest[i]) (by simp [hi]) fun h' hit' hs' => ?_
    exact hQ _ h' s.toks (by simp [hi]) ⟨hit', st.2.extBut hs'.extBut hne⟩ fun b o hb e => hs'.extBut b o (fun h => hb (by simp [h])) e
  done := fun s Q E st hQ => wpAny_pyNext_list_end hh st.1 st.2 (by simp) fun h' he' => hQ h' s.toks fun b o hb e => he' b o (fun h => hb (by simp [h])) e
  self := fun _ _ _ _ st hQ => wpAny_pyIter_listiter st.1 hQ
theorem items_eq {rest : List Value} {acc : Array Value} (h : ItemsOf (fun i v => rest[i]? = some v) acc rest.length) : acc.toList = rest := by
  obtain ⟨h1, h2⟩ := h
  refine List.ext_getElem? fun i => ?_
  by_cases hi : i < rest.length
  · have := h2 i (acc[i]'(by omega)) (by simp [show i < acc.size by omega])
    rw [this]
    simp [show i < acc.size by omega]
  · rw [List.getElem?_eq_none (by simp; omega), List.getElem?_eq_none (by omega)]
theorem star_items {l : Addr} {x : Value} {rest : List Value} {Q : List Value → Shared → Prop} (hh : A.handled = none) (hh1 : A.in1.handled = none) (hl : s.heap.IsList l (x :: rest).toArray) (hz : rest.length ≤ sizeLine)
    (hQ : ∀ (h' : Heap) (tk : Nat), (∀ b o, s.heap.get? b = some o → h'.get? b = some o) →
      Q [x, .ref h'.objs.size] { s with heap := h'.push { cls := .type "list", data := .seq rest.toArray }, toks := tk }) : wpAny (model prog w) A (unpackItems (.ref l) 2 (some 1)) Q E s := by
  have hlt : l ≠ s.heap.objs.size := by obtain ⟨o, ho, _⟩ := hl; exact Nat.ne_of_lt (Heap.lt_size ho)
  unfold unpackItems
  refine wpAny_bind ?_
  unfold notIterableAtAll
  refine wpAny_bind (wpAny_specialOf hl.typeIs slot_list_iter.lookup ?_)
  refine wpAny_pure ?_
  simp only [Bool.false_eq_true, if_false]
  refine wpAny_bind (wpAny_holding (wpAny_pyIter_list hl ?_))
  refine wpAny_bind (wpAny_holding (PySem.W.kun_draw hlt 1 0 _ _ ⟨_, Heap.get?_push_size _ rfl, rfl, rfl⟩ (hl.push _) (by simp) fun h₁ hit₁ hs₁ => ?_))
  have hl₁ : h₁.IsList l (x :: rest).toArray := (hl.push _).extBut hs₁.extBut hlt
  have e1 : List.take 1 (List.drop 0 (x :: rest).toArray.toList) = [x] := by simp
  rw [e1]
  rw [if_neg (by simp)]
  have hsz : h₁.objs.size = s.heap.objs.size + 1 := by rw [hs₁.1]; exact Heap.size_push ..
  refine wpAny_bind (wpAny_holding (wpAny_collect_iter (T := "list_iterator") (.inr (.inr (.inl rfl))) (Walks.toS (walk_rest hh1 s.heap.objs.size l hlt x rest)) (fun i s st => st.1.typeIs) ⟨hit₁, hl₁⟩ (fun b hb => ?_) (by simp) (fun s' acc hm hacc => ?_) hz))
  · have e : b = s.heap.objs.size ∨ b = l := by simpa using hb
    show b < h₁.objs.size
    rw [hsz]
    rcases e with z | z
    · rw [z]; exact Nat.lt_succ_self _
    · rw [z]; obtain ⟨o, ho, _⟩ := hl; exact Nat.lt_succ_of_lt (Heap.lt_size ho)
  rw [items_eq hacc]
  simp only [Nat.sub_self, Nat.reduceSub, Nat.not_lt_zero, if_false, Nat.sub_zero, List.take_length]
  refine wpAny_bind (wpAny_newList (wpAny_pure ?_) hz)
  obtain ⟨m1, m2, m3, m4, m5⟩ := hm
  obtain ⟨hp, g, d, tk, os⟩ := s'
  simp only at m1 m2 m3 m4 m5 ⊢
  subst m2 m3 m4
  rw [List.drop_length]
  refine hQ hp tk fun b o e => ?_
  have hb : b ≠ s.heap.objs.size := Nat.ne_of_lt (Heap.lt_size e)
  exact m1 b o (by simpa using hb) (hs₁.extBut b o hb (Heap.get?_push_of_some _ e))
end
def gStar1 (K : PySem.W.Frag) (t : TGs) : TG := fun v σ H Q => ∃ a x xs, v = .ref a ∧ SqL K H a (x :: xs) ∧ ∀ p, H p = none → t [x, .ref p] σ (upd H p (.lst xs)) Q
section
variable {X : Cx} {pos : Pos}
theorem pg_star1 {es : List Expr} {k : Nat} {t : TGs} (hc : X.calm = true) (h : PGs X es t)
    (hn : (assignEach es X.env).length = 2 := by rfl) (hst : (assignEach es X.env).findIdx? (·.1) = some 1 := by rfl) : PG X (.Tuple es k pos) (gStar1 X.K t) := by
  refine ⟨fun pins s σ H v u Q I r hw => ?_⟩
  obtain ⟨a, x, xs, e1, hq, hw⟩ := hw
  subst e1
  cases r
  obtain ⟨its, rv, pl, hz⟩ := I.list hq
  cases rv with
  | @cons _ ux _ us rx rs =>
  rw [PyProof.Rows.assign_Tuple]
  refine wpAny_bind (wpAny_standAt ?_)
  unfold unpack
  rw [hn, hst]
  have hl := rs.length
  rw [List.length_cons] at hz
  refine wpAny_bind (wpAny_holding (star_items (I.ok.hd hc) (I.ok.hd hc) pl.isList (by omega) fun h' tk hx => ?_))
  have I1 : Inv X pins σ H { s with heap := h', toks := tk } := I.kept hx
  have I2 : Inv X pins σ (upd H h'.objs.size (.lst xs)) { s with heap := h'.push { cls := .type "list", data := .seq us.toArray }, toks := tk } :=
    I1.laid (t' := tk) (fun b o e => Heap.get?_push_of_some _ e) (Nat.le_refl _) (show ObjOk X.prog X.w _ _ _ (.lst xs) from ⟨by omega, us, _, rs, Heap.get?_push_size _ rfl⟩)
  exact h.run pins _ σ _ [x, .ref h'.objs.size] [ux, .ref h'.objs.size] Q I2 (.cons rx (.cons rfl .nil)) (hw _ (I1.hok.fresh (Nat.le_refl _)))
end
def dStar1 (r : DTgs) : DTg := fun x δ S Q => match x with | .d (.lst (y :: ys)) => ∀ p, r [.d y, .h p] δ (S ++ [(p, .lst (ys.map X.d))]) Q | _ => False
theorem rg_star1 {K : PySem.W.Frag} {t : TGs} {dgs : DTgs} {ws : List Nat} (h : RGs K t dgs ws) : RG K (gStar1 K t) (dStar1 dgs) ws := fun A F δ S σ H v x Q Q' st r hw k => by
  unfold dStar1 at hw
  split at hw
  · rename_i y ys
    have r : Rep K F v (.lst (y :: ys)) := r
    cases r with
    | lst h1 h2 =>
      cases h2 with
      | @cons vy _ vs _ ry rys =>
      refine ⟨_, vy, vs, rfl, SqL.of (st.fr _ _ h1), fun p hp => ?_⟩
      have st' := st.made (c := .lst (ys.map X.d)) (o := .lst vs) hp ⟨fresh_back st.fr hp, vs, upd_same, rys.xs⟩
      exact h A F δ _ σ _ [vy, .ref p] [.d y, .h p] Q Q' st' (.cons ry (.cons rfl .nil)) (hw p) k
  · exact hw.elim
theorem fg_star1 {Y : Cx} {pos : Pos} {K0 : PySem.W.Frag} [hKK : HasK Y K0] {es : List Expr} {k : Nat} {t : TGs} {dgs : DTgs} {ws : List Nat} (hc : Y.calm = true) (h : FGs Y es t dgs ws) (hn : (assignEach es Y.env).length = 2 := by rfl) (hst : (assignEach es Y.env).findIdx? (·.1) = some 1 := by rfl) :
    FG Y (.Tuple es k pos) (gStar1 K0 t) (dStar1 dgs) ws := by
  obtain ⟨rfl⟩ := hKK
  exact ⟨pg_star1 hc h.pg hn hst, rg_star1 h.re⟩
/-- one of several targets that has a star -/
theorem fgs_star {Y : Cx} {e : Expr} {p : Pos} {es : List Expr} {gs : TGs} {dgs : DTgs} {ws : List Nat} (h : FGs Y (e :: es) gs dgs ws) (he : (assignEach (.Starred e p :: es) Y.env).map (·.2) = (assignEach (e :: es) Y.env).map (·.2) := by rfl) : FGs Y (.Starred e p :: es) gs dgs ws :=
  ⟨⟨fun pins s σ H vs us Q I r hw => by rw [he]; exact h.pg.run pins s σ H vs us Q I r hw⟩, h.re⟩
@[simp] theorem x_dStar1 {r : DTgs} {y : D} {ys : List D} {δ : Env} {S : Store} {Q : Env → Store → Prop} : dStar1 r (.d (.lst (y :: ys))) δ S Q = ∀ p, r [.d y, .h p] δ (S ++ [(p, .lst (ys.map X.d))]) Q := rfl

/-! ### t <= u, tuples of numbers -/
def lexLe : List Int → List Int → Bool
  | [], _ => true
  | _ :: _, [] => false
  | x :: xs, y :: ys => if x = y then lexLe xs ys else decide (x ≤ y)
theorem lexAt_shift {e r e' r' : Nat → Bool} {z : Bool} : ∀ (k i : Nat), (∀ j, e' j = e (j + 1)) → (∀ j, r' j = r (j + 1)) → Ob.lexAt e' r' z i k = Ob.lexAt e r z (i + 1) k
  | 0, _, _, _ => rfl
  | k + 1, i, h1, h2 => by rw [Ob.lexAt_succ, Ob.lexAt_succ, h1, h2, lexAt_shift k (i + 1) h1 h2]
theorem lexLe_eq : ∀ ns ms : List Int, Ob.lexAt (fun j => decide (ns.getD j 0 = ms.getD j 0)) (fun j => decide (ns.getD j 0 ≤ ms.getD j 0)) (decide (ns.length ≤ ms.length)) 0 (min ns.length ms.length) = lexLe ns ms
  | [], ms => by simp [lexLe, Ob.lexAt]
  | _ :: _, [] => by simp [lexLe, Ob.lexAt]
  | x :: xs, y :: ys => by
    have ih := lexLe_eq xs ys
    have hm : min (x :: xs).length (y :: ys).length = min xs.length ys.length + 1 := by simp
    rw [hm, Ob.lexAt_succ]
    have hz : decide ((x :: xs).length ≤ (y :: ys).length) = decide (xs.length ≤ ys.length) := decide_eq_decide.mpr (by simp)
    rw [hz]
    unfold lexLe
    rw [← ih, lexAt_shift (e := fun j => decide ((x :: xs).getD j 0 = (y :: ys).getD j 0)) (r := fun j => decide ((x :: xs).getD j 0 ≤ (y :: ys).getD j 0)) _ 0 (fun j => by simp) (fun j => by simp)]
    simp
def isTI (x : X) (k : List Int → Prop) : Prop := ∃ ns, x = .d (.tup (ID ns)) ∧ k ns
def dLeT : DR2 := fun x y S Q => isTI x fun ns => isTI y fun ms => Q (.d (.bl (lexLe ns ms))) S
theorem isTI.ok {K : PySem.W.Frag} {A : Anc} {F H : Hp} {δ : Env} {S : Store} {σ : L2.St} {x : X} {v : V} {k : List Int → Prop} (st : ST K A F δ S σ H) (r : RepX K F v x) (h : isTI x k) : ∃ a ns, v = .ref a ∧ SqT K H a (ns.map V.int) ∧ k ns := by
  obtain ⟨ns, rfl, h⟩ := h
  have r : Rep K F v (.tup (ID ns)) := r
  cases r with
  | tup h1 h2 =>
    have := h2.xs
    rw [show (ID ns).map X.d = ns.map fun n => X.d (.int n) from IX_eq ns] at this
    rw [RepXs.ints this] at h1
    exact ⟨_, ns, rfl, ex_t st.fr h1, h⟩
theorem rr_leT {K : PySem.W.Frag} : RR K (rLeT K) dLeT := fun A F δ S σ H v u x y Q Q' st rx ry h k => by
  obtain ⟨a, ns, rfl, h1, h⟩ := isTI.ok st rx h
  obtain ⟨b, ms, rfl, h2, h⟩ := isTI.ok st ry h
  exact ⟨a, b, ns, ms, rfl, rfl, h1, h2, by rw [lexLe_eq]; exact go st k (x := .d _) (Rep.bl _) h⟩
section
variable {Y : Cx} {W : WX} {a b : Expr} {pos : Pos} {ta tb : TE} {wa wb : WE}
theorem f_leT {K0 : PySem.W.Frag} [hKK : HasK Y K0] (hu : Y.A.units < cLine) (ha : FE Y W a ta wa) (hb : FE Y W b tb wb) : FE Y W (.Compare a [.LtE] [b] pos) (tOp (rLeT K0) ta tb) (wOp dLeT wa wb) := by
  obtain ⟨rfl⟩ := hKK
  exact f_cmp (op_leT hu) rr_leT ha hb
theorem ft_leT {K0 : PySem.W.Frag} [hKK : HasK Y K0] (hu : Y.A.units < cLine) (ha : FE Y W a ta wa) (hb : FE Y W b tb wb) : FT Y W (.Compare a [.LtE] [b] pos) (tTest (tOp (rLeT K0) ta tb)) (wTest (wOp dLeT wa wb)) := by
  obtain ⟨rfl⟩ := hKK
  exact ft_cmp (op_leT hu) rr_leT ha hb
end
@[simp] theorem x_leT {ns ms : List Int} {S : Store} {Q : XQ} : dLeT (.d (.tup (ID ns))) (.d (.tup (ID ms))) S Q = Q (.d (.bl (lexLe ns ms))) S := by
  refine propext ⟨fun h => ?_, fun h => ⟨ns, rfl, ms, rfl, h⟩⟩
  obtain ⟨ns', e1, ms', e2, h⟩ := h
  have inj : ∀ {p q : List Int}, ID p = ID q → p = q := fun {p q} e => by
    have e2 := congrArg (List.map fun d => match d with | D.int i => i | _ => 0) e
    unfold ID at e2
    rw [List.map_map, List.map_map] at e2
    have hid : ∀ l : List Int, l.map ((fun d => match d with | D.int i => i | _ => 0) ∘ D.int) = l := fun l => (List.map_congr_left fun _ _ => rfl).trans (List.map_id l)
    rwa [hid, hid] at e2
  rw [inj (D.tup.inj (X.d.inj e1)), inj (D.tup.inj (X.d.inj e2))]
  exact h

/-! ### () as a default value -/
def NilT (K : PySem.W.Frag) (a : Addr) : Prop := ∃ (o : Obj) (n : Nat), K.lookup a = some o ∧ o.cls = .type "tuple" ∧ o.data = .seq #[] n
theorem dx_nilT {K : PySem.W.Frag} {F : Hp} {a : Addr} (h : NilT K a) : RepX K F (V.ref a) (X.d (.tup [])) := by
  obtain ⟨o, n, h1, h2, h3⟩ := h
  exact Rep.tup (vs := []) (.inr ⟨o, #[], n, h1, h2, h3, by decide, .nil⟩) .nil
end DP

set_option Elab.async false
set_option linter.all false
set_option maxRecDepth 100000
set_option maxHeartbeats 1000000
namespace DP
open PySem PySem.Spec PyProof.Rows L2
open Evl (Ex ex_l ex_t ex_rd fresh_back)

/-! ### classmethods: C.m(..); a class that a name holds is called -/
section
variable {X : Cx} {CX : CXT} {k : Nat} {f C p g q : Addr} {mc : Value} {fd : FuncData} {ps : List Str} {sp : Sp} {dvs : List V} {ds : List Value} {E : L2.St → XK} {m : Str} {pos apos : Pos} {e o : Expr} {es : List Expr} {ta : TE} {t : TA}
theorem run_cmS {pins : List (Addr × Obj)} {σ : L2.St} {H : Hp} {s : Shared} {Q : VK} {us : List Value} {vs : List V} (F : FnOk X.prog X.w X.K X.mg X.base CX k g fd ps sp) (hr : Room k X.A) (hb : Binds X.K fd ps ds) (hd : Vals dvs ds) (hx : PassesAt CX X σ (E σ))
    (I : L2.Inv X ((q, PySem.W.methodObj (.ref g) (.ref C)) :: pins) σ H s) (r : Vals vs us) (h : sp (.ref C :: (vs ++ dvs)) H Q (E σ)) : wpAny (model X.prog X.w) X.A (call (.ref q) us) (EP X pins σ Q) X.xe s := by
  have r2 : Vals (.ref C :: (vs ++ dvs)) (.ref C :: (us ++ ds)) := .cons rfl (r.append hd)
  have hl : (Value.ref C :: us ++ ds).length = ps.length := by rw [List.cons_append, ← r2.length]; exact F.len _ _ _ _ h
  have z : wpAny (model X.prog X.w) X.A (call (.ref q) us) (EP X ((q, PySem.W.methodObj (.ref g) (.ref C)) :: pins) σ Q) X.xe s := by
    refine wpAny_call (PySem.W.method_call (ClX.pin_at I) (codeAny_mono (F.run X.A X.stack s H ⟨.ref C :: us, []⟩ (.ref C :: (us ++ ds)) (.ref C :: (vs ++ dvs)) Q (E σ) hr I.env0 (hb s (.ref C :: us) I.kIn hl) r2 h) fun r s' hq => ?_))
    cases r with
    | error e => exact hx _ H s e s' I hq
    | ok fl =>
      cases fl with
      | ret u => exact I.after hq
      | next => exact False.elim hq
      | brk => exact False.elim hq
      | cont => exact False.elim hq
  exact wpAny_mono z (fun _ _ y => ClX.unpinE y) fun _ _ y => y
def tCMethX (C : Addr) (sp : Sp) (dvs : List V) (E : L2.St → XK) (ta : TE) (t : TA) : TE := fun σ H Q => ta σ H fun x H1 => x = .ref C ∧ t σ H1 fun vs H2 => sp (.ref C :: (vs ++ dvs)) H2 Q (E σ)
theorem pe_cmethX {pl : Sem Bool} (he : PE X o ta) (r : ClX.CRead X.K C mc) (c : ClX.CMet X.K C mc m p g) (F : FnOk X.prog X.w X.K X.mg X.base CX k g fd ps sp) (hr : Room k X.A) (hb : Binds X.K fd ps ds) (hd : Vals dvs ds) (hx : ∀ σ, PassesAt CX X σ (E σ)) (ha : PA X (e :: es) t)
    (hst : starEach (e :: es) X.env = (false, eval e X.env) :: starEach es X.env := by rfl) (hpl : (backTo pos (starEach es X.env)).any (·.1) = false := by rfl)
    (ht : eval (.Call (.Attribute o m apos) (e :: es) [] pos) X.env = (do
      let ov ← eval o X.env
      standAt apos.atName
      let (f, first) ← holding [ov] (getMethod ov m pl)
      callWith pos f first (backTo pos (starEach (e :: es) X.env)) (backToKw pos (keywordEach [] X.env))) := by rfl) :
    PE X (.Call (.Attribute o m apos) (e :: es) [] pos) (tCMethX C sp dvs E ta t) := by
  refine ⟨fun pins s σ H Q I h => ?_⟩
  refine PySem.W.methodCall_KW (pl := pl) (wpAny_mono (he.run pins s σ H _ I h) (fun u s1 ⟨x, H1, I1, rx, ex, q⟩ => ?_) fun _ _ z => z) ht
  subst ex
  obtain rfl : u = Value.ref C := rx
  refine ClX.getmethcm_ok I1 r c fun s2 I2 => ?_
  refine ClX.callwith_cm I2 (ClX.base_none I1 (Nat.le_refl _)) c.fi (wpAny_mono (ha.run pos _ s2 σ H1 _ I2 q) (fun us s3 ⟨vs, H2, I3, rv, q2⟩ => ⟨⟨ClX.pin_at I3, I3.kIn⟩, ?_⟩) fun _ _ z => z) hst hpl
  exact run_cmS F hr hb hd (hx σ) I3 rv q2
theorem pe_cmethX0 {pl : Sem Bool} (he : PE X o ta) (r : ClX.CRead X.K C mc) (c : ClX.CMet X.K C mc m p g) (F : FnOk X.prog X.w X.K X.mg X.base CX k g fd ps sp) (hr : Room k X.A) (hb : Binds X.K fd ps ds) (hd : Vals dvs ds) (hx : ∀ σ, PassesAt CX X σ (E σ))
    (ht : eval (.Call (.Attribute o m apos) [] [] pos) X.env = (do
      let ov ← eval o X.env
      standAt apos.atName
      let (f, first) ← holding [ov] (getMethod ov m pl)
      callWith pos f first (backTo pos (starEach [] X.env)) (backToKw pos (keywordEach [] X.env))) := by rfl) :
    PE X (.Call (.Attribute o m apos) [] [] pos) (tCMethX C sp dvs E ta tNil) := by
  refine ⟨fun pins s σ H Q I h => ?_⟩
  refine PySem.W.methodCall_KW (pl := pl) (wpAny_mono (he.run pins s σ H _ I h) (fun u s1 ⟨x, H1, I1, rx, ex, q⟩ => ?_) fun _ _ z => z) ht
  subst ex
  obtain rfl : u = Value.ref C := rx
  refine ClX.getmethcm_ok I1 r c fun s2 I2 => ?_
  exact PySem.W.callWith_M0 ⟨ClX.pin_at I2, I2.kIn⟩ c.fi (run_cmS (us := []) (vs := []) F hr hb hd (hx σ) I2 .nil q)
end
def wCMethX (C : Addr) (ds : DSp) (idx : List Nat) (dxs : List X) (wo : WE) (wa : WA) : WE := fun δ S Q E => wo δ S (fun o S1 => o = .d (.glob C) ∧ wa δ S1 (fun xs S2 => callD ds idx (.d (.glob C) :: (xs ++ dxs)) S2 Q fun x S' => E x δ S') E) E
theorem re_cmethX {K : PySem.W.Frag} {W : WX} {C : Addr} {ds : DSp} {idx : List Nat} {dvs : List V} {dxs : List X} {to : TE} {ta : TA} {wo : WE} {wa : WA} (hd : ∀ F, RepXs K F dvs dxs) (ho : RE K W to wo) (h : RA K W ta wa) : RE K W (tCMethX C (lift K ds) dvs (L2.WE W) to ta) (wCMethX C ds idx dxs wo wa) := fun A F δ S σ H Q E Q' st lk hw k =>
  ho A F δ S σ H _ E _ st lk hw fun F1 S1 H1 v o st1 e1 ro ⟨q1, q2⟩ => by
    subst q1
    have ro : Rep K F1 v (.glob C) := ro
    cases ro
    exact ⟨rfl, h A F1 δ S1 σ H1 _ E _ st1 lk q2 fun F2 S2 H2 vs xs st2 e2 rs q => lift_call st2 (Paired.cons (show RepX K F2 (.ref C) (.d (.glob C)) from Rep.glob C) (RepXs.app rs (hd F2))) q (fun F' S' H' v x a b => k F' S' H' v x a ((e1.trans e2).trans b)) fun F' S' H' cls d x st' re ex => lk F' δ S' σ H' cls d x st' re ex⟩
/-- the i-th slot holds the class at C -/
def tMakeL (i : Nat) (C : Addr) (sp : Sp) (dvs : List V) (E : L2.St → XK) (t : TA) : TE := fun σ H Q => σ[i]? = some (some (.ref C)) ∧ tMakeX C sp dvs E t σ H Q
def wMakeL (i : Nat) (C : Addr) (ds : DSp) (dxs : List X) (wa : WA) : WE := fun δ S Q E => δ[i]? = some (some (.d (.glob C))) ∧ wMakeX C ds dxs wa δ S Q E
theorem re_makeL {K : PySem.W.Frag} {W : WX} {i : Nat} {C : Addr} {ds : DSp} {dvs : List V} {dxs : List X} {ta : TA} {wa : WA} (hd : ∀ F, RepXs K F dvs dxs) (h : RA K W ta wa) : RE K W (tMakeL i C (lift K ds) dvs (L2.WE W) ta) (wMakeL i C ds dxs wa) := fun A F δ S σ H Q E Q' st lk hw k => by
  obtain ⟨v, h1, h2⟩ := st.env i _ hw.1
  have h2 : Rep K F v (.glob C) := h2
  cases h2
  exact ⟨h1, re_makeX hd h A F δ S σ H Q E Q' st lk hw.2 k⟩
section
variable {Y : Cx} {W : WX} {k : Nat} {f C p g : Addr} {mc : Value} {fd : FuncData} {ps : List Str} {sp : DSp} {dvs : List V} {dxs : List X} {dsv : List Value} {x m : Str} {pp pos apos : Pos} {e o : Expr} {es : List Expr} {to : TE} {ta : TA} {wo : WE} {wa : WA}
theorem f_cmethX {K0 : PySem.W.Frag} [hKK : HasK Y K0] [tk : TakesI Y W] {pl : Sem Bool} {idx : List Nat} (ho : FE Y W o to wo) (r : ClX.CRead K0 C mc) (c : ClX.CMet K0 C mc m p g) (F : FnOk Y.prog Y.w K0 Y.mg Y.base (L2.CX Y.prog Y.w) k g fd ps (lift K0 sp)) (hr : Room k Y.A) (hb : Binds K0 fd ps dsv) (hd : Vals dvs dsv) (hdx : ∀ F, RepXs K0 F dvs dxs)
    (ha : FA Y W (e :: es) ta wa) (hst : starEach (e :: es) Y.env = (false, eval e Y.env) :: starEach es Y.env := by rfl) (hpl : (backTo pos (starEach es Y.env)).any (·.1) = false := by rfl)
    (ht : eval (.Call (.Attribute o m apos) (e :: es) [] pos) Y.env = (do
      let ov ← eval o Y.env
      standAt apos.atName
      let (f, first) ← holding [ov] (getMethod ov m pl)
      callWith pos f first (backTo pos (starEach (e :: es) Y.env)) (backToKw pos (keywordEach [] Y.env))) := by rfl) :
    FE Y W (.Call (.Attribute o m apos) (e :: es) [] pos) (tCMethX C (lift K0 sp) dvs (L2.WE W) to ta) (wCMethX C sp idx dxs wo wa) := by
  obtain ⟨rfl⟩ := hKK
  exact ⟨pe_cmethX ho.pe r c F hr hb hd (fun σ => passAt tk.tk σ) ha.pa hst hpl ht, re_cmethX hdx ho.re ha.re⟩
theorem f_cmethX0 {K0 : PySem.W.Frag} [hKK : HasK Y K0] [tk : TakesI Y W] {pl : Sem Bool} {idx : List Nat} (ho : FE Y W o to wo) (r : ClX.CRead K0 C mc) (c : ClX.CMet K0 C mc m p g) (F : FnOk Y.prog Y.w K0 Y.mg Y.base (L2.CX Y.prog Y.w) k g fd ps (lift K0 sp)) (hr : Room k Y.A) (hb : Binds K0 fd ps dsv) (hd : Vals dvs dsv) (hdx : ∀ F, RepXs K0 F dvs dxs)
    (ht : eval (.Call (.Attribute o m apos) [] [] pos) Y.env = (do
      let ov ← eval o Y.env
      standAt apos.atName
      let (f, first) ← holding [ov] (getMethod ov m pl)
      callWith pos f first (backTo pos (starEach [] Y.env)) (backToKw pos (keywordEach [] Y.env))) := by rfl) :
    FE Y W (.Call (.Attribute o m apos) [] [] pos) (tCMethX C (lift K0 sp) dvs (L2.WE W) to tNil) (wCMethX C sp idx dxs wo wNil) := by
  obtain ⟨rfl⟩ := hKK
  exact ⟨pe_cmethX0 ho.pe r c F hr hb hd (fun σ => passAt tk.tk σ) ht, re_cmethX hdx ho.re ra_nil⟩
theorem f_makeL {K0 : PySem.W.Frag} [hKK : HasK Y K0] [tk : TakesI Y W] {i : Nat} (M : Mk K0 C f) (F : FnOk Y.prog Y.w K0 Y.mg Y.base (L2.CX Y.prog Y.w) k f fd ps (lift K0 sp)) (hr : Room (k + 1) Y.A) (hb : Binds K0 fd ps dsv) (hd : Vals dvs dsv) (hdx : ∀ F, RepXs K0 F dvs dxs)
    (ha : FA Y W (e :: es) ta wa) (hN : Y.N[i]? = some x := by rfl) (hv : Vis Y.env.scope x := by first | exact Or.inl rfl | exact Or.inr (Or.inl rfl) | exact Or.inr (Or.inr rfl)) (hdb : (x == ("__debug__" : Str)) = false := by decide) (hcd : (x == ("__classdict__" : Str)) = false := by decide)
    (he : starEach (e :: es) Y.env = (false, eval e Y.env) :: starEach es Y.env := by rfl) (hpl : (backTo pos (starEach es Y.env)).any (·.1) = false := by rfl) :
    FE Y W (.Call (.Name x pp) (e :: es) [] pos) (tMakeL i C (lift K0 sp) dvs (L2.WE W) ta) (wMakeL i C sp dxs wa) := by
  obtain ⟨rfl⟩ := hKK
  refine ⟨⟨fun pins s σ H Q I h => ?_⟩, re_makeL hdx ha.re⟩
  obtain ⟨hs, ht⟩ := h
  refine wpAny_Call_Name_kw (wpAny_mono ((pe_var (pos := pp) hN hv hdb hcd).run pins s σ H (fun v H1 => v = .ref C ∧ H1 = H) I ⟨.ref C, hs, rfl, rfl⟩) (fun u s1 ⟨v, H1, I1, r1, q1⟩ => ?_) fun _ _ z => z)
  obtain ⟨rfl, rfl⟩ := q1
  cases r1
  exact PySem.W.callWith_K (h₀ := Y.base) I1.ok.mod.kin M.kp (wpAny_mono (ha.pa.run pos pins s1 σ _ _ I1 ht) (fun us s2 ⟨vs, H2, I2, r, q⟩ => ⟨I2.kIn, run_makeX M F hr hb hd tk.tk I2 r q⟩) fun _ _ z => z) he hpl
end
section
variable {δ : Env} {S : Store} {Q : XQ} {E : XR}
@[simp] theorem x_cmethX {C : Addr} {ds : DSp} {idx : List Nat} {dxs : List X} {wo : WE} {wa : WA} : wCMethX C ds idx dxs wo wa δ S Q E = wo δ S (fun o S1 => o = .d (.glob C) ∧ wa δ S1 (fun xs S2 => callD ds idx (.d (.glob C) :: (xs ++ dxs)) S2 Q fun x S' => E x δ S') E) E := rfl
@[simp] theorem x_makeL {i : Nat} {C : Addr} {ds : DSp} {dxs : List X} {wa : WA} : wMakeL i C ds dxs wa δ S Q E = (δ[i]? = some (some (.d (.glob C))) ∧ wMakeX C ds dxs wa δ S Q E) := rfl
end
end DP

set_option Elab.async false
set_option linter.all false
set_option maxRecDepth 100000
set_option maxHeartbeats 1000000
namespace DP
open PySem PySem.Spec PyProof.Rows L2
open Evl (Ex ex_l ex_t ex_rd fresh_back)

/-! ### methods of texts -/
abbrev DRS := X → List X → Store → XQ → Prop
def RS1 (K : PySem.W.Frag) (r : V → List V → Hp → VK → Prop) (d : DRS) : Prop := ∀ (A : Anc) (F : Hp) (δ : Env) (S : Store) (σ : L2.St) (H : Hp) (v : V) (x : X) (vs : List V) (xs : List X) (Q : XQ) (Q' : VK), ST K A F δ S σ H → RepX K F v x → RepXs K F vs xs → d x xs S Q →
  (∀ F' S' H' v x, ST K A F' δ S' σ H' → Ex F F' → RepX K F' v x → Q x S' → Q' v H') → r v vs H Q'
def wM1 (d : DRS) (wo we : WE) : WE := fun δ S Q E => wo δ S (fun o S1 => (∃ a, o = .d (.str a)) ∧ we δ S1 (fun y S2 => d o [y] S2 Q) E) E
theorem re_m1 {K : PySem.W.Frag} {W : WX} {r : V → List V → Hp → VK → Prop} {d : DRS} {to te : TE} {wo we : WE} (hr : RS1 K r d) (ho : RE K W to wo) (h : RE K W te we) : RE K W (tM1 r to te) (wM1 d wo we) := fun A F δ S σ H Q E Q' st lk hw k =>
  ho A F δ S σ H _ E _ st lk hw fun F1 S1 H1 v o st1 e1 ro ⟨⟨a, eo⟩, q⟩ => by
    subst eo
    exact ⟨⟨a, repd_str ro⟩, h A F1 δ S1 σ H1 _ E _ st1 lk q fun F2 S2 H2 u y st2 e2 ry q2 => hr A F2 δ S2 σ H2 v (.d (.str a)) [u] [y] Q Q' st2 (RepX.mono e2 ro) (.cons ry .nil) q2 fun F' S' H' v x a b => k F' S' H' v x a ((e1.trans e2).trans b)⟩
def dSplit : DRS := fun x xs S Q => match x, xs with
  | .d (.str a), [.d (.str b)] => (b.length == 0) = false ∧ a.length + 2 ≤ sizeLine ∧ ∀ p, Q (.h p) (S ++ [(p, .lst ((Txt.split a b).map fun s => .d (.str s)))])
  | _, _ => False
theorem reps_strs {K : PySem.W.Frag} {F : Hp} : ∀ ys : List Str, RepXs K F (ys.map V.str) (ys.map fun s => X.d (.str s))
  | [] => .nil
  | y :: ys => .cons (show RepX K F (.str y) (.d (.str y)) from Rep.str y) (reps_strs ys)
theorem rs_split {K : PySem.W.Frag} : RS1 K (fun x xs H Q => ∃ a b, x = .str a ∧ xs = [.str b] ∧ (b.length == 0) = false ∧ a.length + 2 ≤ sizeLine ∧ rNewStrs (Txt.split a b) H Q) dSplit := fun A F δ S σ H v x vs xs Q Q' st rx rs h k => by
  unfold dSplit at h
  split at h
  · rename_i a b
    obtain ⟨u, rfl, r⟩ := RepXs.one rs
    obtain ⟨h1, h2, h3⟩ := h
    exact ⟨a, b, repd_str rx, by rw [repd_str r], h1, h2, fun p hp => goL st k hp (reps_strs _) h3⟩
  · exact h.elim
def dJoin : DRS := fun x xs S Q => match x, xs with
  | .d (.str a), [y] => ∃ ys : List Str, (y = .d (.lst (ys.map D.str)) ∨ y = .d (.tup (ys.map D.str))) ∧ (ys.map (·.length)).sum + ys.length * a.length ≤ 16777216 ∧ Q (.d (.str (Txt.join a ys))) S
  | _, _ => False
theorem vals_strs {K : PySem.W.Frag} {F : Hp} : ∀ {ys : List Str} {vs : List V}, RepXs K F vs ((ys.map D.str).map X.d) → vs = ys.map V.str
  | [], _, .nil => rfl
  | y :: ys, _, .cons r t => by rw [List.map_cons, vals_strs t, repd_str r]
theorem rs_join {K : PySem.W.Frag} : RS1 K (fun x xs H Q => ∃ a p, ∃ ys : List Str, x = .str a ∧ xs = [.ref p] ∧ (SqL K H p (ys.map V.str) ∨ SqT K H p (ys.map V.str)) ∧ (ys.map (·.length)).sum + ys.length * a.length ≤ 16777216 ∧ Q (.str (Txt.join a ys)) H) dJoin := fun A F δ S σ H v x vs xs Q Q' st rx rs h k => by
  unfold dJoin at h
  split at h
  · rename_i a y
    obtain ⟨u, rfl, r⟩ := RepXs.one rs
    obtain ⟨ys, hy, hz, q⟩ := h
    rcases hy with rfl | rfl
    · cases r with
      | lst h1 h2 =>
        have e := vals_strs h2.xs
        subst e
        exact ⟨a, _, ys, repd_str rx, rfl, .inl (SqL.of (st.fr _ _ h1)), hz, k F S H _ (.d (.str _)) st (Ex.refl F) (Rep.str _) q⟩
    · cases r with
      | tup h1 h2 =>
        have e := vals_strs h2.xs
        subst e
        exact ⟨a, _, ys, repd_str rx, rfl, .inr (ex_t st.fr h1), hz, k F S H _ (.d (.str _)) st (Ex.refl F) (Rep.str _) q⟩
  · exact h.elim
def dPartition : DRS := fun x xs S Q => match x, xs with
  | .d (.str a), [.d (.str b)] => (b.length == 0) = false ∧ a.length ≤ sizeLine ∧ Q (.d (.tup [.str (Txt.partition a b).1, .str (Txt.partition a b).2.1, .str (Txt.partition a b).2.2])) S
  | _, _ => False
theorem rs_partition {K : PySem.W.Frag} : RS1 K (fun x xs H Q => ∃ a b, x = .str a ∧ xs = [.str b] ∧ (b.length == 0) = false ∧ a.length ≤ sizeLine ∧
    ∀ p, H p = none → Q (.ref p) (upd H p (.tup [.str (Txt.partition a b).1, .str (Txt.partition a b).2.1, .str (Txt.partition a b).2.2]))) dPartition := fun A F δ S σ H v x vs xs Q Q' st rx rs h k => by
  unfold dPartition at h
  split at h
  · rename_i a b
    obtain ⟨u, rfl, r⟩ := RepXs.one rs
    obtain ⟨h1, h2, h3⟩ := h
    exact ⟨a, b, repd_str rx, by rw [repd_str r], h1, h2, fun p hp => goT st k hp (.cons (Rep.str _) (.cons (Rep.str _) (.cons (Rep.str _) .nil))) h3⟩
  · exact h.elim

/-! ### str of a number, int of a text, f-strings -/
def dStrI : DRC := fun xs S Q => match xs with
  | [.d (.int i)] => i.natAbs.log2 < 1920 ∧ Q (.d (.str (toString i))) S
  | _ => False
theorem rc_strI {K : PySem.W.Frag} : RC K (fun xs H Q => ∃ i : Int, xs = [.int i] ∧ i.natAbs.log2 < 1920 ∧ Q (.str (toString i)) H) dStrI := fun A F δ S σ H vs xs Q Q' st rs h k => by
  unfold dStrI at h
  split at h
  · obtain ⟨u, rfl, r⟩ := RepXs.one rs
    exact ⟨_, by rw [repd_int r], h.1, go st k (x := .d (.str _)) (Rep.str _) h.2⟩
  · exact h.elim
def dIntS : DRC := fun xs S Q => match xs with
  | [.d (.str a)] => ∃ n, PySem.intText? a = some n ∧ a.length ≤ 640 ∧ Q (.d (.int n)) S
  | _ => False
theorem rc_intS {K : PySem.W.Frag} : RC K (fun xs H Q => ∃ a n, xs = [.str a] ∧ PySem.intText? a = some n ∧ a.length ≤ 640 ∧ Q (.int n) H) dIntS := fun A F δ S σ H vs xs Q Q' st rs h k => by
  unfold dIntS at h
  split at h
  · obtain ⟨u, rfl, r⟩ := RepXs.one rs
    obtain ⟨n, h1, h2, q⟩ := h
    exact ⟨_, n, by rw [repd_str r], h1, h2, go st k (x := .d (.int _)) (Rep.int _) q⟩
  · exact h.elim
/-- {e} of an f-string: a text or a number -/
def wFmt (we : WE) : WE := fun δ S Q E => we δ S (fun x S1 => match x with
  | .d (.str y) => y.length ≤ sizeLine ∧ Q (.d (.str y)) S1
  | .d (.int i) => i.natAbs.log2 < 1920 ∧ Q (.d (.str (toString i))) S1
  | _ => False) E
theorem re_fmt {K : PySem.W.Frag} {W : WX} {te : TE} {we : WE} (h : RE K W te we) : RE K W (tFmt te) (wFmt we) := fun A F δ S σ H Q E Q' st lk hw k =>
  h A F δ S σ H _ E _ st lk hw fun F1 S1 H1 v x st1 e1 r q => by
    split at q
    · exact .inl ⟨_, repd_str r, q.1, k F1 S1 H1 _ (.d (.str _)) st1 e1 (Rep.str _) q.2⟩
    · exact .inr ⟨_, repd_int r, q.1, k F1 S1 H1 _ (.d (.str _)) st1 e1 (Rep.str _) q.2⟩
    · exact q.elim
inductive FJ (Y : Cx) (W : WX) : List Expr → List TE → List WE → Prop where
  | nil : FJ Y W [] [] []
  | cons {e : Expr} {t : TE} {w : WE} {es : List Expr} {ts : List TE} {ws : List WE} (h : FE Y W e t w) (r : FJ Y W es ts ws) : FJ Y W (e :: es) (t :: ts) (w :: ws)
def wJs : List WE → Str → Env → Store → (Str → Store → Prop) → XR → Prop
  | [], acc, _, S, Q, _ => Q acc S
  | w :: ws, acc, δ, S, Q, E => w δ S (fun x S1 => match x with
    | .d (.str y) => (acc ++ y).length ≤ sizeLine ∧ wJs ws (acc ++ y) δ S1 Q E
    | _ => False) E
def wJoined (ws : List WE) : WE := fun δ S Q E => wJs ws Str.empty δ S (fun out S1 => Q (.d (.str out)) S1) E
theorem fj_run {Y : Cx} {W : WX} {es : List Expr} {ts : List TE} {ws : List WE} (h : FJ Y W es ts ws) {A : Anc} {Q' : Str → Hp → Prop} {Q : Str → Store → Prop} {δ : Env} {E : XR} {σ : L2.St} :
    ∀ (F : Hp) (S : Store) (H : Hp) (acc : Str), ST Y.K A F δ S σ H → Link Y.K A W E → wJs ws acc δ S Q E → (∀ F' S' H' out, ST Y.K A F' δ S' σ H' → Ex F F' → Q out S' → Q' out H') → tJs ts acc σ H Q' := by
  induction h with
  | nil => exact fun F S H acc st _ hw k => k F S H acc st (Ex.refl F) hw
  | cons h r ih =>
    intro F S H acc st lk hw k
    refine h.re A F δ S σ H _ E _ st lk hw fun F1 S1 H1 v x st1 e1 rx q => ?_
    split at q
    · exact ⟨_, repd_str rx, q.1, ih F1 S1 H1 _ st1 lk q.2 fun F' S' H' out a b c => k F' S' H' out a (e1.trans b) c⟩
    · exact q.elim
theorem FJ.pj {Y : Cx} {W : WX} {es : List Expr} {ts : List TE} {ws : List WE} (h : FJ Y W es ts ws) : PJ Y es ts := by
  induction h with
  | nil => exact .nil
  | cons h r ih => exact .cons h.pe ih
section
variable {Y : Cx} {W : WX} {K0 : PySem.W.Frag} [hKK : HasK Y K0] {o e : Expr} {to te : TE} {wo we : WE} {apos pos : Pos}
theorem f_split (ho : FE Y W o to wo) (he : FE Y W e te we) (hs : starEach [e] Y.env = [(false, eval e Y.env)] := by rfl) (hbase : attributeBase o "split" Y.env (eval o Y.env) = eval o Y.env := by rfl) (hline : (apos.endLine == pos.line) = true := by rfl) :
    FE Y W (.Call (.Attribute o "split" apos) [e] [] pos) (tM1 (fun x xs H Q => ∃ a b, x = .str a ∧ xs = [.str b] ∧ (b.length == 0) = false ∧ a.length + 2 ≤ sizeLine ∧ rNewStrs (Txt.split a b) H Q) to te) (wM1 dSplit wo we) :=
  ⟨pe_split ho.pe he.pe hs hbase hline, re_m1 rs_split ho.re he.re⟩
theorem f_join (ho : FE Y W o to wo) (he : FE Y W e te we) (hs : starEach [e] Y.env = [(false, eval e Y.env)] := by rfl) (hbase : attributeBase o "join" Y.env (eval o Y.env) = eval o Y.env := by rfl) (hline : (apos.endLine == pos.line) = true := by rfl) :
    FE Y W (.Call (.Attribute o "join" apos) [e] [] pos) (tM1 (fun x xs H Q => ∃ a p, ∃ ys : List Str, x = .str a ∧ xs = [.ref p] ∧ (SqL K0 H p (ys.map V.str) ∨ SqT K0 H p (ys.map V.str)) ∧ (ys.map (·.length)).sum + ys.length * a.length ≤ 16777216 ∧ Q (.str (Txt.join a ys)) H) to te) (wM1 dJoin wo we) := by
  obtain ⟨rfl⟩ := hKK
  exact ⟨pe_join ho.pe he.pe hs hbase hline, re_m1 rs_join ho.re he.re⟩
theorem f_partition (ho : FE Y W o to wo) (he : FE Y W e te we) (hs : starEach [e] Y.env = [(false, eval e Y.env)] := by rfl) (hbase : attributeBase o "partition" Y.env (eval o Y.env) = eval o Y.env := by rfl) (hline : (apos.endLine == pos.line) = true := by rfl) :
    FE Y W (.Call (.Attribute o "partition" apos) [e] [] pos) (tM1 (fun x xs H Q => ∃ a b, x = .str a ∧ xs = [.str b] ∧ (b.length == 0) = false ∧ a.length ≤ sizeLine ∧
      ∀ p, H p = none → Q (.ref p) (upd H p (.tup [.str (Txt.partition a b).1, .str (Txt.partition a b).2.1, .str (Txt.partition a b).2.2]))) to te) (wM1 dPartition wo we) :=
  ⟨pe_partition ho.pe he.pe hs hbase hline, re_m1 rs_partition ho.re he.re⟩
theorem f_fmt (he : FE Y W e te we) : FE Y W (.FormattedValue e (-1) none pos) (tFmt te) (wFmt we) := ⟨pe_fmt he.pe, re_fmt he.re⟩
theorem f_joined {v1 v2 : Expr} {rest : List Expr} {ts : List TE} {ws : List WE} (h : FJ Y W (v1 :: v2 :: rest) ts ws) : FE Y W (.JoinedStr (v1 :: v2 :: rest) pos) (fun σ H Q => tJs ts Str.empty σ H fun out H1 => Q (.str out) H1) (wJoined ws) :=
  ⟨pe_joined h.pj, fun A F δ S σ H Q E Q' st lk hw k => fj_run h F S H Str.empty st lk hw fun F' S' H' out a b c => k F' S' H' (.str out) (.d (.str out)) a b (Rep.str out) c⟩
theorem f_joined1 (he : FE Y W e te we) : FE Y W (.JoinedStr [e] pos) te we := ⟨pe_joined1 he.pe, he.re⟩
end
section
variable {Y : Cx} {W : WX} {p pos : Pos} {e : Expr} {te : TE} {we : WE}
theorem f_strI (hm : Y.mg "str" = none) (h : FE Y W e te we) (hg : Gl Y "str" := by rfl) (he : starEach [e] Y.env = (false, eval e Y.env) :: starEach [] Y.env := by rfl) :
    FE Y W (.Call (.Name "str" p) [e] [] pos) (tCB (fun xs H Q => ∃ i : Int, xs = [.int i] ∧ i.natAbs.log2 < 1920 ∧ Q (.str (toString i)) H) (tCons te tNil)) (wCB dStrI (wCons we wNil)) :=
  f_callTy call_str_int rc_strI hm (fa1 h he) (hg := hg) (he := he)
theorem f_intS (hm : Y.mg "int" = none) (h : FE Y W e te we) (hg : Gl Y "int" := by rfl) (he : starEach [e] Y.env = (false, eval e Y.env) :: starEach [] Y.env := by rfl) :
    FE Y W (.Call (.Name "int" p) [e] [] pos) (tCB (fun xs H Q => ∃ a n, xs = [.str a] ∧ PySem.intText? a = some n ∧ a.length ≤ 640 ∧ Q (.int n) H) (tCons te tNil)) (wCB dIntS (wCons we wNil)) :=
  f_callTy call_int_str rc_intS hm (fa1 h he) (hg := hg) (he := he)
end
section
variable {S : Store} {Q : XQ} {δ : Env} {E : XR}
@[simp] theorem x_m1 {d : DRS} {wo we : WE} : wM1 d wo we δ S Q E = wo δ S (fun o S1 => (∃ a, o = .d (.str a)) ∧ we δ S1 (fun y S2 => d o [y] S2 Q) E) E := rfl
@[simp] theorem x_split {a b : Str} : dSplit (.d (.str a)) [.d (.str b)] S Q = ((b.length == 0) = false ∧ a.length + 2 ≤ sizeLine ∧ ∀ p, Q (.h p) (S ++ [(p, .lst ((Txt.split a b).map fun s => .d (.str s)))])) := rfl
@[simp] theorem x_join {a : Str} {y : X} : dJoin (.d (.str a)) [y] S Q = ∃ ys : List Str, (y = .d (.lst (ys.map D.str)) ∨ y = .d (.tup (ys.map D.str))) ∧ (ys.map (·.length)).sum + ys.length * a.length ≤ 16777216 ∧ Q (.d (.str (Txt.join a ys))) S := rfl
@[simp] theorem x_partition {a b : Str} : dPartition (.d (.str a)) [.d (.str b)] S Q = ((b.length == 0) = false ∧ a.length ≤ sizeLine ∧ Q (.d (.tup [.str (Txt.partition a b).1, .str (Txt.partition a b).2.1, .str (Txt.partition a b).2.2])) S) := rfl
@[simp] theorem x_strI {i : Int} : dStrI [.d (.int i)] S Q = (i.natAbs.log2 < 1920 ∧ Q (.d (.str (toString i))) S) := rfl
@[simp] theorem x_intS {a : Str} : dIntS [.d (.str a)] S Q = ∃ n, PySem.intText? a = some n ∧ a.length ≤ 640 ∧ Q (.d (.int n)) S := rfl
@[simp] theorem x_fmt {we : WE} : wFmt we δ S Q E = we δ S (fun x S1 => match x with
  | .d (.str y) => y.length ≤ sizeLine ∧ Q (.d (.str y)) S1
  | .d (.int i) => i.natAbs.log2 < 1920 ∧ Q (.d (.str (toString i))) S1
  | _ => False) E := rfl
@[simp] theorem x_joined {ws : List WE} : wJoined ws δ S Q E = wJs ws Str.empty δ S (fun out S1 => Q (.d (.str out)) S1) E := rfl
@[simp] theorem x_js0 {acc : Str} {R : Str → Store → Prop} : wJs [] acc δ S R E = R acc S := rfl
@[simp] theorem x_js1 {w : WE} {ws : List WE} {acc : Str} {R : Str → Store → Prop} : wJs (w :: ws) acc δ S R E = w δ S (fun x S1 => match x with
    | .d (.str y) => (acc ++ y).length ≤ sizeLine ∧ wJs ws (acc ++ y) δ S1 R E
    | _ => False) E := rfl
end
end DP

set_option Elab.async false
set_option linter.all false
set_option maxRecDepth 100000
set_option maxHeartbeats 1000000
namespace DP
open PySem PySem.Spec PyProof.Rows L2
open Evl (Ex ex_l ex_t ex_rd fresh_back)

/-! ### texts: +, in, slices, walks, methods with one text -/
def dAddS : DR2 := fun x y S Q => match x, y with
  | .d (.str a), .d (.str b) => a.length + b.length ≤ sizeLine ∧ Q (.d (.str (a ++ b))) S
  | _, _ => False
theorem rr_addS {K : PySem.W.Frag} : RR K (fun x y H Q => ∃ i j, x = .str i ∧ y = .str j ∧ i.length + j.length ≤ sizeLine ∧ Q (.str (i ++ j)) H) dAddS := fun A F δ S σ H v u x y Q Q' st rx ry h k => by
  unfold dAddS at h
  split at h
  · exact ⟨_, _, repd_str rx, repd_str ry, h.1, go st k (x := .d _) (Rep.str _) h.2⟩
  · exact h.elim
/-- whether a text has another one in it -/
def hasT (a b : Str) : Bool := !(Builtin.Str.occurrences b a 0 b.length 1).isEmpty
def dInS : DR2 := fun x y S Q => match x, y with
  | .d (.str a), .d (.str b) => Q (.d (.bl (hasT a b))) S
  | _, _ => False
def dNotInS : DR2 := fun x y S Q => match x, y with
  | .d (.str a), .d (.str b) => Q (.d (.bl (!hasT a b))) S
  | _, _ => False
theorem rr_inS {K : PySem.W.Frag} : RR K (fun x y H Q => ∃ i j, x = .str i ∧ y = .str j ∧ Q (.bl (!(Builtin.Str.occurrences j i 0 j.length 1).isEmpty)) H) dInS := fun A F δ S σ H v u x y Q Q' st rx ry h k => by
  unfold dInS at h
  split at h
  · exact ⟨_, _, repd_str rx, repd_str ry, go st k (x := .d _) (Rep.bl _) h⟩
  · exact h.elim
theorem rr_notInS {K : PySem.W.Frag} : RR K (fun x y H Q => ∃ i j, x = .str i ∧ y = .str j ∧ Q (.bl (!(!(Builtin.Str.occurrences j i 0 j.length 1).isEmpty))) H) dNotInS := fun A F δ S σ H v u x y Q Q' st rx ry h k => by
  unfold dNotInS at h
  split at h
  · exact ⟨_, _, repd_str rx, repd_str ry, go st k (x := .d _) (Rep.bl _) h⟩
  · exact h.elim
def wSlS (w : WE) (lo hi : WO) : WE := fun δ S Q E => w δ S (fun x S1 => lo δ S1 (fun l S2 => hi δ S2 (fun u S3 => match x with
  | .d (.str z) => z.length ≤ sizeLine ∧ Q (.d (.str (Txt.slice z l u))) S3
  | _ => False) E) E) E
theorem re_slS {K : PySem.W.Frag} {W : WX} {te : TE} {tl th : TO} {w : WE} {lo hi : WO} (h : RE K W te w) (h1 : RO K W tl lo) (h2 : RO K W th hi) : RE K W (tSl C8.rSlX te tl th) (wSlS w lo hi) := fun A F δ S σ H Q E Q' st lk hw k =>
  h A F δ S σ H _ E _ st lk hw fun F1 S1 H1 v x st1 e1 r q => h1 A F1 δ S1 σ H1 _ E _ st1 lk q fun F2 S2 H2 l st2 e2 q2 => h2 A F2 δ S2 σ H2 _ E _ st2 lk q2 fun F3 S3 H3 u st3 e3 q3 => by
    split at q3
    · exact ⟨_, repd_str r, q3.1, k F3 S3 H3 _ (.d (.str _)) st3 ((e1.trans e2).trans e3) (Rep.str _) q3.2⟩
    · exact q3.elim
def signsX (z : Str) : List X := z.cps.toList.map fun c => .d (.str ⟨#[c]⟩)
def wIS (w : WE) : WI := fun δ S R E => w δ S (fun x S1 => match x with
  | .d (.str z) => R (signsX z) S1
  | _ => False) E
theorem walk_s {K : PySem.W.Frag} {F1 : Hp} {z : Str} : Walk K (Its z) F1 (signsX z) where
  go := fun i F H hi e1 e2 => by
    unfold signsX at hi
    exact (by simpa using hi : i < z.cps.size)
  yld := fun i F H v H' x hx e1 e2 hy => by
    obtain ⟨rfl, c, hc, rfl⟩ := hy
    unfold signsX at hx
    have hc : z.cps.toList[i]? = some c := by simpa using hc
    rw [List.getElem?_map, hc] at hx
    cases hx
    exact ⟨F, .inl ⟨rfl, rfl⟩, Rep.str _⟩
  stop := fun F H e1 e2 => by
    show z.cps.size ≤ (signsX z).length
    unfold signsX
    simp
theorem ri_str {K : PySem.W.Frag} {W : WX} {te : TE} {w : WE} (h : RE K W te w) : RI K W (iStr te) (wIS w) := fun A F δ S σ H R E R' st lk hw k =>
  h A F δ S σ H _ E _ st lk hw fun F1 S1 H1 v x st1 e1 r q => by
    split at q
    · exact ⟨_, repd_str r, k F1 S1 H1 _ _ st1 e1 walk_s q⟩
    · exact q.elim
section
variable {Y : Cx} {W : WX} {a b : Expr} {pos : Pos} {ta tb : TE} {wa wb : WE}
theorem f_addS (ha : FE Y W a ta wa) (hb : FE Y W b tb wb) : FE Y W (.BinOp a .Add b pos) (tOp (fun x y H Q => ∃ i j, x = .str i ∧ y = .str j ∧ i.length + j.length ≤ sizeLine ∧ Q (.str (i ++ j)) H) ta tb) (wOp dAddS wa wb) := f_op op_add_str rr_addS ha hb
theorem f_inS (ha : FE Y W a ta wa) (hb : FE Y W b tb wb) (hm : behindInMarks .In b = false := by rfl) : FE Y W (.Compare a [.In] [b] pos) (tOp (fun x y H Q => ∃ i j, x = .str i ∧ y = .str j ∧ Q (.bl (!(Builtin.Str.occurrences j i 0 j.length 1).isEmpty)) H) ta tb) (wOp dInS wa wb) := f_cmp op_in_str rr_inS ha hb hm
theorem ft_inS (ha : FE Y W a ta wa) (hb : FE Y W b tb wb) (hm : behindInMarks .In b = false := by rfl) : FT Y W (.Compare a [.In] [b] pos) (tTest (tOp (fun x y H Q => ∃ i j, x = .str i ∧ y = .str j ∧ Q (.bl (!(Builtin.Str.occurrences j i 0 j.length 1).isEmpty)) H) ta tb)) (wTest (wOp dInS wa wb)) := ft_cmp op_in_str rr_inS ha hb hm
theorem f_notInS (ha : FE Y W a ta wa) (hb : FE Y W b tb wb) (hm : behindInMarks .NotIn b = false := by rfl) : FE Y W (.Compare a [.NotIn] [b] pos) (tOp (fun x y H Q => ∃ i j, x = .str i ∧ y = .str j ∧ Q (.bl (!(!(Builtin.Str.occurrences j i 0 j.length 1).isEmpty))) H) ta tb) (wOp dNotInS wa wb) := f_cmp op_notIn_str rr_notInS ha hb hm
theorem ft_notInS (ha : FE Y W a ta wa) (hb : FE Y W b tb wb) (hm : behindInMarks .NotIn b = false := by rfl) : FT Y W (.Compare a [.NotIn] [b] pos) (tTest (tOp (fun x y H Q => ∃ i j, x = .str i ∧ y = .str j ∧ Q (.bl (!(!(Builtin.Str.occurrences j i 0 j.length 1).isEmpty))) H) ta tb)) (wTest (wOp dNotInS wa wb)) := ft_cmp op_notIn_str rr_notInS ha hb hm
theorem f_slS {lo hi : Option Expr} {tl th : TO} {wl wh : WO} {p2 : Pos} (ha : FE Y W a ta wa) (hl : FO Y W lo tl wl) (hh : FO Y W hi th wh) : FE Y W (.Subscript a (.Slice lo hi none p2) pos) (tSl C8.rSlX ta tl th) (wSlS wa wl wh) :=
  ⟨pe_slice C8.sl_txt ha.pe hl.po hh.po, re_slS ha.re hl.re hh.re⟩
theorem fi_str {tg : Expr} (h : FE Y W a ta wa) : FI Y W tg a (iStr ta) (wIS wa) := ⟨pi_str h.pe, ri_str h.re⟩
end
/-! ### tuples of texts that stand in the module -/
structure StrT (K : PySem.W.Frag) (a : Addr) (xs : List Str) : Prop where
  mk0 ::
  at_ : ∃ (o : Obj) (its : Array Value) (n : Nat), K.lookup a = some o ∧ o.cls = .type "tuple" ∧ o.data = .seq its n ∧ its.size ≤ sizeLine ∧ Vals (xs.map V.str) its.toList
theorem strT_mk {K : PySem.W.Frag} {a : Addr} {xs : List Str} {o : Obj} {its : Array Value} {n : Nat} (h1 : K.lookup a = some o) (h2 : o.cls = .type "tuple") (h3 : o.data = .seq its n) (h4 : its.size ≤ sizeLine) (h5 : Vals (xs.map V.str) its.toList) : StrT K a xs := ⟨⟨o, its, n, h1, h2, h3, h4, h5⟩⟩
theorem reps_str {K : PySem.W.Frag} {F : Hp} : ∀ xs : List Str, Reps K F (xs.map V.str) (xs.map D.str)
  | [] => .nil
  | x :: xs => .cons (.str x) (reps_str xs)
theorem StrT.rep {K : PySem.W.Frag} {F : Hp} {a : Addr} {xs : List Str} (h : StrT K a xs) : Rep K F (.ref a) (.tup (xs.map D.str)) := by
  obtain ⟨o, its, n, h1, h2, h3, h4, h5⟩ := h.at_
  exact Rep.tup (.inr ⟨o, its, n, h1, h2, h3, h4, h5⟩) (reps_str xs)

theorem huI2 {k : Nat} {A : Around} (r : Room k A) : A.in1.in1.units < cLine := by
  have := r.un
  show A.units + 1 + 1 < cLine
  omega
section
variable {Y : Cx} {W : WX} {x : Str} {pos : Pos}
theorem f_globI {i : Int} {tk : Tok} (hm : Y.mg x = some (.int i tk)) (hg : Gl Y x := by rfl) (hd : (x == ("__debug__" : Str)) = false := by decide) : FE Y W (.Name x pos) (tC (.int i)) (wC (.int i)) := f_glob (v := .int i) hg hm ⟨_, rfl⟩ (fun _ => Rep.int _) hd
theorem f_globS {i : Str} {tk : Tok} (hm : Y.mg x = some (.str i tk)) (hg : Gl Y x := by rfl) (hd : (x == ("__debug__" : Str)) = false := by decide) : FE Y W (.Name x pos) (tC (.str i)) (wC (.str i)) := f_glob (v := .str i) hg hm ⟨_, rfl⟩ (fun _ => Rep.str _) hd
theorem f_globT {K0 : PySem.W.Frag} [hKK : HasK Y K0] {a : Addr} {xs : List Str} (h : StrT K0 a xs) (hm : Y.mg x = some (.ref a)) (hg : Gl Y x := by rfl) (hd : (x == ("__debug__" : Str)) = false := by decide) : FE Y W (.Name x pos) (tC (.ref a)) (wC (.tup (xs.map D.str))) := by
  obtain ⟨rfl⟩ := hKK
  exact f_glob (v := .ref a) hg hm rfl (fun _ => h.rep) hd
end
/-! ### texts by their signs -/
open SX in
section
variable {S0 : Store} {Q : XQ} {δ : Env} {E : XR}
@[simp] theorem x_slS {w : WE} {lo hi : WO} : wSlS w lo hi δ S0 Q E = w δ S0 (fun x S1 => lo δ S1 (fun l S2 => hi δ S2 (fun u S3 => match x with
  | .d (.str z) => z.length ≤ sizeLine ∧ Q (.d (.str (Txt.slice z l u))) S3
  | _ => False) E) E) E := rfl
@[simp] theorem x_is {w : WE} {R : List X → Store → Prop} : wIS w δ S0 R E = w δ S0 (fun x S1 => match x with
  | .d (.str z) => R (signsX z) S1
  | _ => False) E := rfl
@[simp] theorem x_signs {l : List Nat} : signsX (S l) = l.map fun c => X.d (.str (S [c])) := rfl
@[simp] theorem x_addS {a b : List Nat} : dAddS (.d (.str (S a))) (.d (.str (S b))) S0 Q = (a.length + b.length ≤ sizeLine ∧ Q (.d (.str (S (a ++ b)))) S0) := by
  show (_ ∧ _) = _
  rw [S_len, S_len, S_cat]
@[simp] theorem x_inSS {c : Nat} {l : List Nat} : dInS (.d (.str (S [c]))) (.d (.str (S l))) S0 Q = Q (.d (.bl (decide (c ∈ l)))) S0 := by
  show Q (.d (.bl (hasT _ _))) S0 = _
  unfold hasT
  rw [in_one]
@[simp] theorem x_notInSS {c : Nat} {l : List Nat} : dNotInS (.d (.str (S [c]))) (.d (.str (S l))) S0 Q = Q (.d (.bl (!decide (c ∈ l)))) S0 := by
  show Q (.d (.bl (!hasT _ _))) S0 = _
  unfold hasT
  rw [in_one]
@[simp] theorem x_eqSS {a b : List Nat} : dEqS (.d (.str (S a))) (.d (.str (S b))) S0 Q = Q (.d (.bl (decide (a = b)))) S0 := by
  have e : decide (S a = S b) = decide (a = b) := decide_eq_decide.mpr ⟨S_inj, fun h => by rw [h]⟩
  show (∃ c, some (decide (S a = S b)) = some c ∧ _) = _
  rw [e]
  simp
@[simp] theorem x_neSS {a b : List Nat} : dNeS (.d (.str (S a))) (.d (.str (S b))) S0 Q = Q (.d (.bl (!decide (a = b)))) S0 := by
  have e : decide (S a = S b) = decide (a = b) := decide_eq_decide.mpr ⟨S_inj, fun h => by rw [h]⟩
  show (∃ c, some (decide (S a = S b)) = some c ∧ _) = _
  rw [e]
  simp
@[simp] theorem x_lenSS {a : List Nat} : dLen [.d (.str (S a))] S0 Q = (a.length ≤ sizeLine ∧ Q (.d (.int a.length)) S0) := by
  show (_ ∧ _) = _
  rw [S_len]
@[simp] theorem x_ixSS {a : List Nat} {i : Int} : dIx (.d (.str (S a))) (.d (.int i)) S0 Q = (a.length ≤ sizeLine ∧ ∃ c, atI a i = some c ∧ Q (.d (.str (S [c]))) S0) := by
  show (_ ∧ _) = _
  rw [S_len]
end
end DP

set_option Elab.async false
set_option linter.all false
set_option maxRecDepth 100000
set_option maxHeartbeats 1000000
namespace DP
open PySem PySem.Spec PyProof.Rows L2
open Evl (Ex ex_l ex_t ex_rd fresh_back)

/-! ### texts of numbers, of touches, of maps: what they tell -/
def isDig (w : List Nat) : Bool := w.all fun c => decide (48 ≤ c) && decide (c ≤ 57)
def numO (w : List Nat) (m : Nat) : Option Int := if w = [] ∨ m < w.length ∨ isDig w = false ∨ (w ≠ [48] ∧ w.head? = some 48) then none else some (NumText.digitsVal w : Nat)
def optD : Option Int → D
  | none => .non
  | some i => .int i
def touchO (w : List Nat) : Option (Int × Int) := match TL.par [45] [] w with
  | some (p, q) => match numO p 9, numO q 9 with
    | some a, some b => if b ≤ a then none else some (a, b)
    | _, _ => none
  | none => none
def prO : Option (Int × Int) → D
  | none => .non
  | some p => .tup [.int p.1, .int p.2]
def headO (h : List Nat) : Option Int := if h.getLast? = some 58 then match numO h.dropLast 9 with
    | some n => if n < 1 then none else some n
    | none => none
  else none
def wordsIn (n : Int) : Nat → Int × Int → List (List Nat) → Nat ⊕ List (Int × Int)
  | _, _, [] => .inr []
  | k, last, w :: ws => match touchO w with
    | none => .inl (k + 1)
    | some p => if lexLe [p.1, p.2] [last.1, last.2] = true ∨ n ≤ p.2 then .inl (k + 1) else match wordsIn n (k + 1) p ws with
      | .inl j => .inl j
      | .inr ps => .inr (p :: ps)
def mapIn (t : List Nat) : Nat ⊕ (Int × List (Int × Int)) := match TL.spl [32] 0 [] t with
  | [] => .inl 0
  | h :: ws => match headO h with
    | none => .inl 0
    | some n => match wordsIn n 0 (-1, -1) ws with
      | .inl k => .inl k
      | .inr ps => .inr (n, ps)
/-- the text of a map -/
def mapT (n : Int) (ts : List (Int × Int)) : List Nat := TL.joinL [32] ((TL.numL n.toNat ++ [58]) :: ts.map fun p => TL.numL p.1.toNat ++ [45] ++ TL.numL p.2.toNat)

/-! ### promises -/
def sp_number_of (g : GX) : DSp := fun xs S Q _ => match xs with
  | [.d (.str x), .d (.int m)] => ∃ w, x = SX.S w ∧ 0 ≤ m ∧ m ≤ 600 ∧ w.length ≤ 1000000 ∧ Q (.d (optD (numO w m.toNat))) S
  | _ => False
def sp_touch_in (g : GX) : DSp := fun xs S Q _ => match xs with
  | [.d (.str x)] => ∃ w, x = SX.S w ∧ w.length ≤ 1000000 ∧ Q (.d (prO (touchO w))) S
  | _ => False
def sp_map_in (g : GX) : DSp := fun xs S Q E => match xs with
  | [.d (.str x)] => S = [] ∧ ∃ t, x = SX.S t ∧ t.length ≤ 1000000 ∧ (match mapIn t with
    | .inl k => ∀ Sj, E (.own g.InvalidText [("at", .int k)]) Sj
    | .inr (n, ps) => Q (.d (.tup [.int n, .lst (PD ps)])) [])
  | _ => False
def sp_map_read (g : GX) : DSp := fun xs S Q E => match xs with
  | [.d (.glob C), .d (.str x)] => S = [] ∧ C = g.Map ∧ ∃ t, x = SX.S t ∧ t.length ≤ 90000 ∧ (match mapIn t with
    | .inl k => ∀ Sj, E (.own g.InvalidText [("at", .int k)]) Sj
    | .inr (n, ps) => newMap g n ps Q)
  | _ => False
def sp_map_str (g : GM) : DSp := fun xs S Q _ => match xs with
  | [.d m] => ∃ n ts, m = mapO g n ts ∧ 0 ≤ n ∧ n < 10 ^ 9 ∧ (∀ p ∈ ts, 0 ≤ p.1 ∧ p.1 < 10 ^ 9 ∧ 0 ≤ p.2 ∧ p.2 < 10 ^ 9) ∧ ts.length ≤ 300000 ∧ Q (.d (.str (SX.S (mapT n ts)))) S
  | _ => False
end DP

set_option Elab.async false
set_option linter.all false
set_option maxRecDepth 100000
set_option maxHeartbeats 1000000
namespace DP
open PySem PySem.Spec PyProof.Rows L2
open Evl (Ex ex_l ex_t ex_rd fresh_back)

/-- number_of -/
def w_number_of (g : GX) : WS := (wSeq (wIfS (wOr (wTest (wOp dEqS (wVar 0) (wC (.str "")))) (wOr (wTest (wOp dGt (wCB dLen (wCons (wVar 0) wNil)) (wVar 1))) (wNot (wTest (wCB dAll (wCons (wFz (wLc (wIS (wVar 0)) (dName 2) wYes (wOp dInS (wVar 2) (wC (.str "0123456789"))) [2])) wNil)))))) (wRet (wC .non)) wNext)
  (wRet (wIf (wAnd (wTest (wOp dNeS (wVar 0) (wC (.str "0")))) (wTest (wOp dEqS (wOp dIx (wVar 0) (wC (.int 0))) (wC (.str "0"))))) (wC .non) (wCB dIntS (wCons (wVar 0) wNil)))))
abbrev HW_number_of (g : GX) : Prop := ∀ (xs : List X) (S : Store) (Q : XQ) (E : Exn → Store → Prop), sp_number_of g xs S Q E → w_number_of g { nx := fun _ S' => Q (.d .non) S', rt := Q } (startD ["word", "most", "sign"] xs) S (fun _ _ _ => False)
theorem len_number_of {g : GX} (xs : List X) (S : Store) (Q : XQ) (E : Exn → Store → Prop) (h : sp_number_of g xs S Q E) : xs.length = 2 := by
  unfold sp_number_of at h
  split at h <;> first | rfl | exact h.elim
/-- touch_in -/
def w_touch_in (g : GX) : WS := (wSeq (wAsg (wM1 dPartition (wVar 0) (wC (.str "-"))) (dTup 3 (dCons (dName 1) (dCons (dName 2) (dCons (dName 3) dNil)))))
  (wSeq (wAsg (wTup (wCons (wCall (sp_number_of g) [] [] (wCons (wVar 1) (wCons (wC (.int 9)) wNil))) (wCons (wCall (sp_number_of g) [] [] (wCons (wVar 3) (wCons (wC (.int 9)) wNil))) wNil))) (dName 4))
  (wRet (wIf (wOr (wTest (wOp dEqS (wVar 2) (wC (.str "")))) (wOr (wTest (wOp (dIn false) (wC .non) (wVar 4))) (wTest (wOp dGe (wOp dIx (wVar 4) (wC (.int 0))) (wOp dIx (wVar 4) (wC (.int 1))))))) (wC .non) (wVar 4)))))
abbrev HW_touch_in (g : GX) : Prop := ∀ (xs : List X) (S : Store) (Q : XQ) (E : Exn → Store → Prop), sp_touch_in g xs S Q E → w_touch_in g { nx := fun _ S' => Q (.d .non) S', rt := Q } (startD ["word", "one", "sign", "other", "found"] xs) S (fun _ _ _ => False)
theorem len_touch_in {g : GX} (xs : List X) (S : Store) (Q : XQ) (E : Exn → Store → Prop) (h : sp_touch_in g xs S Q E) : xs.length = 1 := by
  unfold sp_touch_in at h
  split at h <;> first | rfl | exact h.elim
def w_map_in_b1 (g : GX) : WS := (wSeq (wAsg (wCall (sp_touch_in g) [] [] (wCons (wVar 6) wNil)) (dName 7))
  (wSeq (wIfS (wOr (wTest (wIsN true (wVar 7))) (wOr (wTest (wOp dLeT (wVar 7) (wOp dIx (wVar 4) (wUn dNegI (wC (.int 1)))))) (wTest (wOp dGe (wOp dIx (wVar 7) (wC (.int 1))) (wVar 3))))) (wRaise g.InvalidText "at" (wOp dAdd (wVar 5) (wC (.int 1)))) wNext)
  (wDrop (wBM dAppend (wVar 4) (wCons (wVar 7) wNil)))))
def w_map_in_c2 (g : GX) : WS := (wSeq (wAsg (wLst (wCons (wTup (wCons (wUn dNegI (wC (.int 1))) (wCons (wUn dNegI (wC (.int 1))) wNil))) wNil)) (dName 4))
  (wSeq (wFor (wIEnumA (wVar 2)) (dTup 2 (dCons (dName 5) (dCons (dName 6) dNil)))
  (w_map_in_b1 g))
  (wFreeze 4 (wForget 0 (wRet (wTup (wCons (wVar 3) (wCons (wFz (wSlL (wVar 4) (wPart (wC (.int 1))) wNoPart)) wNil))))))))
def w_map_in_c1 (g : GX) : WS := (wSeq (wAsg (wCall (sp_number_of g) [] [] (wCons (wSlS (wVar 1) wNoPart (wPart (wUn dNegI (wC (.int 1))))) (wCons (wC (.int 9)) wNil))) (dName 3))
  (wSeq (wIfS (wOr (wTest (wOp dNeS (wSlS (wVar 1) (wPart (wUn dNegI (wC (.int 1)))) wNoPart) (wC (.str ":")))) (wOr (wTest (wIsN true (wVar 3))) (wTest (wOp dLt (wVar 3) (wC (.int 1)))))) (wRaise g.InvalidText "at" (wC (.int 0))) wNext)
  (w_map_in_c2 g)))
/-- map_in -/
def w_map_in (g : GX) : WS := (wSeq (wAsg (wFz (wM1 dSplit (wVar 0) (wC (.str " ")))) (dStar1 (dCons (dName 1) (dCons (dName 2) dNil))))
  (wFreeze 2 (wForget 0 (w_map_in_c1 g))))
abbrev HW_map_in (g : GX) : Prop := ∀ (xs : List X) (S : Store) (Q : XQ) (E : Exn → Store → Prop), sp_map_in g xs S Q E → w_map_in g { nx := fun _ S' => Q (.d .non) S', rt := Q } (startD ["text", "head", "words", "many", "touches", "at", "word", "pair"] xs) S (fun x _ S => E x S)
theorem len_map_in {g : GX} (xs : List X) (S : Store) (Q : XQ) (E : Exn → Store → Prop) (h : sp_map_in g xs S Q E) : xs.length = 1 := by
  unfold sp_map_in at h
  split at h <;> first | rfl | exact h.elim
/-- Map.read -/
def w_map_read (g : GX) : WS := (wSeq (wAsg (wCallX (sp_map_in g) [] [] (wCons (wVar 1) wNil)) (dTup 2 (dCons (dName 2) (dCons (dName 3) dNil))))
  (wRet (wMakeL 0 g.Map (sp_map_init g) [] (wCons (wVar 2) (wCons (wVar 3) wNil)))))
abbrev HW_map_read (g : GX) : Prop := ∀ (xs : List X) (S : Store) (Q : XQ) (E : Exn → Store → Prop), sp_map_read g xs S Q E → w_map_read g { nx := fun _ S' => Q (.d .non) S', rt := Q } (startD ["cls", "text", "many", "touches"] xs) S (fun x _ S => E x S)
theorem len_map_read {g : GX} (xs : List X) (S : Store) (Q : XQ) (E : Exn → Store → Prop) (h : sp_map_read g xs S Q E) : xs.length = 2 := by
  unfold sp_map_read at h
  split at h <;> first | rfl | exact h.elim
/-- Map.__str__ -/
def w_map_str (g : GM) : WS := (wRet (wM1 dJoin (wC (.str " ")) (wFz (wLst (wCons (wJoined [(wFmt (wFld g.Map "many" (wVar 0))), (wC (.str ":"))]) (wStar (wFz (wLc (wISeq (wFld g.Map "touches" (wVar 0))) (dTup 2 (dCons (dName 1) (dCons (dName 2) dNil))) wYes (wJoined [(wFmt (wVar 1)), (wC (.str "-")), (wFmt (wVar 2))]) [1, 2])) wNil))))))
abbrev HW_map_str (g : GM) : Prop := ∀ (xs : List X) (S : Store) (Q : XQ) (E : Exn → Store → Prop), sp_map_str g xs S Q E → w_map_str g { nx := fun _ S' => Q (.d .non) S', rt := Q } (startD ["self", "one", "other"] xs) S (fun _ _ _ => False)
theorem len_map_str {g : GM} (xs : List X) (S : Store) (Q : XQ) (E : Exn → Store → Prop) (h : sp_map_str g xs S Q E) : xs.length = 1 := by
  unfold sp_map_str at h
  split at h <;> first | rfl | exact h.elim
end DP

set_option Elab.async false
set_option linter.all false
set_option maxRecDepth 100000
set_option maxHeartbeats 1000000
namespace DP
open PySem PySem.Spec PyProof.Rows L2
open Evl (Ex ex_l ex_t ex_rd fresh_back)

@[simp] theorem lit_e : Str.ofString "" = SX.S [] := rfl
@[simp] theorem lit_dig : Str.ofString "0123456789" = SX.S [48, 49, 50, 51, 52, 53, 54, 55, 56, 57] := rfl
@[simp] theorem lit_0 : Str.ofString "0" = SX.S [48] := rfl
@[simp] theorem lit_dash : Str.ofString "-" = SX.S [45] := rfl
@[simp] theorem lit_sp : Str.ofString " " = SX.S [32] := rfl
@[simp] theorem lit_colon : Str.ofString ":" = SX.S [58] := rfl
theorem dig_mem {c : Nat} : c ∈ [48, 49, 50, 51, 52, 53, 54, 55, 56, 57] ↔ 48 ≤ c ∧ c ≤ 57 := by simp; omega
theorem isDig_iff {w : List Nat} : isDig w = true ↔ ∀ c ∈ w, 48 ≤ c ∧ c ≤ 57 := by
  unfold isDig
  rw [List.all_eq_true]
  simp
theorem hw_number_of (g : GX) : HW_number_of g := by
  intro xs S Q E h
  unfold sp_number_of at h
  split at h
  · rename_i x m
    obtain ⟨w, rfl, m0, m1, hl, hq⟩ := h
    have hsz : sizeLine = 16777216 := rfl
    unfold w_number_of
    simp
    by_cases he : w = []
    · simp only [he, if_true]
      have : numO [] m.toNat = none := by unfold numO; simp
      rw [he, this] at hq
      exact hq
    · simp only [he, if_false]
      refine ⟨by omega, ?_⟩
      by_cases hm : m < w.length
      · simp only [hm, if_true]
        have : numO w m.toNat = none := by unfold numO; rw [if_pos (.inr (.inl (by omega)))]
        rw [this] at hq
        exact hq
      · simp only [hm, if_false]
        intro ad
        refine lcq (S0 := S) (fun c : Nat => X.d (.str (SX.S [c]))) (fun _ => true) (fun c => .bl (decide (48 ≤ c ∧ c ≤ 57))) w (by omega) ?_ ?_ ad
        · intro c hc S' K Kf hcc hk
          simp
          have e : decide (c ∈ [48, 49, 50, 51, 52, 53, 54, 55, 56, 57]) = decide (48 ≤ c ∧ c ≤ 57) := decide_eq_decide.mpr dig_mem
          simp only [if_true] at hk
          rw [← e] at hk
          simpa using hk
        rw [filter_yes]
        refine ⟨w.map fun c => decide (48 ≤ c ∧ c ≤ 57), by simp, ?_⟩
        have e1 : (w.map fun c => decide (48 ≤ c ∧ c ≤ 57)).all id = isDig w := by
          unfold isDig
          rw [List.all_map]
          congr 1
          funext c
          simp
        rw [e1]
        cases hd : isDig w with
        | false =>
          simp
          have : numO w m.toNat = none := by unfold numO; rw [if_pos (.inr (.inr (.inl hd)))]
          rw [this] at hq
          exact hq
        | true =>
          simp
          have fin : ¬ (w ≠ [48] ∧ w.head? = some 48) → (∃ n, PySem.intText? (SX.S w) = some n ∧ w.length ≤ 640 ∧ Q (.d (.int n)) S) := fun hz => by
            refine ⟨_, SX.int_S (a := w) hd he (by omega), by omega, ?_⟩
            have : numO w m.toNat = some ((NumText.digitsVal w : Nat) : Int) := by
              unfold numO
              rw [if_neg]
              rintro (h | h | h | h)
              · exact he h
              · omega
              · rw [hd] at h; cases h
              · exact hz h
            rw [this] at hq
            exact hq
          by_cases h48 : w = [48]
          · simp only [h48, if_true]
            rw [h48] at fin
            simpa [SX.S_len] using fin (by simp)
          · simp only [h48, if_false]
            obtain ⟨c, r, rfl⟩ : ∃ c r, w = c :: r := by
              cases w with
              | nil => exact absurd rfl he
              | cons c r => exact ⟨c, r, rfl⟩
            refine ⟨by omega, c, atI_nat (xs := c :: r) (j := 0) rfl, ?_⟩
            by_cases hc : c = 48
            · simp only [hc, if_true]
              have : numO (c :: r) m.toNat = none := by unfold numO; rw [if_pos (.inr (.inr (.inr ⟨h48, by simp [hc]⟩)))]
              rw [this] at hq
              exact hq
            · simp only [hc, if_false]
              simpa [SX.S_len] using fin (by simp [hc])
  · exact h.elim
theorem numO_nil {m : Nat} : numO [] m = none := by unfold numO; simp
theorem atI2 {a b : X} : atI [a, b] 0 = some a ∧ atI [a, b] 1 = some b := ⟨atI_nat (xs := [a, b]) (j := 0) rfl, atI_nat (xs := [a, b]) (j := 1) rfl⟩
theorem par_len {s : List Nat} : ∀ {l acc p q : List Nat}, TL.par s acc l = some (p, q) → p.length ≤ acc.length + l.length ∧ q.length ≤ l.length
  | [], acc, p, q, h => by simp [TL.par] at h
  | c :: r, acc, p, q, h => by
    unfold TL.par at h
    split at h
    · cases h
      refine ⟨by omega, ?_⟩
      rw [List.length_drop]; omega
    · have := par_len h
      rw [List.length_append] at this
      simp at this ⊢
      omega
theorem in_non2 {a b : Option Int} {S : Store} {Q : XQ} : dIn false (.d .non) (.d (.tup [optD a, optD b])) S Q = Q (.d (.bl (a.isNone || b.isNone))) S := by
  have key : dIn false (.d .non) (.d (.tup [optD a, optD b])) S Q = (flatD .non = true ∧ ∃ ds, xdata ([optD a, optD b].map X.d) = some ds ∧ ds.all flatD = true ∧ Q (.d (.bl (ds.any fun b => eqD b .non))) S) := rfl
  rw [key, xdata_map]
  have e : ([optD a, optD b].any fun b => eqD b .non) = (a.isNone || b.isNone) := by cases a <;> cases b <;> rfl
  have f : [optD a, optD b].all flatD = true := by cases a <;> cases b <;> rfl
  refine propext ⟨fun ⟨_, ds, h1, _, h2⟩ => by cases h1; rw [e] at h2; exact h2, fun h => ⟨rfl, _, rfl, f, by rw [e]; exact h⟩⟩
theorem hw_touch_in (g : GX) : HW_touch_in g := by
  intro xs S Q E h
  unfold sp_touch_in at h
  split at h
  · rename_i x
    obtain ⟨w, rfl, hl, hq⟩ := h
    have hsz : sizeLine = 16777216 := rfl
    unfold w_touch_in
    simp
    refine ⟨by decide, by rw [SX.S_len]; omega, ?_⟩
    cases hp : TL.par [45] [] w with
    | none =>
      rw [SX.partition_none (by simp) hp]
      simp
      refine callP fun Q' E' hQ => ⟨w, rfl, by decide, by decide, hl, hQ _ ?_⟩
      refine callP fun Q' E' hQ => ⟨[], rfl, by decide, by decide, by simp, hQ _ ?_⟩
      simp
      refine ⟨by decide, ?_⟩
      have : touchO w = none := by unfold touchO; rw [hp]
      rw [this] at hq
      exact hq
    | some pq =>
      obtain ⟨p, q⟩ := pq
      obtain ⟨l1, l2⟩ := par_len hp
      simp at l1
      rw [SX.partition_some (by simp) hp]
      simp
      refine callP fun Q' E' hQ => ⟨p, rfl, by decide, by decide, by omega, hQ _ ?_⟩
      refine callP fun Q' E' hQ => ⟨q, rfl, by decide, by decide, by omega, hQ _ ?_⟩
      simp [in_non2]
      refine ⟨by decide, ?_⟩
      have ht : touchO w = (match numO p 9, numO q 9 with | some a, some b => if b ≤ a then none else some (a, b) | _, _ => none) := by unfold touchO; rw [hp]; try rfl
      cases h1 : numO p 9 with
      | none =>
        simp only [h1] at ht
        rw [ht] at hq
        simpa [optD, prO] using hq
      | some a =>
        cases h2 : numO q 9 with
        | none =>
          simp only [h1, h2] at ht
          rw [ht] at hq
          simpa [optD, prO] using hq
        | some b =>
          simp only [h1, h2] at ht
          rw [ht] at hq
          simp [optD]
          refine ⟨_, atI2.1, _, atI2.2, ?_⟩
          simp
          by_cases hab : b ≤ a
          · simp [hab, prO] at hq ⊢
            exact hq
          · simp [hab, prO] at hq ⊢
            exact hq
  · exact h.elim
end DP

set_option Elab.async false
set_option linter.all false
set_option maxRecDepth 100000
set_option maxHeartbeats 1000000
namespace DP
open PySem PySem.Spec PyProof.Rows L2
open Evl (Ex ex_l ex_t ex_rd fresh_back)

section
variable {b : Bool} {S : Store} {Q : XQ} {δ : Env} {E : XR} {w : WE}
@[simp] theorem x_isN : wIsN b w δ S Q E = w δ S (fun x S1 => dIsN b x S1 Q) E := rfl
@[simp] theorem x_isNn : dIsN b (.d .non) S Q = Q (.d (.bl b)) S := rfl
@[simp] theorem x_isNi {i : Int} : dIsN b (.d (.int i)) S Q = Q (.d (.bl (!b))) S := rfl
@[simp] theorem x_isNt {ds : List D} : dIsN b (.d (.tup ds)) S Q = Q (.d (.bl (!b))) S := rfl
@[simp] theorem x_isNo {C : Addr} {fs : List (Str × D)} : dIsN b (.d (.obj C fs)) S Q = Q (.d (.bl (!b))) S := rfl
end
/-- texts by their signs, as data -/
def WD (ws : List (List Nat)) : List D := ws.map fun w => .str (SX.S w)
theorem spl_ne {s : List Nat} : ∀ {k : Nat} {acc l : List Nat}, TL.spl s k acc l ≠ [] := by
  intro k acc l
  induction l generalizing k acc with
  | nil => rw [TL.spl_nil]; simp
  | cons c r ih =>
    cases k with
    | zero =>
      unfold TL.spl
      split
      · simp
      · exact ih
    | succ k => exact ih
theorem spl_len {s : List Nat} : ∀ {l : List Nat} {k : Nat} {acc : List Nat}, (∀ w ∈ TL.spl s k acc l, w.length ≤ acc.length + l.length) ∧ (TL.spl s k acc l).length ≤ l.length + 1
  | [], k, acc => by rw [TL.spl_nil]; simp
  | c :: r, 0, acc => by
    unfold TL.spl
    split
    · obtain ⟨h1, h2⟩ := spl_len (s := s) (l := r) (k := s.length - 1) (acc := [])
      refine ⟨fun w hw => ?_, by simp; omega⟩
      rcases List.mem_cons.mp hw with rfl | hw
      · omega
      · have := h1 w hw; simp at this ⊢; omega
    · obtain ⟨h1, h2⟩ := spl_len (s := s) (l := r) (k := 0) (acc := acc ++ [c])
      refine ⟨fun w hw => ?_, by simp; omega⟩
      have := h1 w hw
      simp at this ⊢; omega
  | c :: r, k + 1, acc => by
    obtain ⟨h1, h2⟩ := spl_len (s := s) (l := r) (k := k) (acc := acc)
    refine ⟨fun w hw => ?_, ?_⟩
    · have := h1 w hw; simp; omega
    · show (TL.spl s k acc r).length ≤ _
      simp; omega
theorem slice_bl (a : List Nat) : Txt.slice (SX.S a) none (some (-1)) = SX.S a.dropLast := by
  by_cases h : a = []
  · subst h; rfl
  · rw [SX.slice_butlast h, List.dropLast_eq_take]
theorem slice_la (a : List Nat) : Txt.slice (SX.S a) (some (-1)) none = SX.S (a.getLast?.toList) := by
  cases h : a.getLast? with
  | none =>
    rw [List.getLast?_eq_none_iff] at h
    subst h; rfl
  | some c =>
    obtain ⟨b, rfl⟩ := List.getLast?_eq_some_iff.mp h
    rw [SX.last_snoc]
    simp
theorem map_in_c1 {g : GX} {Δ : DEnds} {E : XR} {o0 : Option X} {hd : List Nat} {ws : List (List Nat)} (hh : hd.length ≤ 1000000)
    (hq : match headO hd with
      | none => ∀ δ Sj, E (.own g.InvalidText [("at", .int 0)]) δ Sj
      | some n => w_map_in_c2 g Δ [o0, some (.d (.str (SX.S hd))), some (.d (.lst (WD ws))), some (.d (.int n)), none, none, none, none] [] E) :
    w_map_in_c1 g Δ [o0, some (.d (.str (SX.S hd))), some (.d (.lst (WD ws))), none, none, none, none, none] [] E := by
  have hsz : sizeLine = 16777216 := rfl
  show (wSeq _ (wSeq _ (w_map_in_c2 g))) _ _ _ _
  simp
  refine ⟨by rw [SX.S_len]; omega, ?_⟩
  rw [slice_bl]
  refine callP fun Q' E' hQ => ⟨hd.dropLast, rfl, by decide, by decide, by rw [List.length_dropLast]; omega, hQ _ ?_⟩
  refine ⟨by rw [SX.S_len]; omega, ?_⟩
  rw [slice_la]
  simp
  unfold headO at hq
  by_cases hc : hd.getLast? = some 58
  · rw [if_pos hc] at hq ⊢
    cases hn : numO hd.dropLast 9 with
    | none =>
      rw [hn] at hq
      simp only at hq
      exact hq _ _
    | some n =>
      rw [hn] at hq
      simp only at hq
      simp [optD]
      by_cases h1 : n < 1
      · rw [if_pos h1] at hq ⊢
        exact hq _ _
      · rw [if_neg h1] at hq ⊢
        exact hq
  · rw [if_neg hc] at hq ⊢
    exact hq _ _
end DP

set_option Elab.async false
set_option linter.all false
set_option maxRecDepth 100000
set_option maxHeartbeats 1000000
namespace DP
open PySem PySem.Spec PyProof.Rows L2
open Evl (Ex ex_l ex_t ex_rd fresh_back)

theorem atI_last {α : Type} (xs : List α) (x : α) : atI (xs ++ [x]) (-1) = some x := by
  unfold atI ixN
  rw [if_neg (by decide), if_pos (by simp; omega)]
  simp
  have : (-1 + ((xs.length : Int) + 1)).toNat = xs.length := by omega
  rw [this]
  simp
theorem atI_last' {α : Type} {xs : List α} {x : α} (h : xs.getLast? = some x) : atI xs (-1) = some x := by
  obtain ⟨ys, rfl⟩ := List.getLast?_eq_some_iff.mp h
  exact atI_last ys x
theorem cutG1 {α : Type} (x : α) (l : List α) : cutG (x :: l) (some 1) none = l := by
  unfold cutG HT.sIx
  simp
theorem map_in_b1 {g : GX} {Δ : DEnds} {E : XR} {o0 o1 o2 o7 : Option X} {n : Int} {k : Nat} {w : List Nat} {p : Addr} {acc : List (Int × Int)} {last : Int × Int} (hw : w.length ≤ 1000000) (hl : acc.getLast? = some last) (hz : acc.length ≤ 2000000)
    (hq : match touchO w with
      | none => ∀ δ Sj, E (.own g.InvalidText [("at", .int (k + 1 : Nat))]) δ Sj
      | some t => if lexLe [t.1, t.2] [last.1, last.2] = true ∨ n ≤ t.2 then ∀ δ Sj, E (.own g.InvalidText [("at", .int (k + 1 : Nat))]) δ Sj else
          ∀ o7, Δ.nx [o0, o1, o2, some (.d (.int n)), some (.h p), some (.d (.int (k : Nat))), some (.d (.str (SX.S w))), o7] [(p, .lst (PX (acc ++ [t])))]) :
    w_map_in_b1 g Δ [o0, o1, o2, some (.d (.int n)), some (.h p), some (.d (.int (k : Nat))), some (.d (.str (SX.S w))), o7] [(p, .lst (PX acc))] E := by
  have hsz : sizeLine = 16777216 := rfl
  unfold w_map_in_b1
  simp
  refine callP fun Q' E' hQ => ⟨w, rfl, hw, hQ _ ?_⟩
  cases ht : touchO w with
  | none =>
    rw [ht] at hq
    simp only at hq
    simp [prO]
    have := hq
    push_cast at this
    exact this _ _
  | some t =>
    rw [ht] at hq
    simp only at hq
    simp [prO]
    have hla : atI (PX acc) (-1) = some (.d (.tup [.int last.1, .int last.2])) := atI_last' (by unfold PX; rw [List.getLast?_map, hl]; rfl)
    refine ⟨0, _, rfl, _, hla, ?_⟩
    have e1 : dLeT (.d (.tup [.int t.1, .int t.2])) (.d (.tup [.int last.1, .int last.2])) = dLeT (.d (.tup (ID [t.1, t.2]))) (.d (.tup (ID [last.1, last.2]))) := rfl
    rw [e1, x_leT]
    by_cases h1 : lexLe [t.1, t.2] [last.1, last.2] = true
    · rw [if_pos (.inl h1)] at hq
      simp [h1]
      have := hq
      push_cast at this
      exact this _ _
    · simp [h1]
      refine ⟨_, atI2.2, ?_⟩
      simp
      by_cases h2 : n ≤ t.2
      · rw [if_pos (.inr h2)] at hq
        simp [h2]
        have := hq
        push_cast at this
        exact this _ _
      · rw [if_neg (by rintro (h | h); exact h1 h; exact h2 h)] at hq
        simp [h2]
        refine ⟨⟨0, _, rfl⟩, 0, _, rfl, by rw [PX_len]; omega, ?_⟩
        have := hq (some (.d (.tup [.int t.1, .int t.2])))
        rw [PX_app] at this
        exact this
theorem map_in_loop {g : GX} {Δ : DEnds} {E : XR} {o0 o1 o2 : Option X} {n : Int} {p : Addr} : ∀ (ws : List (List Nat)) (k : Nat) (acc : List (Int × Int)) (last : Int × Int) (o5 o6 o7 : Option X), (∀ w ∈ ws, w.length ≤ 1000000) → acc.getLast? = some last → acc.length + ws.length ≤ 2000000 →
    (match wordsIn n k last ws with
      | .inl j => ∀ δ Sj, E (.own g.InvalidText [("at", .int (j : Nat))]) δ Sj
      | .inr ps => ∀ o5 o6 o7, Δ.nx [o0, o1, o2, some (.d (.int n)), some (.h p), o5, o6, o7] [(p, .lst (PX (acc ++ ps)))]) →
    loopD (dTup 2 (dCons (dName 5) (dCons (dName 6) dNil))) (w_map_in_b1 g) Δ E (((WD ws).zipIdx k).map fun q => .d (.tup [.int (q.2 : Nat), q.1])) [o0, o1, o2, some (.d (.int n)), some (.h p), o5, o6, o7] [(p, .lst (PX acc))]
  | [], k, acc, last, o5, o6, o7, _, _, _, hq => by
    show Δ.nx _ _
    have := hq o5 o6 o7
    rw [List.append_nil] at this
    exact this
  | w :: ws, k, acc, last, o5, o6, o7, hw, hl, hz, hq => by
    rw [List.length_cons] at hz
    show loopD _ _ _ _ (.d (.tup [.int (k : Nat), .str (SX.S w)]) :: ((WD ws).zipIdx (k + 1)).map fun q => .d (.tup [.int (q.2 : Nat), q.1])) _ _
    rw [loop_cons]
    refine ⟨rfl, ?_⟩
    show w_map_in_b1 g _ [o0, o1, o2, some (.d (.int n)), some (.h p), some (.d (.int (k : Nat))), some (.d (.str (SX.S w))), o7] _ _
    refine map_in_b1 (hw w List.mem_cons_self) hl (by omega) ?_
    unfold wordsIn at hq
    cases ht : touchO w with
    | none =>
      rw [ht] at hq
      exact hq
    | some t =>
      rw [ht] at hq
      simp only at hq ⊢
      by_cases hc : lexLe [t.1, t.2] [last.1, last.2] = true ∨ n ≤ t.2
      · rw [if_pos hc] at hq ⊢
        exact hq
      · rw [if_neg hc] at hq ⊢
        intro o7
        refine map_in_loop ws (k + 1) (acc ++ [t]) t _ _ _ (fun w h => hw w (List.mem_cons_of_mem _ h)) (by simp) (by simp; omega) ?_
        cases hr : wordsIn n (k + 1) t ws with
        | inl j =>
          rw [hr] at hq
          exact hq
        | inr ps =>
          rw [hr] at hq
          simp only at hq ⊢
          intro o5 o6 o7
          have := hq o5 o6 o7
          rw [List.append_assoc]
          exact this
theorem map_in_c2 {g : GX} {Δ : DEnds} {E : XR} {o0 o1 : Option X} {n : Int} {ws : List (List Nat)} (hw : ∀ w ∈ ws, w.length ≤ 1000000) (hz : ws.length ≤ 1000001)
    (hq : match wordsIn n 0 (-1, -1) ws with
      | .inl j => ∀ δ Sj, E (.own g.InvalidText [("at", .int (j : Nat))]) δ Sj
      | .inr ps => Δ.rt (.d (.tup [.int n, .lst (PD ps)])) []) :
    w_map_in_c2 g Δ [o0, o1, some (.d (.lst (WD ws))), some (.d (.int n)), none, none, none, none] [] E := by
  have hsz : sizeLine = 16777216 := rfl
  unfold w_map_in_c2
  simp
  refine ⟨by decide, by decide, fun p => ?_⟩
  show loopD _ _ _ _ (((WD ws).zipIdx 0).map fun q => .d (.tup [.int (q.2 : Nat), q.1])) _ [(p, .lst (PX [(-1, -1)]))]
  refine map_in_loop ws 0 [(-1, -1)] (-1, -1) none none none hw rfl (by simp; omega) ?_
  cases hr : wordsIn n 0 (-1, -1) ws with
  | inl j =>
    rw [hr] at hq
    exact hq
  | inr ps =>
    rw [hr] at hq
    simp only at hq ⊢
    intro o5 o6 o7
    simp
    refine ⟨0, _, rfl, .lst (PD ([(-1, -1)] ++ ps)), by rw [x_dataL, xdata_PX]; rfl, ?_⟩
    show ∃ d, (∃ a, xdata (cutX ((PD ([(-1, -1)] ++ ps)).map X.d) (some 1) none) = some a ∧ D.lst a = d) ∧ 2 ≤ sizeLine ∧ Δ.rt (X.d (D.tup [D.int n, d])) []
    have hc : cutX ((PD ([(-1, -1)] ++ ps)).map X.d) (some 1) none = (PD ps).map X.d := cutG1 (X.d (.tup [.int (-1), .int (-1)])) ((PD ps).map X.d)
    rw [hc]
    exact ⟨_, ⟨_, xdata_map _, rfl⟩, by decide, hq⟩
theorem hw_map_in (g : GX) : HW_map_in g := by
  intro xs S Q E h
  unfold sp_map_in at h
  split at h
  · rename_i x
    obtain ⟨rfl, t, rfl, hl, hq⟩ := h
    have hsz : sizeLine = 16777216 := rfl
    obtain ⟨l1, l2⟩ := spl_len (s := [32]) (l := t) (k := 0) (acc := [])
    unfold mapIn at hq
    have hsplit : Txt.split (SX.S t) (Str.ofString " ") = (TL.spl [32] 0 [] t).map SX.S := by rw [lit_sp]; exact SX.split_S (by simp) (by decide)
    have ef : ∀ l : List (List Nat), (l.map SX.S).map (fun s => X.d (.str s)) = (WD l).map X.d := fun l => by unfold WD; rw [List.map_map, List.map_map]; rfl
    generalize hsp : TL.spl [32] 0 [] t = sp at hq l1 l2 hsplit
    cases sp with
    | nil => exact absurd hsp spl_ne
    | cons hd ws =>
      have hh : ∀ w ∈ hd :: ws, w.length ≤ 1000000 := fun w hw => by have := l1 w hw; simp at this; omega
      rw [List.length_cons] at l2
      have key : w_map_in_c1 g { nx := fun _ S' => Q (.d .non) S', rt := Q } [some (.d (.str (SX.S t))), some (.d (.str (SX.S hd))), some (.d (.lst (WD ws))), none, none, none, none, none] [] (fun x _ S => E x S) := by
        refine map_in_c1 (hh hd (by simp)) ?_
        simp only at hq
        cases hn : headO hd with
        | none =>
          rw [hn] at hq
          exact fun _ => hq
        | some n =>
          rw [hn] at hq
          simp only at hq ⊢
          refine map_in_c2 (fun w hw => hh w (List.mem_cons_of_mem _ hw)) (by omega) ?_
          cases hr : wordsIn n 0 (-1, -1) ws with
          | inl j =>
            rw [hr] at hq
            exact fun _ => hq
          | inr ps =>
            rw [hr] at hq
            exact hq
      refine ⟨⟨_, rfl⟩, by decide, by rw [SX.S_len]; omega, fun p => ?_⟩
      rw [hsplit, ef]
      refine ⟨[], _, .lst (WD (hd :: ws)), rfl, by rw [x_dataL, xdata_map]; rfl, ?_⟩
      intro q
      exact ⟨0, _, .lst (WD ws), rfl, by rw [x_dataL, xdata_map]; rfl, key⟩
  · exact h.elim
/-! what map_in tells is a map -/
theorem lexLe_pair {a b c d : Int} : lexLe [a, b] [c, d] = false ↔ Lex (c, d) (a, b) := by
  unfold lexLe Lex
  by_cases h : a = c
  · subst h
    simp only [if_true]
    unfold lexLe
    by_cases h2 : b = d
    · subst h2
      simp [lexLe]
    · simp [h2] <;> omega
  · simp [h] <;> omega
theorem numO_nn {w : List Nat} {m : Nat} {a : Int} (h : numO w m = some a) : 0 ≤ a := by
  unfold numO at h
  split at h
  · cases h
  · cases h; exact Int.natCast_nonneg _
theorem touchO_ok {w : List Nat} {t : Int × Int} (h : touchO w = some t) : 0 ≤ t.1 ∧ t.1 < t.2 := by
  unfold touchO at h
  split at h
  · split at h
    · rename_i a b h1 h2
      split at h
      · cases h
      · cases h
        have := numO_nn h1
        simp only
        omega
    · cases h
  · cases h
theorem wordsIn_ok {n : Int} : ∀ {ws : List (List Nat)} {k : Nat} {last : Int × Int} {ps : List (Int × Int)}, wordsIn n k last ws = .inr ps → (∀ p ∈ ps, 0 ≤ p.1 ∧ p.1 < p.2 ∧ p.2 < n) ∧ ps.Pairwise Lex ∧ (∀ p ∈ ps, Lex last p) ∧ ps.length = ws.length
  | [], k, last, ps, h => by cases h; simp
  | w :: ws, k, last, ps, h => by
    unfold wordsIn at h
    cases ht : touchO w with
    | none => rw [ht] at h; cases h
    | some t =>
      rw [ht] at h
      simp only at h
      split at h
      · cases h
      · rename_i hc
        cases hr : wordsIn n (k + 1) t ws with
        | inl j => rw [hr] at h; cases h
        | inr qs =>
          rw [hr] at h
          cases h
          obtain ⟨h1, h2, h3, h4⟩ := wordsIn_ok hr
          have t0 := touchO_ok ht
          have hlt : Lex last t := lexLe_pair.mp (by cases hb : lexLe [t.1, t.2] [last.1, last.2] with | true => exact absurd (.inl hb) hc | false => rfl)
          refine ⟨fun p hp => ?_, List.pairwise_cons.mpr ⟨h3, h2⟩, fun p hp => ?_, by simp [h4]⟩
          · rcases List.mem_cons.mp hp with rfl | hp
            · exact ⟨t0.1, t0.2, by have := mt Or.inr hc; omega⟩
            · exact h1 p hp
          · rcases List.mem_cons.mp hp with rfl | hp
            · exact hlt
            · have := h3 p hp
              unfold Lex at *
              omega
theorem dig_lt : ∀ (cs : List Nat) (acc : Nat), (∀ c ∈ cs, 48 ≤ c ∧ c ≤ 57) → cs.foldl (fun acc c => acc * 10 + (c - 48)) acc < (acc + 1) * 10 ^ cs.length
  | [], acc, _ => by simp
  | c :: cs, acc, h => by
    rw [List.foldl_cons, List.length_cons, Nat.pow_succ]
    have h1 := dig_lt cs (acc * 10 + (c - 48)) fun x hx => h x (List.mem_cons_of_mem _ hx)
    have h2 := h c List.mem_cons_self
    refine Nat.lt_of_lt_of_le h1 ?_
    rw [Nat.mul_comm (10 ^ cs.length) 10, ← Nat.mul_assoc]
    exact Nat.mul_le_mul_right _ (by omega)
theorem numO_lt {w : List Nat} {a : Int} (h : numO w 9 = some a) : a < 10 ^ 9 := by
  unfold numO at h
  split at h
  · cases h
  · rename_i hc
    cases h
    have hd : isDig w = true := by cases hb : isDig w with | true => rfl | false => exact absurd (.inr (.inr (.inl hb))) hc
    have hl : w.length ≤ 9 := Nat.le_of_not_lt fun h => hc (.inr (.inl h))
    have h1 : NumText.digitsVal w < (0 + 1) * 10 ^ w.length := dig_lt w 0 (isDig_iff.mp hd)
    have h2 : 10 ^ w.length ≤ 10 ^ 9 := Nat.pow_le_pow_right (by decide) hl
    omega
theorem headO_ok {h : List Nat} {n : Int} (e : headO h = some n) : 1 ≤ n ∧ n < 10 ^ 9 := by
  unfold headO at e
  split at e
  · split at e
    · rename_i m hm
      split at e
      · cases e
      · cases e
        exact ⟨by omega, numO_lt hm⟩
    · cases e
  · cases e
theorem mapIn_ok {t : List Nat} {n : Int} {ps : List (Int × Int)} (h : mapIn t = .inr (n, ps)) : 1 ≤ n ∧ n < 10 ^ 9 ∧ (∀ p ∈ ps, 0 ≤ p.1 ∧ p.1 < p.2 ∧ p.2 < n) ∧ ps.Pairwise Lex ∧ ps.length ≤ t.length := by
  obtain ⟨l1, l2⟩ := spl_len (s := [32]) (l := t) (k := 0) (acc := [])
  unfold mapIn at h
  split at h
  · cases h
  · rename_i hd ws hs
    rw [hs] at l2
    split at h
    · cases h
    · rename_i m hm
      split at h
      · cases h
      · rename_i qs hq
        cases h
        obtain ⟨h1, h2, h3, h4⟩ := wordsIn_ok hq
        obtain ⟨a, b⟩ := headO_ok hm
        exact ⟨a, b, h1, h2, by simp at l2; omega⟩
end DP

set_option Elab.async false
set_option linter.all false
set_option maxRecDepth 100000
set_option maxHeartbeats 1000000
namespace DP
open PySem PySem.Spec PyProof.Rows L2
open Evl (Ex ex_l ex_t ex_rd fresh_back)

/-! fields of maps, at once -/
def fldQ (C : Addr) (f : Str) (x : X) (S : Store) (Q : XQ) : Prop := match x with
  | .d (.obj C' fs) => C' = C ∧ ∃ d, fs.lookup f = some d ∧ Q (.d d) S
  | .h a => ∃ (i : Nat) (fs : List (Str × X)) (y : X), S[i]? = some (a, .obj C fs) ∧ fs.lookup f = some y ∧ Q y S
  | _ => False
@[simp] theorem x_fld {C : Addr} {f : Str} {w : WE} {δ : Env} {S : Store} {Q : XQ} {E : XR} : wFld C f w δ S Q E = w δ S (fun x S1 => fldQ C f x S1 Q) E := rfl
@[simp] theorem x_fMany {g : GM} {n : Int} {ts : List (Int × Int)} {S : Store} {Q : XQ} : fldQ g.Map (Str.ofString "many") (.d (mapO g n ts)) S Q = Q (.d (.int n)) S :=
  propext ⟨fun ⟨_, d, h, q⟩ => by cases h; exact q, fun q => ⟨rfl, _, rfl, q⟩⟩
@[simp] theorem x_fTouches {g : GM} {n : Int} {ts : List (Int × Int)} {S : Store} {Q : XQ} : fldQ g.Map (Str.ofString "touches") (.d (mapO g n ts)) S Q = Q (.d (.tup (PD ts))) S :=
  propext ⟨fun ⟨_, d, h, q⟩ => by cases h; exact q, fun q => ⟨rfl, _, rfl, q⟩⟩
theorem hw_map_read (g : GX) : HW_map_read g := by
  intro xs S Q E h
  unfold sp_map_read at h
  split at h
  · rename_i C x
    obtain ⟨rfl, rfl, t, rfl, hl, hq⟩ := h
    unfold w_map_read
    simp only [x_seq, x_asg, x_cons, x_nil, x_var, x_callX, x_start2, x_start0, x_start1, List.getElem?_cons_succ, List.getElem?_cons_zero, List.append_nil]
    refine callPJ fun Q' E' hQ hE => ⟨rfl, t, rfl, by omega, ?_⟩
    cases hm : mapIn t with
    | inl k =>
      rw [hm] at hq
      exact fun Sj => hE _ (fun Sj => hq Sj) Sj
    | inr np =>
      obtain ⟨n, ps⟩ := np
      rw [hm] at hq
      simp only at hq ⊢
      obtain ⟨h0, h1, h2, h3, h4⟩ := mapIn_ok hm
      refine hQ _ ⟨rfl, ?_⟩
      refine ⟨rfl, fun a => ?_⟩
      refine make_map (S0 := []) h0 (by omega) (by unfold PD; rw [List.length_map]; omega) (fun q hq' => by have := h2 q hq'; omega) rfl ?_
      rw [norm_self h0 h2 h3]
      exact hq a
  · exact h.elim
theorem str_num {i : Int} (h : 0 ≤ i) : Str.ofString (toString i) = SX.S (TL.numL i.toNat) := by
  have := SX.num_S i.toNat
  rwa [Int.toNat_of_nonneg h] at this
theorem str_repr {i : Int} (h : 0 ≤ i) : Str.ofString i.repr = SX.S (TL.numL i.toNat) := str_num h
theorem log_small {i : Int} (h0 : 0 ≤ i) (h1 : i < 10 ^ 9) : i.natAbs.log2 < 1920 := by
  by_cases hz : i.natAbs = 0
  · rw [hz]; decide
  · have := (Nat.log2_lt hz).mpr (show i.natAbs < 2 ^ 64 by omega)
    omega
theorem num_len {i : Int} (h0 : 0 ≤ i) (h1 : i < 10 ^ 9) : (TL.numL i.toNat).length ≤ 9 := TL.numL_len (by decide) (by omega)
def pairT (p : Int × Int) : List Nat := TL.numL p.1.toNat ++ [45] ++ TL.numL p.2.toNat
theorem hw_map_str (g : GM) : HW_map_str g := by
  intro xs S Q E h
  unfold sp_map_str at h
  split at h
  · rename_i m
    obtain ⟨n, ts, rfl, n0, n1, hp, hl, hq⟩ := h
    have hsz : sizeLine = 16777216 := rfl
    unfold w_map_str
    simp
    have ln := num_len n0 n1
    have hem : ∀ z : List Nat, Str.empty ++ SX.S z = SX.S z := fun z => SX.S_cat [] z
    rw [str_repr n0]
    simp only [hem, SX.S_cat, SX.S_len]
    refine ⟨log_small n0 n1, by omega, by simp; omega, ?_⟩
    intro ad
    refine lcq (S0 := S) (fun p : Int × Int => X.d (.tup [.int p.1, .int p.2])) (fun _ => true) (fun p => .str (SX.S (pairT p))) ts (by omega) ?_ ?_ ad
    · intro p hpm S' K Kf hc hk
      obtain ⟨a0, a1, b0, b1⟩ := hp p hpm
      have la := num_len a0 a1
      have lb := num_len b0 b1
      simp [wJoined]
      rw [str_repr a0, str_repr b0]
      simp only [hem, SX.S_cat, SX.S_len]
      refine ⟨log_small a0 a1, by omega, by simp; omega, log_small b0 b1, by simp; omega, ?_⟩
      exact hk
    rw [filter_yes]
    simp
    have hxd : xdata (List.map (X.d ∘ fun p => D.str (SX.S (pairT p))) ts) = some (ts.map fun p => D.str (SX.S (pairT p))) := by rw [← List.map_map]; exact xdata_map _
    refine ⟨by omega, _, ⟨_, ⟨_, hxd, rfl⟩, rfl⟩, ((TL.numL n.toNat ++ [58]) :: ts.map pairT).map SX.S, .inl ?_, ?_, ?_⟩
    · simp
    · rw [SX.lens]
      have hs : ∀ l : List (Int × Int), (∀ p ∈ l, 0 ≤ p.1 ∧ p.1 < 10 ^ 9 ∧ 0 ≤ p.2 ∧ p.2 < 10 ^ 9) → ((l.map pairT).map (·.length)).sum ≤ 19 * l.length := by
        intro l
        induction l with
        | nil => intro _; simp
        | cons p l ih =>
          intro h
          have h1 := ih fun q hq => h q (List.mem_cons_of_mem _ hq)
          obtain ⟨a0, a1, b0, b1⟩ := h p List.mem_cons_self
          have la := num_len a0 a1
          have lb := num_len b0 b1
          have : (pairT p).length ≤ 19 := by unfold pairT; simp; omega
          rw [List.map_cons, List.map_cons, List.sum_cons, List.length_cons]
          omega
      have := hs ts hp
      simp at this ⊢
      omega
    · rw [SX.join_S]
      exact hq
  · exact h.elim
end DP

set_option Elab.async false
set_option linter.all false
set_option maxRecDepth 100000
set_option maxHeartbeats 1000000
namespace DP
open PySem PySem.Spec PyProof.Rows L2
open Evl (Ex ex_l ex_t ex_rd fresh_back)

/-! ### the text of a map is read as that map -/
theorem numL_head {n : Nat} (h : 1 ≤ n) : ∃ c r, TL.numL n = c :: r ∧ 49 ≤ c ∧ c ≤ 57 := by
  induction n using Nat.strongRecOn with
  | _ n ih =>
    by_cases hl : n < 10
    · exact ⟨48 + n, [], TL.numL_lt hl, by omega, by omega⟩
    · obtain ⟨c, r, e, h1, h2⟩ := ih (n / 10) (by omega) (by omega)
      exact ⟨c, r ++ [48 + n % 10], by rw [TL.numL_step (by omega), e]; rfl, h1, h2⟩
theorem numO_num {n : Nat} {m : Nat} (h : (TL.numL n).length ≤ m) : numO (TL.numL n) m = some (n : Int) := by
  have hd : isDig (TL.numL n) = true := isDig_iff.mpr (TL.numL_digits n)
  unfold numO
  rw [if_neg, TL.numL_val]
  rintro (h1 | h1 | h1 | ⟨h1, h2⟩)
  · exact TL.numL_ne n h1
  · omega
  · rw [hd] at h1; cases h1
  · by_cases hz : n = 0
    · subst hz; exact h1 (TL.numL_lt (by decide))
    · obtain ⟨c, r, e, h3, h4⟩ := numL_head (n := n) (by omega)
      rw [e] at h2
      cases h2
      omega
theorem numO_int {i : Int} (h0 : 0 ≤ i) (h1 : i < 10 ^ 9) : numO (TL.numL i.toNat) 9 = some i := by
  rw [numO_num (num_len h0 h1)]
  exact congrArg some (Int.toNat_of_nonneg h0)
theorem touchO_pair {p : Int × Int} (h0 : 0 ≤ p.1) (h1 : p.1 < p.2) (h2 : p.2 < 10 ^ 9) : touchO (pairT p) = some p := by
  have hp : TL.par [45] [] (pairT p) = some (TL.numL p.1.toNat, TL.numL p.2.toNat) := by
    unfold pairT
    have := SX.par_head (c := 45) (sep := []) (p := TL.numL p.1.toNat) (TL.numL p.2.toNat) (TL.numL_free (by decide))
    rw [List.append_assoc]
    exact this
  unfold touchO
  rw [hp]
  simp only
  rw [numO_int h0 (by omega), numO_int (by omega) h2]
  simp only
  rw [if_neg (by omega)]
theorem headO_num {n : Int} (h0 : 1 ≤ n) (h1 : n < 10 ^ 9) : headO (TL.numL n.toNat ++ [58]) = some n := by
  unfold headO
  rw [if_pos (by simp), List.dropLast_concat, numO_int (by omega) h1]
  simp only
  rw [if_neg (by omega)]
theorem wordsIn_text {n : Int} (hn : n < 10 ^ 9) : ∀ {ps : List (Int × Int)} {k : Nat} {last : Int × Int}, (∀ p ∈ ps, 0 ≤ p.1 ∧ p.1 < p.2 ∧ p.2 < n) → ps.Pairwise Lex → (∀ p ∈ ps, Lex last p) → wordsIn n k last (ps.map pairT) = .inr ps
  | [], k, last, _, _, _ => rfl
  | p :: ps, k, last, h1, h2, h3 => by
    obtain ⟨a, b, c⟩ := h1 p List.mem_cons_self
    obtain ⟨h4, h5⟩ := List.pairwise_cons.mp h2
    rw [List.map_cons]
    unfold wordsIn
    rw [touchO_pair a b (by omega)]
    simp only
    have hl := lexLe_pair.mpr (h3 p List.mem_cons_self)
    have hl : lexLe [p.1, p.2] [last.1, last.2] = false := hl
    rw [if_neg (by rw [hl]; rintro (h | h); cases h; omega), wordsIn_text hn (fun q hq => h1 q (List.mem_cons_of_mem _ hq)) h5 h4]
theorem mapIn_text {n : Int} {ps : List (Int × Int)} (h0 : 1 ≤ n) (h1 : n < 10 ^ 9) (hp : ∀ p ∈ ps, 0 ≤ p.1 ∧ p.1 < p.2 ∧ p.2 < n) (hs : ps.Pairwise Lex) : mapIn (mapT n ps) = .inr (n, ps) := by
  have hsp : TL.spl [32] 0 [] (mapT n ps) = (TL.numL n.toNat ++ [58]) :: ps.map pairT := by
    unfold mapT
    refine SX.spl_join (by simp) fun w hw => ?_
    rcases List.mem_cons.mp hw with rfl | hw
    · simp only [List.mem_append, List.mem_singleton, not_or]
      exact ⟨TL.numL_free (by decide), by decide⟩
    · obtain ⟨p, _, rfl⟩ := List.mem_map.mp hw
      simp only [List.mem_append, List.mem_singleton, not_or]
      exact ⟨⟨TL.numL_free (by decide), by decide⟩, TL.numL_free (by decide)⟩
  unfold mapIn
  rw [hsp]
  simp only
  rw [headO_num h0 h1]
  simp only
  rw [wordsIn_text h1 hp hs fun p h => by have := hp p h; unfold Lex; omega]
theorem joinL_len (sep : List Nat) : ∀ (l : List (List Nat)) (b : Nat), (∀ w ∈ l, w.length + sep.length ≤ b) → (TL.joinL sep l).length ≤ l.length * b
  | [], b, _ => by simp [TL.joinL]
  | [p], b, h => by
    have := h p (by simp)
    show p.length ≤ _
    simp; omega
  | p :: q :: r, b, h => by
    have h1 := h p (by simp)
    have h2 := joinL_len sep (q :: r) b fun w hw => h w (List.mem_cons_of_mem _ hw)
    show (p ++ (sep ++ TL.joinL sep (q :: r))).length ≤ _
    rw [List.length_append, List.length_append, List.length_cons, Nat.add_mul]
    omega
theorem mapT_len {n : Int} {ps : List (Int × Int)} (h0 : 0 ≤ n) (h1 : n < 10 ^ 9) (hp : ∀ p ∈ ps, 0 ≤ p.1 ∧ p.1 < p.2 ∧ p.2 < n) : (mapT n ps).length ≤ 20 * (ps.length + 1) := by
  unfold mapT
  refine Nat.le_trans (joinL_len [32] _ 20 fun w hw => ?_) (by simp; omega)
  rcases List.mem_cons.mp hw with rfl | hw
  · have := num_len h0 h1; simp; omega
  · obtain ⟨p, hpm, rfl⟩ := List.mem_map.mp hw
    have := hp p hpm
    have la := num_len (i := p.1) (by omega) (by omega)
    have lb := num_len (i := p.2) (by omega) (by omega)
    simp; omega
end DP

set_option Elab.async false
set_option linter.all false
set_option maxRecDepth 100000
set_option maxHeartbeats 1000000
namespace DP
open PySem PySem.Spec PyProof.Rows L2
open Evl (Ex ex_l ex_t ex_rd fresh_back)
/-! ### pick, of the laws' own draws -/
def sp_Lpick (g : GM) : DSp := fun xs S Q _ => match xs with
  | [.h p, .d (.lst ds)] => ds ≠ [] ∧ ds.length < 100000 ∧ ∃ b ys m, S = dealS b p ys m ∧ DealOk ys m ∧ ∀ ys m d, DealOk ys m → d ∈ ds → Q (.d d) (dealS b p ys m)
  | _ => False
section
variable {g : GM} (xs : List X) (S : Store) (Q : XQ) (E : Exn → Store → Prop)
theorem len_Lpick (h : sp_Lpick g xs S Q E) : xs.length = 2 := by
  unfold sp_Lpick at h
  split at h
  · rfl
  · exact h.elim
end
/-- _law_pick -/
def w_Lpick (g : GM) : WS := (wRet (wOp dIx (wVar 1) (wCall (sp_Ldraw g) [0, 1] [] (wCons (wVar 0) (wCons (wCB dLen (wCons (wVar 1) wNil)) wNil)))))
theorem hw_Lpick (g : GM) (xs : List X) (S : Store) (Q : XQ) (E : Exn → Store → Prop) (h : sp_Lpick g xs S Q E) : w_Lpick g { nx := fun _ S' => Q (.d .non) S', rt := Q } (startD ["_law_deal_here", "_law_some"] xs) S (fun _ _ _ => False) := by
  unfold sp_Lpick at h
  split at h
  · rename_i p ds
    obtain ⟨hne, hl, b, ys, m, rfl, ok, hq⟩ := h
    have hlen : 0 < ds.length := List.length_pos_iff.mpr hne
    unfold w_Lpick
    simp
    refine call_draw0 ok (by omega) (by omega) fun ys m v ok v0 v1 => ?_
    have hv : v.toNat < ds.length := by omega
    refine ⟨.d ds[v.toNat], ?_, hq ys m _ ok (List.getElem_mem hv)⟩
    have := atI_nat (xs := ds.map X.d) (j := v.toNat) (v := .d ds[v.toNat]) (by rw [List.getElem?_map, List.getElem?_eq_getElem hv]; rfl)
    rw [Int.toNat_of_nonneg v0] at this
    exact this
  · exact h.elim

section
variable {g : GM} {b p : Addr} {s : DLs} {ds : List D} {R : Store} {Q : XQ} {E : Exn → Store → Prop}
theorem c_pick (hn : ds ≠ []) (hl : ds.length < 100000) (h : ∀ (s : DLs) d, d ∈ ds → Q (.d d) (dS b p s ++ R)) : callD (sp_Lpick g) [0, 1] [.h p, .d (.lst ds)] (dS b p s ++ R) Q E :=
  call_deal fun Q' E' hQ => ⟨hn, hl, b, s.ys, s.m, rfl, s.ok, fun ys m d o hd => hQ ⟨ys, m, o⟩ _ (h ⟨ys, m, o⟩ d hd)⟩
theorem c_pick0 (hn : ds ≠ []) (hl : ds.length < 100000) (h : ∀ (s : DLs) d, d ∈ ds → Q (.d d) (dS b p s)) : callD (sp_Lpick g) [0, 1] [.h p, .d (.lst ds)] (dS b p s) Q E :=
  call_deal0 fun Q' E' hQ => ⟨hn, hl, b, s.ys, s.m, rfl, s.ok, fun ys m d o hd => hQ ⟨ys, m, o⟩ _ (h ⟨ys, m, o⟩ d hd)⟩
end
end DP

set_option Elab.async false
set_option linter.all false
set_option maxRecDepth 100000
set_option maxHeartbeats 1000000
namespace DP
open PySem PySem.Spec PyProof.Rows L2
open Evl (Ex ex_l ex_t ex_rd fresh_back)

/-! ### promises of law k10's own defs -/
structure OkW (n : Int) (ps : List (Int × Int)) : Prop where
  lo : 1 ≤ n
  hi : n ≤ 60
  pr : ∀ p ∈ ps, 0 ≤ p.1 ∧ p.1 < p.2 ∧ p.2 < n
  st : ps.Pairwise Lex
  sz : ps.length ≤ 576
def sp_LmapW (g : GM) : DSp := fun xs S Q _ => match xs with
  | [.d d] => S = [] ∧ ∃ n ps, d = chartD n ps ∧ OkW n ps ∧ newMap g n ps Q
  | _ => False
end DP

set_option Elab.async false
set_option linter.all false
set_option maxRecDepth 100000
set_option maxHeartbeats 4000000
namespace DP
open PySem PySem.Spec PyProof.Rows L2
open Evl (Ex ex_l ex_t ex_rd fresh_back)
/-- _law_map_of -/
def w_LmapW (g : GX) : WS := (wRet (wMake g.Map (sp_map_init g) [] (wCons (wOp dIx (wVar 0) (wC (.int 0))) (wCons (wFz (wCB dListOf (wCons (wOp dIx (wVar 0) (wC (.int 1))) wNil))) wNil))))
abbrev HW_LmapW (g : GX) : Prop := ∀ (xs : List X) (S : Store) (Q : XQ) (E : Exn → Store → Prop), sp_LmapW g xs S Q E → w_LmapW g { nx := fun _ S' => Q (.d .non) S', rt := Q } (startD ["_law_chart_here"] xs) S (fun _ _ _ => False)
theorem len_LmapW {g : GX} (xs : List X) (S : Store) (Q : XQ) (E : Exn → Store → Prop) (h : sp_LmapW g xs S Q E) : xs.length = 1 := by
  unfold sp_LmapW at h
  split at h <;> first | rfl | exact h.elim
def w_law_c3 (g : GX) : WS := (wIfS (wOr (wTest (wOp dNe (wCall (sp_Lchart_of g) [] [] (wCons (wVar 7) wNil)) (wVar 4))) (wOr (wTest (wOp dNeS (wCB dRepr (wCons (wFld g.Map "many" (wVar 7)) wNil)) (wCB dRepr (wCons (wOp dIx (wVar 4) (wC (.int 0))) wNil)))) (wTest (wOp dNe (wCB (dLenO g.Map (sp_map_len g)) (wCons (wVar 7) wNil)) (wOp dIx (wVar 4) (wC (.int 0))))))) (wRet (wC (.bl false))) wNext)
def w_law_c2 (g : GX) : WS := (wSeq (wIfS (wOr (wTest (wOp dNeS (wCB (dStrO g.Map (sp_map_str g)) (wCons (wVar 6) wNil)) (wVar 5))) (wOr (wNot (wTest (wCB (dIsi g.K) (wCons (wVar 7) (wCons (wC (.glob g.Map)) wNil))))) (wTest (wOp dNeS (wCB (dStrO g.Map (sp_map_str g)) (wCons (wVar 7) wNil)) (wVar 5))))) (wRet (wC (.bl false))) wNext)
  (wSeq (wIfS (wAnd (wTest (wOp dLt (wOp dIx (wVar 4) (wC (.int 0))) (wC (.int 13)))) (wTest (wOp (dNeO g.K g.Map (sp_map_eq g)) (wVar 7) (wVar 6)))) (wRet (wC (.bl false))) wNext)
  (w_law_c3 g)))
def w_law_c1 (g : GX) : WS := (wSeq (wPar 6 7 (wCons (wFz (wCall (sp_LmapW g) [] [] (wCons (wVar 4) wNil))) (wCons (wFz (wCMethX g.Map (sp_map_read g) [] [] (wC (.glob g.Map)) (wCons (wVar 5) wNil))) wNil)))
  (w_law_c2 g))
def w_law_b4 (g : GX) : WS := (wSeq (wAsg (wCall (sp_Lchart g) [0, 1] [] (wCons (wVar 1) (wCons (wC (.int 12)) wNil))) (dName 3))
  (wSeq (wAsg (wTup (wCons (wCall (sp_Lpick g) [0, 1] [] (wCons (wVar 1) (wCons (wFz (wLst (wCons (wOp dIx (wVar 3) (wC (.int 0))) (wCons (wOp dIx (wVar 3) (wC (.int 0))) (wCons (wC (.int 30)) (wCons (wC (.int 60)) wNil)))))) wNil))) (wCons (wOp dIx (wVar 3) (wC (.int 1))) wNil))) (dName 4))
  (wSeq (wAsg (wM1 dJoin (wC (.str " ")) (wFz (wOp dCat (wFz (wLst (wCons (wOp dAddS (wCB dStrI (wCons (wOp dIx (wVar 4) (wC (.int 0))) wNil)) (wC (.str ":"))) wNil))) (wFz (wLc (wISeq (wOp dIx (wVar 3) (wC (.int 1)))) (dTup 2 (dCons (dName 8) (dCons (dName 9) dNil))) wYes (wOp dAddS (wOp dAddS (wCB dStrI (wCons (wVar 8) wNil)) (wC (.str "-"))) (wCB dStrI (wCons (wVar 9) wNil))) [8, 9]))))) (dName 5))
  (w_law_c1 g))))
/-- law -/
def w_law (g : GX) : WS := (wSeq (wAsg (wCall (sp_Ldeal g) [] [] (wCons (wVar 0) wNil)) (dName 1))
  (wSeq (wFor (wIR1 (wCons (wC (.int 6)) wNil)) (dName 2)
  (w_law_b4 g))
  (wForget 0 (wRet (wAndV (wOp dEqS (wCB (dStrO g.Map (sp_map_str g)) (wCons (wFz (wMake g.Map (sp_map_init g) [X.d (.tup [])] (wCons (wC (.int 1)) wNil))) wNil)) (wC (.str "1:"))) (wAndV (wOp (dOwn g.K g.Map (sp_map_eq g)) (wFz (wCMethX g.Map (sp_map_read g) [] [] (wC (.glob g.Map)) (wCons (wC (.str "1:")) wNil))) (wFz (wMake g.Map (sp_map_init g) [X.d (.tup [])] (wCons (wC (.int 1)) wNil)))) (wOp dEqS (wCB (dStrO g.Map (sp_map_str g)) (wCons (wFz (wMake g.Map (sp_map_init g) [] (wCons (wC (.int 3)) (wCons (wFz (wLst (wCons (wFz (wLst (wCons (wC (.int 2)) (wCons (wC (.int 0)) wNil)))) wNil))) wNil)))) wNil)) (wC (.str "3: 0-2")))))))))
abbrev HW_law (g : GX) : Prop := ∀ (xs : List X) (S : Store) (Q : XQ) (E : Exn → Store → Prop), spLaw xs S Q E → w_law g { nx := fun _ S' => Q (.d .non) S', rt := Q } (startD ["_law_script", "_law_deal_here", "_law_turn", "_law_chart_here", "_law_wide", "_law_text", "_law_made", "_law_told", "_law_one", "_law_other"] xs) S (fun _ _ _ => False)
end DP

set_option Elab.async false
set_option linter.all false
set_option maxRecDepth 100000
set_option maxHeartbeats 1000000
namespace DP
open PySem PySem.Spec PyProof.Rows L2
open Evl (Ex ex_l ex_t ex_rd fresh_back)

theorem hw_LmapW (g : GX) : HW_LmapW g := by
  intro xs S Q E h
  unfold sp_LmapW at h
  split at h
  · rename_i d
    obtain ⟨rfl, n, ps, rfl, ok, hq⟩ := h
    have hl := ok.sz
    unfold w_LmapW
    simp
    refine ⟨_, ⟨_, xdata_PX ps, rfl⟩, fun a => ?_⟩
    refine make_map (S0 := []) ok.lo (by have := ok.hi; omega) (by unfold PD; rw [List.length_map]; omega) (fun q hq' => by have := ok.pr q hq'; omega) rfl ?_
    rw [norm_self ok.lo ok.pr ok.st]
    exact hq a
  · exact h.elim
section
variable {g : GX} {n : Int} {ps : List (Int × Int)} {S : Store} {Q : XQ} {E : Exn → Store → Prop}
theorem c_mapW (ok : OkW n ps) (h : Q (.d (mapO g n ps)) S) : callD (sp_LmapW g) [] [.d (chartD n ps)] S (fzQ Q) E :=
  callF fun Q' E' hQ => ⟨rfl, n, ps, rfl, ok, fun a => hQ _ _ (by rw [x_fzh]; exact ⟨_, rfl, h⟩)⟩
theorem c_read (h0 : 1 ≤ n) (h1 : n ≤ 1000) (hp : ∀ p ∈ ps, 0 ≤ p.1 ∧ p.1 < p.2 ∧ p.2 < n) (hs : ps.Pairwise Lex) (hl : ps.length ≤ 1000) (h : Q (.d (mapO g n ps)) S) : callD (sp_map_read g) [] [.d (.glob g.Map), .d (.str (SX.S (mapT n ps)))] S (fzQ Q) E :=
  callF fun Q' E' hQ => ⟨rfl, rfl, mapT n ps, rfl, by have := mapT_len (n := n) (ps := ps) (by omega) (by omega) hp; omega, by
    rw [mapIn_text h0 (by omega) hp hs]
    exact fun a => hQ _ _ (by rw [x_fzh]; exact ⟨_, rfl, h⟩)⟩
theorem c_strO (h0 : 1 ≤ n) (h1 : n ≤ 1000) (hp : ∀ p ∈ ps, 0 ≤ p.1 ∧ p.1 < p.2 ∧ p.2 < n) (hl : ps.length ≤ 1000) (h : Q (.d (.str (SX.S (mapT n ps)))) S) : dStrO g.Map (sp_map_str g) [.d (mapO g n ps)] S Q :=
  ⟨rfl, callP fun Q' E' hQ => ⟨n, ps, rfl, by omega, by omega, fun p hpm => by have := hp p hpm; omega, by omega, hQ _ ⟨_, rfl, h⟩⟩⟩
theorem c_lenO (h0 : 0 ≤ n) (h1 : n ≤ 1000) (h : Q (.d (.int n)) S) : dLenO g.Map (sp_map_len g) [.d (mapO g n ps)] S Q := c_len h0 h1 h
theorem tr_chartW (ok : OkW n ps) : Tr 3 4000 (chartD n ps) := by
  have h1 : Tr 2 (576 * 3) (.lst (PD ps)) := (tr_lst (k := 1) (b := 2) fun d hd => by
    obtain ⟨p, hp, rfl⟩ := List.mem_map.mp hd
    have := ok.pr p hp
    have := ok.hi
    refine (tr_tup (k := 0) (b := 0) fun d hd => ?_).up (Nat.le_refl _) (Nat.le_refl _)
    simp at hd
    rcases hd with rfl | rfl <;> exact tr_int (by omega) (by omega)).up (Nat.le_refl _) (by
      have := ok.sz
      have e : (PD ps).length = ps.length := by unfold PD; rw [List.length_map]
      rw [e]; omega)
  refine (tr_tup (k := 2) (b := 576 * 3) fun d hd => ?_).up (Nat.le_refl _) (by simp)
  simp at hd
  rcases hd with rfl | rfl
  · exact (tr_int (by have := ok.lo; omega) (by have := ok.hi; omega)).up (by decide) (by decide)
  · exact h1
theorem qn_int0 {i : Int} (h : Q (.d (.bl false)) S) : dNe (.d (.int i)) (.d (.int i)) S Q := qn_int (by simpa using h)
end
theorem law_c3 {g : GX} {Δ : DEnds} {E : XR} {b p : Addr} {s : DLs} {sc t o3 o5 o6 o8 o9 : Option X} {n : Int} {ps : List (Int × Int)} (ok : OkW n ps)
    (h : Δ.nx [sc, some (.h p), t, o3, some (.d (chartD n ps)), o5, o6, some (.d (mapO g n ps)), o8, o9] (dS b p s)) :
    w_law_c3 g Δ [sc, some (.h p), t, o3, some (.d (chartD n ps)), o5, o6, some (.d (mapO g n ps)), o8, o9] (dS b p s) E := by
  have h0 := ok.lo
  have h1 := ok.hi
  unfold w_law_c3
  simp [-x_neO, -x_lenO, -x_strO]
  refine c_chart_of (q_neT ((tr_chartW ok).up (by decide) (Nat.le_refl _)) ?_)
  simp [-x_neO, -x_lenO, -x_strO]
  refine q_reprTr ((tr_int (i := n) (by omega) (by omega)).up (by decide) (by decide)) fun st key => ?_
  refine key _ _ ?_
  refine qn_str ?_
  simp [-x_neO, -x_lenO, -x_strO]
  refine c_lenO (by omega) (by omega) ?_
  simpa using h
theorem law_c2 {g : GX} {Δ : DEnds} {E : XR} {b p : Addr} {s : DLs} {sc t o3 o8 o9 : Option X} {n : Int} {ps : List (Int × Int)} (ok : OkW n ps)
    (h : Δ.nx [sc, some (.h p), t, o3, some (.d (chartD n ps)), some (.d (.str (SX.S (mapT n ps)))), some (.d (mapO g n ps)), some (.d (mapO g n ps)), o8, o9] (dS b p s)) :
    w_law_c2 g Δ [sc, some (.h p), t, o3, some (.d (chartD n ps)), some (.d (.str (SX.S (mapT n ps)))), some (.d (mapO g n ps)), some (.d (mapO g n ps)), o8, o9] (dS b p s) E := by
  have h0 := ok.lo
  have h1 := ok.hi
  have hl := ok.sz
  show (wSeq _ (wSeq _ (w_law_c3 g))) _ _ _ _
  simp [-x_neO, -x_lenO, -x_strO]
  refine c_strO h0 (by omega) ok.pr (by omega) ?_
  simp [-x_neO, -x_lenO, -x_strO]
  refine ⟨g.own, .ref g.Map, true, rfl, by unfold PySem.W.kitOne; simp, ?_⟩
  simp [-x_neO, -x_lenO, -x_strO]
  refine c_strO h0 (by omega) ok.pr (by omega) ?_
  simp [-x_neO, -x_lenO, -x_strO]
  by_cases h13 : n < 13
  · rw [if_pos h13]
    refine q_neO ?_
    simp
    exact law_c3 ok h
  · rw [if_neg h13]
    exact law_c3 ok h
theorem law_c1 {g : GX} {Δ : DEnds} {E : XR} {b p : Addr} {s : DLs} {sc t o3 o6 o7 o8 o9 : Option X} {n : Int} {ps : List (Int × Int)} (ok : OkW n ps)
    (h : ∀ o5 o6 o7, Δ.nx [sc, some (.h p), t, o3, some (.d (chartD n ps)), o5, o6, o7, o8, o9] (dS b p s)) :
    w_law_c1 g Δ [sc, some (.h p), t, o3, some (.d (chartD n ps)), some (.d (.str (SX.S (mapT n ps)))), o6, o7, o8, o9] (dS b p s) E := by
  have hl := ok.sz
  show (wSeq _ (w_law_c2 g)) _ _ _ _
  simp
  refine c_mapW ok ?_
  refine c_read ok.lo (by have := ok.hi; omega) ok.pr ok.st (by omega) ?_
  exact law_c2 ok (h _ _ _)
theorem law_b4 {g : GX} {Δ : DEnds} {E : XR} {b p : Addr} {s : DLs} {sc t o3 o4 o5 o6 o7 o8 o9 : Option X}
    (h : ∀ (s : DLs) o3 o4 o5 o6 o7 o8 o9, Δ.nx [sc, some (.h p), t, o3, o4, o5, o6, o7, o8, o9] (dS b p s)) :
    w_law_b4 g Δ [sc, some (.h p), t, o3, o4, o5, o6, o7, o8, o9] (dS b p s) E := by
  have hsz : sizeLine = 16777216 := rfl
  show (wSeq _ (wSeq _ (wSeq _ (w_law_c1 g)))) _ _ _ _
  simp
  refine c_chart0 (by decide) (by decide) fun s n ps ok hn => ?_
  have hlo := ok.lo
  have hpl := ok.sz
  simp
  refine ⟨by decide, ?_⟩
  refine c_pick0 (by simp) (by simp) fun s d hd => ?_
  obtain ⟨m, rfl, okw⟩ : ∃ m, d = .int m ∧ OkW m ps := by
    simp at hd
    have up : ∀ m, n ≤ m → m ≤ 60 → OkW m ps := fun m h1 h2 => ⟨by omega, h2, fun q hq => by have := ok.pr q hq; omega, ok.st, hpl⟩
    rcases hd with rfl | rfl | rfl
    · exact ⟨_, rfl, up _ (Int.le_refl _) (by omega)⟩
    · exact ⟨_, rfl, up _ (by omega) (by omega)⟩
    · exact ⟨_, rfl, up _ (by omega) (by omega)⟩
  have m0 := okw.lo
  have m1 := okw.hi
  simp
  refine ⟨by decide, _, atI2.1, ?_⟩
  have lm := num_len (i := m) (by omega) (by omega)
  simp
  rw [str_repr (by omega)]
  refine ⟨log_small (by omega) (by omega), ?_⟩
  simp
  refine ⟨by omega, by decide, ?_⟩
  intro ad
  have hp : ∀ q ∈ ps, 0 ≤ q.1 ∧ q.1 < 10 ^ 9 ∧ 0 ≤ q.2 ∧ q.2 < 10 ^ 9 := fun q hq => by have := okw.pr q hq; omega
  refine lcq (S0 := dS b p s) (fun p : Int × Int => X.d (.tup [.int p.1, .int p.2])) (fun _ => true) (fun p => .str (SX.S (pairT p))) ps (by omega) ?_ ?_ ad
  · intro q hq S' K Kf hc hk
    obtain ⟨a0, a1, b0, b1⟩ := hp q hq
    have la := num_len a0 a1
    have lb := num_len b0 b1
    simp
    rw [str_repr a0]
    refine ⟨log_small a0 a1, ?_⟩
    simp
    rw [str_repr b0]
    refine ⟨by omega, log_small b0 b1, ?_⟩
    have e : TL.numL q.1.toNat ++ 45 :: TL.numL q.2.toNat = pairT q := by unfold pairT; simp
    simp [e]
    exact ⟨by omega, hk⟩
  rw [filter_yes]
  simp
  refine ⟨by omega, ((TL.numL m.toNat ++ [58]) :: ps.map pairT).map SX.S, ?_, ?_, ?_⟩
  · simp
  · rw [SX.lens]
    have hs : ∀ l : List (Int × Int), (∀ p ∈ l, 0 ≤ p.1 ∧ p.1 < 10 ^ 9 ∧ 0 ≤ p.2 ∧ p.2 < 10 ^ 9) → ((l.map pairT).map (·.length)).sum ≤ 19 * l.length := by
      intro l
      induction l with
      | nil => intro _; simp
      | cons p l ih =>
        intro h
        have h1 := ih fun q hq => h q (List.mem_cons_of_mem _ hq)
        obtain ⟨a0, a1, b0, b1⟩ := h p List.mem_cons_self
        have la := num_len a0 a1
        have lb := num_len b0 b1
        have : (pairT p).length ≤ 19 := by unfold pairT; simp; omega
        rw [List.map_cons, List.map_cons, List.sum_cons, List.length_cons]
        omega
    have := hs ps hp
    have e32 : (SX.S [32]).length = 1 := rfl
    rw [e32]
    simp at this ⊢
    omega
  · rw [SX.join_S]
    exact law_c1 okw fun o5 o6 o7 => h _ _ _ _ _ _ _ _
theorem lit_1c : Str.ofString "1:" = SX.S [49, 58] := rfl
theorem lit_3c : Str.ofString "3: 0-2" = SX.S [51, 58, 32, 48, 45, 50] := rfl
theorem mapT1 : mapT 1 [] = [49, 58] := by
  unfold mapT
  rw [show (1 : Int).toNat = 1 from rfl, TL.numL_lt (by decide)]; rfl
theorem mapT3 : mapT 3 [(0, 2)] = [51, 58, 32, 48, 45, 50] := by
  unfold mapT
  rw [show (3 : Int).toNat = 3 from rfl, TL.numL_lt (by decide)]
  simp only [List.map_cons, List.map_nil]
  rw [show (0 : Int).toNat = 0 from rfl, TL.numL_lt (by decide), show (2 : Int).toNat = 2 from rfl, TL.numL_lt (by decide)]; rfl
theorem make_any {g : GM} {n : Int} {b : Bool} {d : D} {ds : List D} {rs : List (Int × Int)} {a : Addr} {Q : XQ} {E : Exn → Store → Prop} (h0 : 1 ≤ n) (h1 : n ≤ 1000000000) (hs : seqD d = some (b, ds)) (hl : ds.length ≤ 100000) (hp : ∀ e ∈ ds, OkT e ∧ isTouchB n e = true) (hr : normT n ds = rs)
    (h : Q (.d (mapO g n rs)) []) : callD (sp_map_init g) [0] [.h a, .d (.int n), .d d] [(a, .obj g.Map [])] (fun r S' => r = .d .non ∧ fzQ Q (.h a) S') E := by
  subst hr
  refine callI (Sc := [(a, .obj g.Map [])]) rfl (by simp) fun Q' E' hQ => ⟨rfl, h0, h1, b, ds, hs, hl, hp, hQ (.d .non) [(a, .obj g.Map [("many", .d (.int n)), ("touches", .d (.tup (PD (normT n ds))))])] [] rfl ⟨rfl, ?_⟩⟩
  exact ⟨[], _, _, rfl, rfl, h⟩
theorem hw_law (g : GX) : HW_law g := by
  intro xs S Q E h
  unfold spLaw at h
  split at h
  · rename_i ds
    obtain ⟨ns, rfl, hl, rfl, hq⟩ := h
    unfold w_law
    simp [-x_strO, -x_neO]
    refine callF fun Q' E' hQ => ⟨rfl, ns, rfl, hl, fun b p ys m okd => hQ _ _ ?_⟩
    simp [-x_strO, -x_neO]
    refine loop_invI (fun l δ S => ∃ (s : DLs) (t o3 o4 o5 o6 o7 o8 o9 : Option X), δ = [_, some (.h p), t, o3, o4, o5, o6, o7, o8, o9] ∧ S = dS b p s) (rng 6) ⟨⟨ys, m, okd⟩, _, _, _, _, _, _, _, _, rfl, rfl⟩ ?_ ?_
    · rintro a l _ _ K ⟨s, t, o3, o4, o5, o6, o7, o8, o9, rfl, rfl⟩ hK
      simp
      exact law_b4 fun s o3 o4 o5 o6 o7 o8 o9 => hK _ _ ⟨s, _, _, _, _, _, _, _, _, rfl, rfl⟩
    · rintro _ _ ⟨s, t, o3, o4, o5, o6, o7, o8, o9, rfl, rfl⟩
      simp [-x_strO, -x_neO]
      intro a1
      refine make_any (by decide) (by decide) rfl (by simp) (by simp) (rs := []) (by decide) ?_
      refine c_strO (by decide) (by decide) (by simp) (by simp) ?_
      rw [mapT1, lit_1c]
      simp [-x_strO, -x_neO]
      have e1 : (SX.S [49, 58]) = SX.S (mapT 1 []) := by rw [mapT1]
      rw [e1]
      refine c_read (by decide) (by decide) (by simp) List.Pairwise.nil (by simp) ?_
      intro a2
      refine make_any (by decide) (by decide) rfl (by simp) (by simp) (rs := []) (by decide) ?_
      refine q_own ?_
      simp [-x_strO, -x_neO]
      refine ⟨by decide, by decide, fun a3 => ?_⟩
      refine make_any (by decide) (by decide) rfl (by simp) (fun e he => ?_) (rs := [(0, 2)]) (by decide) ?_
      · simp at he
        subst he
        refine ⟨⟨rfl, fun b ds hs x hx => ?_⟩, by decide⟩
        cases hs
        simp at hx
        rcases hx with rfl | rfl <;> rfl
      refine c_strO (by decide) (by decide) (by simp) (by simp) ?_
      rw [mapT3, lit_3c]
      simp
      exact hq _
  · exact h.elim
end DP

set_option Elab.async false
set_option linter.all false
set_option maxRecDepth 100000
set_option maxHeartbeats 4000000
namespace DP
open PySem PySem.Spec PyProof.Rows L2
open Evl (Ex ex_l ex_t ex_rd fresh_back)
def topS (i : Nat) : Stmt := PySem.Challenge.pw_pourmaps_k10_texts_of_maps.main.body.getD i (.Pass ⟨0, 0, 0, 0⟩)
abbrev s_is_integer : Stmt := topS 8
theorem sc_is_integer : FnScope ["value"] ["value"] (defScope s_is_integer) := ⟨rfl, rfl, rfl, by decide +kernel, rfl, by decide +kernel, by decide +kernel⟩
abbrev s_is_sequence : Stmt := topS 9
theorem sc_is_sequence : FnScope ["value"] ["value"] (defScope s_is_sequence) := ⟨rfl, rfl, rfl, by decide +kernel, rfl, by decide +kernel, by decide +kernel⟩
abbrev s_number_of : Stmt := topS 10
theorem sc_number_of : FnScope ["word", "most", "sign"] ["word", "most"] (defScope s_number_of) := ⟨rfl, rfl, rfl, by decide +kernel, rfl, by decide +kernel, by decide +kernel⟩
abbrev s_ordered_pair : Stmt := topS 13
theorem sc_ordered_pair : FnScope ["one", "other"] ["one", "other"] (defScope s_ordered_pair) := ⟨rfl, rfl, rfl, by decide +kernel, rfl, by decide +kernel, by decide +kernel⟩
abbrev s_is_touch : Stmt := topS 15
theorem sc_is_touch : FnScope ["many", "pair", "cell"] ["many", "pair"] (defScope s_is_touch) := ⟨rfl, rfl, rfl, by decide +kernel, rfl, by decide +kernel, by decide +kernel⟩
abbrev s_ordered_touches : Stmt := topS 14
theorem sc_ordered_touches : FnScope ["many", "touches", "found", "pair", "one", "other", "place"] ["many", "touches"] (defScope s_ordered_touches) := ⟨rfl, rfl, rfl, by decide +kernel, rfl, by decide +kernel, by decide +kernel⟩
abbrev s_touch_in : Stmt := topS 16
theorem sc_touch_in : FnScope ["word", "one", "sign", "other", "found"] ["word"] (defScope s_touch_in) := ⟨rfl, rfl, rfl, by decide +kernel, rfl, by decide +kernel, by decide +kernel⟩
abbrev s_map_in : Stmt := topS 17
theorem sc_map_in : FnScope ["text", "head", "words", "many", "touches", "at", "word", "pair"] ["text"] (defScope s_map_in) := ⟨rfl, rfl, rfl, by decide +kernel, rfl, by decide +kernel, by decide +kernel⟩
abbrev s_map_init : Stmt := inClass (topS 19) 0
theorem sc_map_init : FnScope ["self", "many", "touches"] ["self", "many", "touches"] (defScope s_map_init) := ⟨rfl, rfl, rfl, by decide +kernel, rfl, by decide +kernel, by decide +kernel⟩
abbrev s_map_read : Stmt := inClass (topS 19) 1
theorem sc_map_read : FnScope ["cls", "text", "many", "touches"] ["cls", "text"] (defScope s_map_read) := ⟨rfl, rfl, rfl, by decide +kernel, rfl, by decide +kernel, by decide +kernel⟩
abbrev s_map_len : Stmt := inClass (topS 19) 15
theorem sc_map_len : FnScope ["self"] ["self"] (defScope s_map_len) := ⟨rfl, rfl, rfl, by decide +kernel, rfl, by decide +kernel, by decide +kernel⟩
abbrev s_map_eq : Stmt := inClass (topS 19) 18
theorem sc_map_eq : FnScope ["self", "other"] ["self", "other"] (defScope s_map_eq) := ⟨rfl, rfl, rfl, by decide +kernel, rfl, by decide +kernel, by decide +kernel⟩
abbrev s_map_str : Stmt := inClass (topS 19) 19
theorem sc_map_str : FnScope ["self", "one", "other"] ["self"] (defScope s_map_str) := ⟨rfl, rfl, rfl, by decide +kernel, rfl, by decide +kernel, by decide +kernel⟩
abbrev s_Ldeal : Stmt := topS 21
theorem sc_Ldeal : FnScope ["_law_script", "_law_cells", "_law_mixed", "_law_cell"] ["_law_script"] (defScope s_Ldeal) := ⟨rfl, rfl, rfl, by decide +kernel, rfl, by decide +kernel, by decide +kernel⟩
abbrev s_Ldraw : Stmt := topS 22
theorem sc_Ldraw : FnScope ["_law_deal_here", "_law_many", "_law_left"] ["_law_deal_here", "_law_many"] (defScope s_Ldraw) := ⟨rfl, rfl, rfl, by decide +kernel, rfl, by decide +kernel, by decide +kernel⟩
abbrev s_Lpick : Stmt := topS 23
theorem sc_Lpick : FnScope ["_law_deal_here", "_law_some"] ["_law_deal_here", "_law_some"] (defScope s_Lpick) := ⟨rfl, rfl, rfl, by decide +kernel, rfl, by decide +kernel, by decide +kernel⟩
abbrev s_Lchart : Stmt := topS 24
theorem sc_Lchart : FnScope ["_law_deal_here", "_law_most", "_law_many", "_law_thick", "_law_pairs", "_law_one", "_law_other"] ["_law_deal_here", "_law_most"] (defScope s_Lchart) := ⟨rfl, rfl, rfl, by decide +kernel, rfl, by decide +kernel, by decide +kernel⟩
abbrev s_LmapW : Stmt := topS 25
theorem sc_LmapW : FnScope ["_law_chart_here"] ["_law_chart_here"] (defScope s_LmapW) := ⟨rfl, rfl, rfl, by decide +kernel, rfl, by decide +kernel, by decide +kernel⟩
abbrev s_Lchart_of : Stmt := topS 26
theorem sc_Lchart_of : FnScope ["_law_made"] ["_law_made"] (defScope s_Lchart_of) := ⟨rfl, rfl, rfl, by decide +kernel, rfl, by decide +kernel, by decide +kernel⟩
abbrev s_law : Stmt := topS 27
theorem sc_law : FnScope ["_law_script", "_law_deal_here", "_law_turn", "_law_chart_here", "_law_wide", "_law_text", "_law_made", "_law_told", "_law_one", "_law_other"] ["_law_script"] (defScope s_law) := ⟨rfl, rfl, rfl, by decide +kernel, rfl, by decide +kernel, by decide +kernel⟩
abbrev s_InvalidMap : Stmt := inClass (topS 3) 0
theorem sc_InvalidMap : NdefX.NScope ["self", "word", "__class__"] ["self", "word"] ["__class__"] (defScope s_InvalidMap) := NdefX.nscope_by (by decide +kernel)
abbrev s_InvalidText : Stmt := inClass (topS 4) 0
theorem sc_InvalidText : NdefX.NScope ["self", "at", "__class__"] ["self", "at"] ["__class__"] (defScope s_InvalidText) := NdefX.nscope_by (by decide +kernel)
abbrev s_NoCell : Stmt := inClass (topS 5) 0
theorem sc_NoCell : NdefX.NScope ["self", "cell", "__class__"] ["self", "cell"] ["__class__"] (defScope s_NoCell) := NdefX.nscope_by (by decide +kernel)
structure TXR (P : Program) (K : PySem.W.Frag) (mg : Str → Option Value) where
  C_Map : Addr
  a_is_integer : Addr
  d_is_integer : FuncData
  a_is_sequence : Addr
  d_is_sequence : FuncData
  a_number_of : Addr
  d_number_of : FuncData
  a_ordered_pair : Addr
  d_ordered_pair : FuncData
  a_is_touch : Addr
  d_is_touch : FuncData
  a_ordered_touches : Addr
  d_ordered_touches : FuncData
  a_touch_in : Addr
  d_touch_in : FuncData
  a_map_in : Addr
  d_map_in : FuncData
  a_map_init : Addr
  d_map_init : FuncData
  a_map_read : Addr
  d_map_read : FuncData
  a_map_len : Addr
  d_map_len : FuncData
  a_map_eq : Addr
  d_map_eq : FuncData
  a_map_str : Addr
  d_map_str : FuncData
  a_Ldeal : Addr
  d_Ldeal : FuncData
  a_Ldraw : Addr
  d_Ldraw : FuncData
  a_Lpick : Addr
  d_Lpick : FuncData
  a_Lchart : Addr
  d_Lchart : FuncData
  a_LmapW : Addr
  d_LmapW : FuncData
  a_Lchart_of : Addr
  d_Lchart_of : FuncData
  m_Map : mg "Map" = some (.ref C_Map)
  cl_Map : Cls K C_Map
  na_Map_many : NoAttr K C_Map "many"
  na_Map_touches : NoAttr K C_Map "touches"
  own_Map : OwnC K C_Map
  sf_Map : PySem.W.selfFirst K C_Map = true
  cr_Map : ClX.CRead K C_Map (.type "type")
  C_PourError : Addr
  m_PourError : mg "PourError" = some (.ref C_PourError)
  xcls_PourError : ExCls K C_PourError
  C_InvalidMap : Addr
  m_InvalidMap : mg "InvalidMap" = some (.ref C_InvalidMap)
  xcls_InvalidMap : ExCls K C_InvalidMap
  C_InvalidText : Addr
  m_InvalidText : mg "InvalidText" = some (.ref C_InvalidText)
  xcls_InvalidText : ExCls K C_InvalidText
  C_NoCell : Addr
  m_NoCell : mg "NoCell" = some (.ref C_NoCell)
  xcls_NoCell : ExCls K C_NoCell
  f_InvalidMap : Addr
  cc_InvalidMap : Addr
  cda_InvalidMap : Addr
  fd_InvalidMap : FuncData
  exc_InvalidMap : ExC K C_InvalidMap "ValueError" "ValueError.__new__" "ValueError.__init__" [.type "ValueError", .type "Exception", .type "BaseException", .type "object"]
  su_InvalidMap : SupOk P K mg (defScope s_InvalidMap) (defArgs s_InvalidMap) cda_InvalidMap cc_InvalidMap C_InvalidMap "self"
  fs_InvalidMap : FnSu K f_InvalidMap cc_InvalidMap cda_InvalidMap "__init__" "InvalidMap.__init__" (defArgs s_InvalidMap) (defBody s_InvalidMap) (defScope s_InvalidMap) fd_InvalidMap
  ms_InvalidMap : PySem.W.ks_superIn K C_InvalidMap C_InvalidMap "__init__" = some (some (.builtin "ValueError.__init__"))
  tk_InvalidMap : PySem.W.takerIn K C_InvalidMap "word" = some none
  ini_InvalidMap : PySem.W.findIn K (.ref C_InvalidMap) "__init__" = some (some (.ref f_InvalidMap))
  ty_InvalidMap : PySem.W.typeIn K (.ref f_InvalidMap) = some (.type "function")
  bi_InvalidMap : Binds K fd_InvalidMap ["self", "word"] []
  xf_InvalidMap : XfC K C_InvalidMap
  nx_InvalidMap_word : PySem.W.findIn K (.ref C_InvalidMap) "word" = some none
  ec_InvalidMap : ExcC K C_InvalidMap
  sub_InvalidMap_PourError : PySem.W.subIn K (.ref C_InvalidMap) (.ref C_PourError) = some true
  sub_InvalidMap_InvalidMap : PySem.W.subIn K (.ref C_InvalidMap) (.ref C_InvalidMap) = some true
  sub_InvalidMap_InvalidText : PySem.W.subIn K (.ref C_InvalidMap) (.ref C_InvalidText) = some false
  sub_InvalidMap_NoCell : PySem.W.subIn K (.ref C_InvalidMap) (.ref C_NoCell) = some false
  sub_InvalidMap_ValueError : PySem.W.subIn K (.ref C_InvalidMap) (.type "ValueError") = some true
  sub_InvalidMap_IndexError : PySem.W.subIn K (.ref C_InvalidMap) (.type "IndexError") = some false
  f_InvalidText : Addr
  cc_InvalidText : Addr
  cda_InvalidText : Addr
  fd_InvalidText : FuncData
  exc_InvalidText : ExC K C_InvalidText "ValueError" "ValueError.__new__" "ValueError.__init__" [.type "ValueError", .type "Exception", .type "BaseException", .type "object"]
  su_InvalidText : SupOk P K mg (defScope s_InvalidText) (defArgs s_InvalidText) cda_InvalidText cc_InvalidText C_InvalidText "self"
  fs_InvalidText : FnSu K f_InvalidText cc_InvalidText cda_InvalidText "__init__" "InvalidText.__init__" (defArgs s_InvalidText) (defBody s_InvalidText) (defScope s_InvalidText) fd_InvalidText
  ms_InvalidText : PySem.W.ks_superIn K C_InvalidText C_InvalidText "__init__" = some (some (.builtin "ValueError.__init__"))
  tk_InvalidText : PySem.W.takerIn K C_InvalidText "at" = some none
  ini_InvalidText : PySem.W.findIn K (.ref C_InvalidText) "__init__" = some (some (.ref f_InvalidText))
  ty_InvalidText : PySem.W.typeIn K (.ref f_InvalidText) = some (.type "function")
  bi_InvalidText : Binds K fd_InvalidText ["self", "at"] []
  xf_InvalidText : XfC K C_InvalidText
  nx_InvalidText_at : PySem.W.findIn K (.ref C_InvalidText) "at" = some none
  ec_InvalidText : ExcC K C_InvalidText
  sub_InvalidText_PourError : PySem.W.subIn K (.ref C_InvalidText) (.ref C_PourError) = some true
  sub_InvalidText_InvalidMap : PySem.W.subIn K (.ref C_InvalidText) (.ref C_InvalidMap) = some false
  sub_InvalidText_InvalidText : PySem.W.subIn K (.ref C_InvalidText) (.ref C_InvalidText) = some true
  sub_InvalidText_NoCell : PySem.W.subIn K (.ref C_InvalidText) (.ref C_NoCell) = some false
  sub_InvalidText_ValueError : PySem.W.subIn K (.ref C_InvalidText) (.type "ValueError") = some true
  sub_InvalidText_IndexError : PySem.W.subIn K (.ref C_InvalidText) (.type "IndexError") = some false
  f_NoCell : Addr
  cc_NoCell : Addr
  cda_NoCell : Addr
  fd_NoCell : FuncData
  exc_NoCell : ExC K C_NoCell "IndexError" "IndexError.__new__" "IndexError.__init__" [.type "IndexError", .type "LookupError", .type "Exception", .type "BaseException", .type "object"]
  su_NoCell : SupOk P K mg (defScope s_NoCell) (defArgs s_NoCell) cda_NoCell cc_NoCell C_NoCell "self"
  fs_NoCell : FnSu K f_NoCell cc_NoCell cda_NoCell "__init__" "NoCell.__init__" (defArgs s_NoCell) (defBody s_NoCell) (defScope s_NoCell) fd_NoCell
  ms_NoCell : PySem.W.ks_superIn K C_NoCell C_NoCell "__init__" = some (some (.builtin "IndexError.__init__"))
  tk_NoCell : PySem.W.takerIn K C_NoCell "cell" = some none
  ini_NoCell : PySem.W.findIn K (.ref C_NoCell) "__init__" = some (some (.ref f_NoCell))
  ty_NoCell : PySem.W.typeIn K (.ref f_NoCell) = some (.type "function")
  bi_NoCell : Binds K fd_NoCell ["self", "cell"] []
  xf_NoCell : XfC K C_NoCell
  nx_NoCell_cell : PySem.W.findIn K (.ref C_NoCell) "cell" = some none
  ec_NoCell : ExcC K C_NoCell
  sub_NoCell_PourError : PySem.W.subIn K (.ref C_NoCell) (.ref C_PourError) = some false
  sub_NoCell_InvalidMap : PySem.W.subIn K (.ref C_NoCell) (.ref C_InvalidMap) = some false
  sub_NoCell_InvalidText : PySem.W.subIn K (.ref C_NoCell) (.ref C_InvalidText) = some false
  sub_NoCell_NoCell : PySem.W.subIn K (.ref C_NoCell) (.ref C_NoCell) = some true
  sub_NoCell_ValueError : PySem.W.subIn K (.ref C_NoCell) (.type "ValueError") = some false
  sub_NoCell_IndexError : PySem.W.subIn K (.ref C_NoCell) (.type "IndexError") = some true
  F_is_integer : Fun K "is_integer" "is_integer" s_is_integer a_is_integer d_is_integer
  b_is_integer : Binds K d_is_integer ["value"] []
  m_is_integer : mg "is_integer" = some (.ref a_is_integer)
  F_is_sequence : Fun K "is_sequence" "is_sequence" s_is_sequence a_is_sequence d_is_sequence
  b_is_sequence : Binds K d_is_sequence ["value"] []
  m_is_sequence : mg "is_sequence" = some (.ref a_is_sequence)
  F_number_of : Fun K "number_of" "number_of" s_number_of a_number_of d_number_of
  b_number_of : Binds K d_number_of ["word", "most"] []
  m_number_of : mg "number_of" = some (.ref a_number_of)
  F_ordered_pair : Fun K "ordered_pair" "ordered_pair" s_ordered_pair a_ordered_pair d_ordered_pair
  b_ordered_pair : Binds K d_ordered_pair ["one", "other"] []
  m_ordered_pair : mg "ordered_pair" = some (.ref a_ordered_pair)
  F_is_touch : Fun K "is_touch" "is_touch" s_is_touch a_is_touch d_is_touch
  b_is_touch : Binds K d_is_touch ["many", "pair"] []
  m_is_touch : mg "is_touch" = some (.ref a_is_touch)
  F_ordered_touches : Fun K "ordered_touches" "ordered_touches" s_ordered_touches a_ordered_touches d_ordered_touches
  b_ordered_touches : Binds K d_ordered_touches ["many", "touches"] []
  m_ordered_touches : mg "ordered_touches" = some (.ref a_ordered_touches)
  F_touch_in : Fun K "touch_in" "touch_in" s_touch_in a_touch_in d_touch_in
  b_touch_in : Binds K d_touch_in ["word"] []
  m_touch_in : mg "touch_in" = some (.ref a_touch_in)
  F_map_in : Fun K "map_in" "map_in" s_map_in a_map_in d_map_in
  b_map_in : Binds K d_map_in ["text"] []
  m_map_in : mg "map_in" = some (.ref a_map_in)
  e0_map_init : Addr
  nt0_map_init : NilT K e0_map_init
  F_map_init : FunD K "__init__" "Map.__init__" (defArgs s_map_init) (defBody s_map_init) (defScope s_map_init) [V.ref e0_map_init] [] a_map_init d_map_init
  v1_map_init : List Value
  b1_map_init : Binds K d_map_init ["self", "many", "touches"] v1_map_init ∧ Vals [V.ref e0_map_init] v1_map_init
  b_map_init : Binds K d_map_init ["self", "many", "touches"] []
  mk_Map : Mk K C_Map a_map_init
  F_map_read : Fun K "read" "Map.read" s_map_read a_map_read d_map_read
  b_map_read : Binds K d_map_read ["cls", "text"] []
  p_map_read : Addr
  cm_map_read : ClX.CMet K C_Map (.type "type") "read" p_map_read a_map_read
  F_map_len : Fun K "__len__" "Map.__len__" s_map_len a_map_len d_map_len
  b_map_len : Binds K d_map_len ["self"] []
  mt_map_len : Meth K C_Map "__len__" a_map_len
  F_map_eq : Fun K "__eq__" "Map.__eq__" s_map_eq a_map_eq d_map_eq
  b_map_eq : Binds K d_map_eq ["self", "other"] []
  mt_map_eq : Meth K C_Map "__eq__" a_map_eq
  ne_Map : PySem.W.findIn K (.ref C_Map) "__ne__" = some (some (.builtin "object.__ne__")) ∧ PySem.W.mroIn K C_Map (.type "object") = some true
  eq_Map : PySem.W.findIn K (.ref C_Map) "__eq__" = some (some (.ref a_map_eq)) ∧ PySem.W.isFn K (.ref a_map_eq) = true
  F_map_str : Fun K "__str__" "Map.__str__" s_map_str a_map_str d_map_str
  b_map_str : Binds K d_map_str ["self"] []
  mt_map_str : Meth K C_Map "__str__" a_map_str
  F_Ldeal : Fun K "_law_deal" "_law_deal" s_Ldeal a_Ldeal d_Ldeal
  b_Ldeal : Binds K d_Ldeal ["_law_script"] []
  m_Ldeal : mg "_law_deal" = some (.ref a_Ldeal)
  F_Ldraw : Fun K "_law_draw" "_law_draw" s_Ldraw a_Ldraw d_Ldraw
  b_Ldraw : Binds K d_Ldraw ["_law_deal_here", "_law_many"] []
  m_Ldraw : mg "_law_draw" = some (.ref a_Ldraw)
  F_Lpick : Fun K "_law_pick" "_law_pick" s_Lpick a_Lpick d_Lpick
  b_Lpick : Binds K d_Lpick ["_law_deal_here", "_law_some"] []
  m_Lpick : mg "_law_pick" = some (.ref a_Lpick)
  F_Lchart : Fun K "_law_chart" "_law_chart" s_Lchart a_Lchart d_Lchart
  b_Lchart : Binds K d_Lchart ["_law_deal_here", "_law_most"] []
  m_Lchart : mg "_law_chart" = some (.ref a_Lchart)
  F_LmapW : Fun K "_law_map_of" "_law_map_of" s_LmapW a_LmapW d_LmapW
  b_LmapW : Binds K d_LmapW ["_law_chart_here"] []
  m_LmapW : mg "_law_map_of" = some (.ref a_LmapW)
  F_Lchart_of : Fun K "_law_chart_of" "_law_chart_of" s_Lchart_of a_Lchart_of d_Lchart_of
  b_Lchart_of : Binds K d_Lchart_of ["_law_made"] []
  m_Lchart_of : mg "_law_chart_of" = some (.ref a_Lchart_of)
  b_abs : mg "abs" = none
  b_all : mg "all" = none
  b_bool : mg "bool" = none
  b_enumerate : mg "enumerate" = none
  b_int : mg "int" = none
  b_isinstance : mg "isinstance" = none
  b_len : mg "len" = none
  b_list : mg "list" = none
  b_range : mg "range" = none
  b_repr : mg "repr" = none
  b_sorted : mg "sorted" = none
  b_str : mg "str" = none
  b_tuple : mg "tuple" = none
  gk_DIGITS : Tok
  g_DIGITS : mg "DIGITS" = some (.str "0123456789" gk_DIGITS)
  gk_MOST_FIGURES : Tok
  g_MOST_FIGURES : mg "MOST_FIGURES" = some (.int 9 gk_MOST_FIGURES)
section
variable {P : Program} {w : World} {K : PySem.W.Frag} {mg : Str → Option Value} {base : Heap}
abbrev TXR.g (T : TXR P K mg) : GX := { K := K, Map := T.C_Map, own := T.own_Map, PourError := T.C_PourError, InvalidName := 0, InvalidMap := T.C_InvalidMap, InvalidArea := 0, InvalidTest := 0, InvalidProgram := 0, InvalidText := T.C_InvalidText, Refused := 0, InvalidCommand := 0, NoCell := T.C_NoCell, NoArea := 0 }
theorem xt_InvalidMap (T : TXR P K mg) : ExTxt P w K mg base "InvalidMap" T.C_InvalidMap T.f_InvalidMap "word" := ⟨⟨_, _, _, _, T.exc_InvalidMap⟩, T.ini_InvalidMap, T.ty_InvalidMap, ⟨T.fd_InvalidMap, _, exc_init1 T.exc_InvalidMap T.su_InvalidMap T.fs_InvalidMap sc_InvalidMap rfl rfl T.ms_InvalidMap T.tk_InvalidMap, T.bi_InvalidMap⟩, T.m_InvalidMap⟩
theorem xt_InvalidText (T : TXR P K mg) : ExTxt P w K mg base "InvalidText" T.C_InvalidText T.f_InvalidText "at" := ⟨⟨_, _, _, _, T.exc_InvalidText⟩, T.ini_InvalidText, T.ty_InvalidText, ⟨T.fd_InvalidText, _, exc_init1 T.exc_InvalidText T.su_InvalidText T.fs_InvalidText sc_InvalidText rfl rfl T.ms_InvalidText T.tk_InvalidText, T.bi_InvalidText⟩, T.m_InvalidText⟩
theorem xt_NoCell (T : TXR P K mg) : ExTxt P w K mg base "NoCell" T.C_NoCell T.f_NoCell "cell" := ⟨⟨_, _, _, _, T.exc_NoCell⟩, T.ini_NoCell, T.ty_NoCell, ⟨T.fd_NoCell, _, exc_init1 T.exc_NoCell T.su_NoCell T.fs_NoCell sc_NoCell rfl rfl T.ms_NoCell T.tk_NoCell, T.bi_NoCell⟩, T.m_NoCell⟩
set_option maxHeartbeats 0 in
theorem ok_is_integer (T : TXR P K mg) : FnOk P w K mg base CX0 1 T.a_is_integer T.d_is_integer ["value"] (lift K (sp_is_integer T.g)) :=
  dfn T.F_is_integer sc_is_integer len_is_integer (fun cdv A outer s H E hr => ⟨_,
  (fss_one (fs_ret (f_and (f_isi T.b_isinstance (fv 0) (f_ty (n := "int") T.b_int)) (f_one (f_not (f_isi T.b_isinstance (fv 0) (f_ty (n := "bool") T.b_bool)))))))⟩) (hw_is_integer T.g)
set_option maxHeartbeats 0 in
theorem ok_is_sequence (T : TXR P K mg) : FnOk P w K mg base CX0 1 T.a_is_sequence T.d_is_sequence ["value"] (lift K (sp_is_sequence T.g)) :=
  dfn T.F_is_sequence sc_is_sequence len_is_sequence (fun cdv A outer s H E hr => ⟨_,
  (fss_one (fs_ret (f_isiT T.b_isinstance (fv 0) (fa_cons (f_ty (n := "list") T.b_list) (fa_cons (f_ty (n := "tuple") T.b_tuple) fa_nil)))))⟩) (hw_is_sequence T.g)
set_option maxHeartbeats 0 in
theorem ok_number_of (T : TXR P K mg) : FnOk P w K mg base CX0 1 T.a_number_of T.d_number_of ["word", "most"] (lift K (sp_number_of T.g)) :=
  dfn T.F_number_of sc_number_of len_number_of (fun cdv A outer s H E hr => ⟨_,
  (fss_cons (fs_if (FW.ft (fw_or (ft_eqS (fv 0) (f_str)) (fw_or (ft_gt (f_len T.b_len (fv 0)) (fv 1)) (fw_or1 (ft_not (ft_val (f_all rfl T.b_all (f_fz (f_lc (own := [("sign", 2)]) rfl sc_number_of.nd (show blkC ["word", "most", "sign"] (defScope s_number_of) _ [("sign", 2)] = true by decide +kernel) (fi_str (fv 0)) (fun _ _ _ _ _ => by exact (fg_name (i := 2) sc_number_of.nd)) (fun _ _ _ _ _ => by exact fts_nil) (fun _ _ _ _ _ => by exact (f_inS (fv 2) (f_globS T.g_DIGITS)))))))))))) (fss_one (fs_ret (f_non))) fss_nil)
  (fss_one (fs_ret (f_if (FW.ft (fw_and (ft_neS (fv 0) (f_str)) (fw_and1 (ft_eqS (f_ix (fv 0) (f_int)) (f_str))))) (f_non) (f_intS T.b_int (fv 0))))))⟩) (hw_number_of T.g)
set_option maxHeartbeats 0 in
theorem ok_ordered_pair (T : TXR P K mg) : FnOk P w K mg base CX0 1 T.a_ordered_pair T.d_ordered_pair ["one", "other"] (lift K (sp_ordered_pair T.g)) :=
  dfn T.F_ordered_pair sc_ordered_pair len_ordered_pair (fun cdv A outer s H E hr => ⟨_,
  (fss_one (fs_ret (f_if (ft_lt (fv 0) (fv 1)) (f_tup (fa_cons (fv 0) (fa_cons (fv 1) fa_nil))) (f_tup (fa_cons (fv 1) (fa_cons (fv 0) fa_nil))))))⟩) (hw_ordered_pair T.g)
set_option maxHeartbeats 0 in
theorem ok_is_touch (T : TXR P K mg) : FnOk P w K mg base CX0 2 T.a_is_touch T.d_is_touch ["many", "pair"] (lift K (sp_is_touch T.g)) :=
  dfn T.F_is_touch sc_is_touch len_is_touch (fun cdv A outer s H E hr => ⟨_,
  (fss_cons (fs_if (FW.ft (fw_or (ft_not (ft_val (f_call (idx := []) (ok_is_sequence T) (hr.mono (by decide)) T.m_is_sequence T.F_is_sequence.kp T.b_is_sequence .nil (fun _ => .nil) (fa_cons (fv 1) fa_nil)))) (fw_or1 (ft_ne (hu64 hr) (f_len T.b_len (fv 1)) (f_int))))) (fss_one (fs_ret (f_bl))) fss_nil)
  (fss_one (fs_ret (f_and (f_all rfl T.b_all (f_fz (f_lc (own := [("cell", 2)]) rfl sc_is_touch.nd (show blkC ["many", "pair", "cell"] (defScope s_is_touch) _ [("cell", 2)] = true by decide +kernel) (fi_seq (fv 1)) (fun _ _ _ _ _ => by exact (fg_name (i := 2) sc_is_touch.nd)) (fun _ _ _ _ _ => by exact fts_nil) (fun _ _ _ _ _ => by exact (f_and (f_call (idx := []) (ok_is_integer T) (hr.mono (by decide)) T.m_is_integer T.F_is_integer.kp T.b_is_integer .nil (fun _ => .nil) (fa_cons (fv 2) fa_nil)) (f_one (f_chain op_le op_lt rrB0 rrB0 (f_int) (fv 2) (fv 0)))))))) (f_one (f_ne (hu64 hr) (f_ix (fv 1) (f_int)) (f_ix (fv 1) (f_int))))))))⟩) (hw_is_touch T.g)
set_option maxHeartbeats 0 in
theorem ok_ordered_touches (T : TXR P K mg) : FnOk P w K mg base CX0 3 T.a_ordered_touches T.d_ordered_touches ["many", "touches"] (lift K (sp_ordered_touches T.g)) :=
  dfn T.F_ordered_touches sc_ordered_touches len_ordered_touches (fun cdv A outer s H E hr => ⟨_,
  (fss_cons (fs_if (ft_not (ft_val (f_call (idx := []) (ok_is_sequence T) (hr.mono (by decide)) T.m_is_sequence T.F_is_sequence.kp T.b_is_sequence .nil (fun _ => .nil) (fa_cons (fv 1) fa_nil)))) (fss_one fs_never) fss_nil)
  (fss_cons (fs_set (i := 2) sc_ordered_touches.nd (f_dnew))
  (fss_cons (fs_for PassesOwn.never rfl (fi_seq (fv 1)) (fg_name (i := 3) sc_ordered_touches.nd)
  (fss_cons (fs_if (ft_not (ft_val (f_call (idx := []) (ok_is_touch T) (hr.mono (by decide)) T.m_is_touch T.F_is_touch.kp T.b_is_touch .nil (fun _ => .nil) (fa_cons (fv 0) (fa_cons (fv 3) fa_nil))))) (fss_one fs_never) fss_nil)
  (fss_cons (fs_asg (f_call (idx := []) (ok_ordered_pair T) (hr.mono (by decide)) T.m_ordered_pair T.F_ordered_pair.kp T.b_ordered_pair .nil (fun _ => .nil) (fa_cons (f_ix (fv 3) (f_int)) (fa_cons (f_ix (fv 3) (f_int)) fa_nil))) (fg_tup rfl (fgs_cons (fg_name (i := 4) sc_ordered_touches.nd) (fgs_cons (fg_name (i := 5) sc_ordered_touches.nd) fgs_nil))))
  (fss_one (fs_dput (hu1 hr) (fv 2) (f_intc T.b_int (f_add (f_mul (fv 4) (fv 0)) (fv 5))) (f_bl))))))
  (fss_freezeD (i := 2) (fss_forget (n := 0) (fss_one (fs_ret (f_tuplec T.b_tuple (f_fz (f_lc (own := [("place", 6)]) rfl sc_ordered_touches.nd (show blkC ["many", "touches", "found", "pair", "one", "other", "place"] (defScope s_ordered_touches) _ [("place", 6)] = true by decide +kernel) (fi_seq (f_fz (f_sortedI T.b_sorted (f_fz (f_lc (own := [("place", 6)]) rfl sc_ordered_touches.nd (show blkC ["many", "touches", "found", "pair", "one", "other", "place"] (defScope s_ordered_touches) _ [("place", 6)] = true by decide +kernel) (fi_keys (fv 2)) (fun _ _ _ _ _ => by exact (fg_name (i := 6) sc_ordered_touches.nd)) (fun _ _ _ _ _ => by exact fts_nil) (fun _ _ _ _ _ => by exact (f_intc T.b_int (fv 6)))))))) (fun _ _ _ _ _ => by exact (fg_name (i := 6) sc_ordered_touches.nd)) (fun _ _ _ _ _ => by exact fts_nil) (fun _ _ _ _ _ => by exact (f_tup (fa_cons (f_fdiv (fv 6) (fv 0)) (fa_cons (f_mod (f_intc T.b_int (fv 6)) (fv 0)) fa_nil))))))))))))))⟩) (hw_ordered_touches T.g)
set_option maxHeartbeats 0 in
theorem ok_touch_in (T : TXR P K mg) : FnOk P w K mg base CX0 2 T.a_touch_in T.d_touch_in ["word"] (lift K (sp_touch_in T.g)) :=
  dfn T.F_touch_in sc_touch_in len_touch_in (fun cdv A outer s H E hr => ⟨_,
  (fss_cons (fs_asg (f_partition (fv 0) (f_str)) (fg_tup rfl (fgs_cons (fg_name (i := 1) sc_touch_in.nd) (fgs_cons (fg_name (i := 2) sc_touch_in.nd) (fgs_cons (fg_name (i := 3) sc_touch_in.nd) fgs_nil)))))
  (fss_cons (fs_set (i := 4) sc_touch_in.nd (f_tup (fa_cons (f_call (idx := []) (ok_number_of T) (hr.mono (by decide)) T.m_number_of T.F_number_of.kp T.b_number_of .nil (fun _ => .nil) (fa_cons (fv 1) (fa_cons (f_globI T.g_MOST_FIGURES) fa_nil))) (fa_cons (f_call (idx := []) (ok_number_of T) (hr.mono (by decide)) T.m_number_of T.F_number_of.kp T.b_number_of .nil (fun _ => .nil) (fa_cons (fv 3) (fa_cons (f_globI T.g_MOST_FIGURES) fa_nil))) fa_nil))))
  (fss_one (fs_ret (f_if (FW.ft (fw_or (ft_eqS (fv 2) (f_str)) (fw_or (ft_in (f_non) (fv 4)) (fw_or1 (ft_ge (f_ix (fv 4) (f_int)) (f_ix (fv 4) (f_int))))))) (f_non) (fv 4))))))⟩) (hw_touch_in T.g)
set_option maxHeartbeats 0 in
theorem ok_map_in (T : TXR P K mg) : FnOk P w K mg base (L2.CX P w) 3 T.a_map_in T.d_map_in ["text"] (lift K (sp_map_in T.g)) :=
  dfnX T.F_map_in sc_map_in len_map_in (fun cdv A outer s H E hr => ⟨_,
  (fss_cons (fs_asg (f_fz (f_split (fv 0) (f_str))) (fg_star1 rfl (fgs_cons (fg_name (i := 1) sc_map_in.nd) (fgs_star (fgs_cons (fg_name (i := 2) sc_map_in.nd) fgs_nil)))))
  (fss_freeze (i := 2) (fss_forget (n := 0) (fss_cons (fs_set (i := 3) sc_map_in.nd (f_call (idx := []) (ok_number_of T) (hr.mono (by decide)) T.m_number_of T.F_number_of.kp T.b_number_of .nil (fun _ => .nil) (fa_cons (f_slS (fv 1) fo_none (fo_some (f_neg (f_int)))) (fa_cons (f_globI T.g_MOST_FIGURES) fa_nil))))
  (fss_cons (fs_if (FW.ft (fw_or (ft_neS (f_slS (fv 1) (fo_some (f_neg (f_int))) fo_none) (f_str)) (fw_or (ft_isN (fv 3)) (fw_or1 (ft_lt (fv 3) (f_int)))))) (fss_one (fs_raise rfl (xt_InvalidText T) (hr.mono (by decide)) (f_int))) fss_nil)
  (fss_cons (fs_set (i := 4) sc_map_in.nd (f_lst (fa_cons (f_tup (fa_cons (f_neg (f_int)) (fa_cons (f_neg (f_int)) fa_nil))) fa_nil)))
  (fss_cons (fs_for PassI.ok rfl (fi_enumA T.b_enumerate (fv 2)) (fg_tup rfl (fgs_cons (fg_name (i := 5) sc_map_in.nd) (fgs_cons (fg_name (i := 6) sc_map_in.nd) fgs_nil)))
  (fss_cons (fs_set (i := 7) sc_map_in.nd (f_call (idx := []) (ok_touch_in T) (hr.mono (by decide)) T.m_touch_in T.F_touch_in.kp T.b_touch_in .nil (fun _ => .nil) (fa_cons (fv 6) fa_nil)))
  (fss_cons (fs_if (FW.ft (fw_or (ft_isN (fv 7)) (fw_or (ft_leT (Nat.lt_of_succ_lt (hu1 hr)) (fv 7) (f_ix (fv 4) (f_neg (f_int)))) (fw_or1 (ft_ge (f_ix (fv 7) (f_int)) (fv 3)))))) (fss_one (fs_raise rfl (xt_InvalidText T) (hr.mono (by decide)) (f_add (fv 5) (f_int)))) fss_nil)
  (fss_one (fs_expr (f_append (fv 4) (fv 7)))))))
  (fss_freeze (i := 4) (fss_forget (n := 0) (fss_one (fs_ret (f_tup (fa_cons (fv 3) (fa_cons (f_fz (f_slL (fv 4) (fo_some (f_int)) fo_none)) fa_nil))))))))))))))⟩) (hw_map_in T.g)
set_option maxHeartbeats 0 in
theorem ok_map_init (T : TXR P K mg) : FnOk P w K mg base CX0 4 T.a_map_init T.d_map_init ["self", "many", "touches"] (lift K (sp_map_init T.g)) :=
  dfnD T.F_map_init sc_map_init len_map_init (fun cdv A outer s H E hr => ⟨_,
  (fss_cons (fs_if (FW.ft (fw_or (ft_not (ft_val (f_call (idx := []) (ok_is_integer T) (hr.mono (by decide)) T.m_is_integer T.F_is_integer.kp T.b_is_integer .nil (fun _ => .nil) (fa_cons (fv 1) fa_nil)))) (fw_or1 (ft_lt (fv 1) (f_int))))) (fss_one fs_never) fss_nil)
  (fss_cons (fs_fld T.cl_Map T.na_Map_many (fv 0) (fv 1))
  (fss_one (fs_fld T.cl_Map T.na_Map_touches (fv 0) (f_call (idx := []) (ok_ordered_touches T) (hr.mono (by decide)) T.m_ordered_touches T.F_ordered_touches.kp T.b_ordered_touches .nil (fun _ => .nil) (fa_cons (fv 1) (fa_cons (fv 2) fa_nil)))))))⟩) (hw_map_init T.g)
set_option maxHeartbeats 0 in
theorem ok_map_read (T : TXR P K mg) : FnOk P w K mg base (L2.CX P w) 6 T.a_map_read T.d_map_read ["cls", "text"] (lift K (sp_map_read T.g)) :=
  dfnX T.F_map_read sc_map_read len_map_read (fun cdv A outer s H E hr => ⟨_,
  (fss_cons (fs_asg (f_callX (idx := []) (ok_map_in T) (hr.mono (by decide)) T.m_map_in T.F_map_in.kp T.b_map_in .nil (fun _ => .nil) (fa_cons (fv 1) fa_nil)) (fg_tup rfl (fgs_cons (fg_name (i := 2) sc_map_read.nd) (fgs_cons (fg_name (i := 3) sc_map_read.nd) fgs_nil))))
  (fss_one (fs_ret (f_makeL (i := 0) T.mk_Map (up_X (ok_map_init T)) (hr.mono (by decide)) T.b_map_init .nil (fun _ => .nil) (fa_cons (fv 2) (fa_cons (fv 3) fa_nil))))))⟩) (hw_map_read T.g)
set_option maxHeartbeats 0 in
theorem ok_map_len (T : TXR P K mg) : FnOk P w K mg base CX0 1 T.a_map_len T.d_map_len ["self"] (lift K (sp_map_len T.g)) :=
  dfn T.F_map_len sc_map_len len_map_len (fun cdv A outer s H E hr => ⟨_,
  (fss_one (fs_ret (f_len T.b_len (f_fz (f_lstRg1 rfl T.b_list T.b_range (f_fld T.cl_Map T.na_Map_many (fv 0)))))))⟩) (hw_map_len T.g)
set_option maxHeartbeats 0 in
theorem ok_map_eq (T : TXR P K mg) : FnOk P w K mg base CX0 1 T.a_map_eq T.d_map_eq ["self", "other"] (lift K (sp_map_eq T.g)) :=
  dfn T.F_map_eq sc_map_eq len_map_eq (fun cdv A outer s H E hr => ⟨_,
  (fss_one (fs_ret (f_and (f_isi T.b_isinstance (fv 1) (f_cls T.m_Map)) (f_and (f_eq (hu64 hr) (f_fld T.cl_Map T.na_Map_many (fv 0)) (f_fld T.cl_Map T.na_Map_many (fv 1))) (f_one (f_eq (hu64 hr) (f_fld T.cl_Map T.na_Map_touches (fv 0)) (f_fld T.cl_Map T.na_Map_touches (fv 1))))))))⟩) (hw_map_eq T.g)
set_option maxHeartbeats 0 in
theorem ok_map_str (T : TXR P K mg) : FnOk P w K mg base CX0 1 T.a_map_str T.d_map_str ["self"] (lift K (sp_map_str T.g)) :=
  dfn T.F_map_str sc_map_str len_map_str (fun cdv A outer s H E hr => ⟨_,
  (fss_one (fs_ret (f_join (f_str) (f_fz (f_lst (fa_cons (f_joined (.cons (f_fmt (f_fld T.cl_Map T.na_Map_many (fv 0))) (.cons (f_str) .nil))) (fa_star (f_fz (f_lc (own := [("one", 1), ("other", 2)]) rfl sc_map_str.nd (show blkC ["self", "one", "other"] (defScope s_map_str) _ [("one", 1), ("other", 2)] = true by decide +kernel) (fi_seq (f_fld T.cl_Map T.na_Map_touches (fv 0))) (fun _ _ _ _ _ => by exact (fg_tup rfl (fgs_cons (fg_name (i := 1) sc_map_str.nd) (fgs_cons (fg_name (i := 2) sc_map_str.nd) fgs_nil)))) (fun _ _ _ _ _ => by exact fts_nil) (fun _ _ _ _ _ => by exact (f_joined (.cons (f_fmt (fv 1)) (.cons (f_str) (.cons (f_fmt (fv 2)) .nil))))))) fa_nil)))))))⟩) (hw_map_str T.g)
set_option maxHeartbeats 0 in
theorem ok_Ldeal (T : TXR P K mg) : FnOk P w K mg base CX0 2 T.a_Ldeal T.d_Ldeal ["_law_script"] (lift K (sp_Ldeal T.g)) :=
  dfn T.F_Ldeal sc_Ldeal len_Ldeal (fun cdv A outer s H E hr => ⟨_,
  (fss_cons (fs_par (i := 1) (j := 2) rfl sc_Ldeal.nd (fa_cons (f_fz (f_lc (own := [("_law_cell", 3)]) rfl sc_Ldeal.nd (show blkC ["_law_script", "_law_cells", "_law_mixed", "_law_cell"] (defScope s_Ldeal) _ [("_law_cell", 3)] = true by decide +kernel) (fi_seq (f_fz (f_slL (fv 0) fo_none (fo_some (f_int))))) (fun _ _ _ _ _ => by exact (fg_name (i := 3) sc_Ldeal.nd)) (fun _ _ _ _ _ => by exact fts_nil) (fun _ _ _ _ _ => by exact (f_abs T.b_abs (fv 3))))) (fa_cons (f_int) fa_nil)))
  (fss_cons (fs_for PassesOwn.never rfl (fi_seq (fv 1)) (fg_name (i := 3) sc_Ldeal.nd)
  (fss_one (fs_set (i := 2) sc_Ldeal.nd (f_mod (f_intc T.b_int (f_add (f_mul (fv 2) (f_int)) (f_mod (f_intc T.b_int (fv 3)) (f_int)))) (f_int)))))
  (fss_one (fs_ret (f_lst (fa_cons (f_revL (f_fz (f_lc (own := [("_law_cell", 3)]) rfl sc_Ldeal.nd (show blkC ["_law_script", "_law_cells", "_law_mixed", "_law_cell"] (defScope s_Ldeal) _ [("_law_cell", 3)] = true by decide +kernel) (fi_seq (fv 1)) (fun _ _ _ _ _ => by exact (fg_name (i := 3) sc_Ldeal.nd)) (fun _ _ _ _ _ => by exact (fts_one (ft_ge (fv 3) (f_pow (f_int) (f_int))))) (fun _ _ _ _ _ => by exact (fv 3))))) (fa_cons (fv 2) fa_nil)))))))⟩) (hw_Ldeal T.g)
set_option maxHeartbeats 0 in
theorem ok_Ldraw (T : TXR P K mg) : FnOk P w K mg base CX0 2 T.a_Ldraw T.d_Ldraw ["_law_deal_here", "_law_many"] (lift K (sp_Ldraw T.g)) :=
  dfn T.F_Ldraw sc_Ldraw len_Ldraw (fun cdv A outer s H E hr => ⟨_,
  (fss_cons (fs_while PassesOwn.never (FW.ft (fw_and (ft_ne (hu64 hr) (f_ix (fv 0) (f_int)) (f_fz (f_lst fa_nil))) (fw_and1 (ft_eq (hu64 hr) (f_ix (f_ix (fv 0) (f_int)) (f_neg (f_int))) (f_int)))))
  (fss_one (fs_expr (f_pop (f_ix (fv 0) (f_int))))))
  (fss_cons (fs_if (ft_ne (hu64 hr) (f_ix (fv 0) (f_int)) (f_fz (f_lst fa_nil))) (fss_cons (fs_set (i := 2) sc_Ldraw.nd (f_pop (f_ix (fv 0) (f_int))))
  (fss_cons (fs_expr (f_append (f_ix (fv 0) (f_int)) (f_fdiv (fv 2) (fv 1))))
  (fss_one (fs_ret (f_mod (f_intc T.b_int (fv 2)) (fv 1)))))) fss_nil)
  (fss_cons (fs_sub (f_mod (f_intc T.b_int (f_add (f_mul (f_ix (fv 0) (f_int)) (f_int)) (f_int))) (f_int)) (fv 0) (f_int) set_list rset_l)
  (fss_one (fs_ret (f_mod (f_intc T.b_int (f_fdiv (f_ix (fv 0) (f_int)) (f_int))) (fv 1)))))))⟩) (hw_Ldraw T.g)
set_option maxHeartbeats 0 in
theorem ok_Lpick (T : TXR P K mg) : FnOk P w K mg base CX0 3 T.a_Lpick T.d_Lpick ["_law_deal_here", "_law_some"] (lift K (sp_Lpick T.g)) :=
  dfn T.F_Lpick sc_Lpick len_Lpick (fun cdv A outer s H E hr => ⟨_,
  (fss_one (fs_ret (f_ix (fv 1) (f_call (idx := [0, 1]) (ok_Ldraw T) (hr.mono (by decide)) T.m_Ldraw T.F_Ldraw.kp T.b_Ldraw .nil (fun _ => .nil) (fa_cons (fv 0) (fa_cons (f_len T.b_len (fv 1)) fa_nil))))))⟩) (hw_Lpick T.g)
set_option maxHeartbeats 0 in
theorem ok_Lchart (T : TXR P K mg) : FnOk P w K mg base CX0 3 T.a_Lchart T.d_Lchart ["_law_deal_here", "_law_most"] (lift K (sp_Lchart T.g)) :=
  dfn T.F_Lchart sc_Lchart len_Lchart (fun cdv A outer s H E hr => ⟨_,
  (fss_cons (fs_asgT rfl (fa_cons (f_add (f_int) (f_call (idx := [0, 1]) (ok_Ldraw T) (hr.mono (by decide)) T.m_Ldraw T.F_Ldraw.kp T.b_Ldraw .nil (fun _ => .nil) (fa_cons (fv 0) (fa_cons (fv 1) fa_nil)))) (fa_cons (f_add (f_int) (f_call (idx := [0, 1]) (ok_Ldraw T) (hr.mono (by decide)) T.m_Ldraw T.F_Ldraw.kp T.b_Ldraw .nil (fun _ => .nil) (fa_cons (fv 0) (fa_cons (f_int) fa_nil)))) (fa_cons (f_lst fa_nil) fa_nil))) (fgs_cons (fg_name (i := 2) sc_Lchart.nd) (fgs_cons (fg_name (i := 3) sc_Lchart.nd) (fgs_cons (fg_name (i := 4) sc_Lchart.nd) fgs_nil))))
  (fss_cons (fs_for PassesOwn.never rfl (fi_range1 T.b_range (fv 2)) (fg_name (i := 5) sc_Lchart.nd)
  (fss_one (fs_expr (f_extend (fv 4) (f_fz (f_lc (own := [("_law_other", 6)]) rfl sc_Lchart.nd (show blkC ["_law_deal_here", "_law_most", "_law_many", "_law_thick", "_law_pairs", "_law_one", "_law_other"] (defScope s_Lchart) _ [("_law_other", 6)] = true by decide +kernel) (fi_range2 T.b_range (f_add (fv 5) (f_int)) (fv 2)) (fun _ _ _ _ _ => by exact (fg_name (i := 6) sc_Lchart.nd)) (fun _ _ _ _ _ => by exact (fts_one (ft_lt (f_call (idx := [0, 1]) (ok_Ldraw T) (hr.mono (by decide)) T.m_Ldraw T.F_Ldraw.kp T.b_Ldraw .nil (fun _ => .nil) (fa_cons (fv 0) (fa_cons (f_int) fa_nil))) (fv 3)))) (fun _ _ _ _ _ => by exact (f_tup (fa_cons (fv 5) (fa_cons (fv 6) fa_nil))))))))))
  (fss_freeze (i := 4) (fss_forget (n := 2) (fss_one (fs_ret (f_tup (fa_cons (fv 2) (fa_cons (fv 4) fa_nil)))))))))⟩) (hw_Lchart T.g)
set_option maxHeartbeats 0 in
theorem ok_LmapW (T : TXR P K mg) : FnOk P w K mg base CX0 6 T.a_LmapW T.d_LmapW ["_law_chart_here"] (lift K (sp_LmapW T.g)) :=
  dfn T.F_LmapW sc_LmapW len_LmapW (fun cdv A outer s H E hr => ⟨_,
  (fss_one (fs_ret (f_make T.mk_Map (ok_map_init T) (hr.mono (by decide)) T.m_Map T.b_map_init .nil (fun _ => .nil) (fa_cons (f_ix (fv 0) (f_int)) (fa_cons (f_fz (f_listc T.b_list (f_ix (fv 0) (f_int)))) fa_nil)))))⟩) (hw_LmapW T.g)
set_option maxHeartbeats 0 in
theorem ok_Lchart_of (T : TXR P K mg) : FnOk P w K mg base CX0 1 T.a_Lchart_of T.d_Lchart_of ["_law_made"] (lift K (sp_Lchart_of T.g)) :=
  dfn T.F_Lchart_of sc_Lchart_of len_Lchart_of (fun cdv A outer s H E hr => ⟨_,
  (fss_one (fs_ret (f_tup (fa_cons (f_fld T.cl_Map T.na_Map_many (fv 0)) (fa_cons (f_fz (f_listc T.b_list (f_fld T.cl_Map T.na_Map_touches (fv 0)))) fa_nil)))))⟩) (hw_Lchart_of T.g)
set_option maxHeartbeats 0 in
theorem ok_law {fa : Addr} {fd : FuncData} (F : Fun K "law" "law" s_law fa fd) (T : TXR P K mg) : FnG P w K mg base CX0 7 fa fd ["_law_script"] (lift K spLaw) :=
  dfnG F sc_law len_law (fun cdv A outer s H E hgd hr => ⟨_,
  (fss_cons (fs_set (i := 1) sc_law.nd (f_call (idx := []) (ok_Ldeal T) (hr.mono (by decide)) T.m_Ldeal T.F_Ldeal.kp T.b_Ldeal .nil (fun _ => .nil) (fa_cons (fv 0) fa_nil)))
  (fss_cons (fs_for PassesOwn.never rfl (fi_range1 T.b_range (f_int)) (fg_name (i := 2) sc_law.nd)
  (fss_cons (fs_set (i := 3) sc_law.nd (f_call (idx := [0, 1]) (ok_Lchart T) (hr.mono (by decide)) T.m_Lchart T.F_Lchart.kp T.b_Lchart .nil (fun _ => .nil) (fa_cons (fv 1) (fa_cons (f_int) fa_nil))))
  (fss_cons (fs_set (i := 4) sc_law.nd (f_tup (fa_cons (f_call (idx := [0, 1]) (ok_Lpick T) (hr.mono (by decide)) T.m_Lpick T.F_Lpick.kp T.b_Lpick .nil (fun _ => .nil) (fa_cons (fv 1) (fa_cons (f_fz (f_lst (fa_cons (f_ix (fv 3) (f_int)) (fa_cons (f_ix (fv 3) (f_int)) (fa_cons (f_int) (fa_cons (f_int) fa_nil)))))) fa_nil))) (fa_cons (f_ix (fv 3) (f_int)) fa_nil))))
  (fss_cons (fs_set (i := 5) sc_law.nd (f_join (f_str) (f_fz (f_cat (f_fz (f_lst (fa_cons (f_addS (f_strI T.b_str (f_ix (fv 4) (f_int))) (f_str)) fa_nil))) (f_fz (f_lc (own := [("_law_one", 8), ("_law_other", 9)]) rfl sc_law.nd (show blkC ["_law_script", "_law_deal_here", "_law_turn", "_law_chart_here", "_law_wide", "_law_text", "_law_made", "_law_told", "_law_one", "_law_other"] (defScope s_law) _ [("_law_one", 8), ("_law_other", 9)] = true by decide +kernel) (fi_seq (f_ix (fv 3) (f_int))) (fun _ _ _ _ _ => by exact (fg_tup rfl (fgs_cons (fg_name (i := 8) sc_law.nd) (fgs_cons (fg_name (i := 9) sc_law.nd) fgs_nil)))) (fun _ _ _ _ _ => by exact fts_nil) (fun _ _ _ _ _ => by exact (f_addS (f_addS (f_strI T.b_str (fv 8)) (f_str)) (f_strI T.b_str (fv 9))))))))))
  (fss_cons (fs_par (i := 6) (j := 7) rfl sc_law.nd (fa_cons (f_fz (f_call (idx := []) (ok_LmapW T) (hr.mono (by decide)) T.m_LmapW T.F_LmapW.kp T.b_LmapW .nil (fun _ => .nil) (fa_cons (fv 4) fa_nil))) (fa_cons (f_fz (f_cmethX (idx := []) (f_cls T.m_Map) T.cr_Map T.cm_map_read (ok_map_read T) (hr.mono (by decide)) T.b_map_read .nil (fun _ => .nil) (fa_cons (fv 5) fa_nil))) fa_nil)))
  (fss_cons (fs_if (FW.ft (fw_or (ft_neS (f_strO T.mt_map_str.1 T.mt_map_str.2 (ok_map_str T) (hr.mono (by decide)) (huI2 hr) T.b_map_str T.b_str (fv 6)) (fv 5)) (fw_or (ft_not (ft_val (f_isi T.b_isinstance (fv 7) (f_cls T.m_Map)))) (fw_or1 (ft_neS (f_strO T.mt_map_str.1 T.mt_map_str.2 (ok_map_str T) (hr.mono (by decide)) (huI2 hr) T.b_map_str T.b_str (fv 7)) (fv 5)))))) (fss_one (fs_ret (f_bl))) fss_nil)
  (fss_cons (fs_if (FW.ft (fw_and (ft_lt (f_ix (fv 4) (f_int)) (f_int)) (fw_and1 (ft_neO T.ne_Map T.eq_Map.1 T.eq_Map.2 (ok_map_eq T) (hr.mono (by decide)) T.b_map_eq (fv 7) (fv 6))))) (fss_one (fs_ret (f_bl))) fss_nil)
  (fss_one (fs_if (FW.ft (fw_or (ft_ne (hu64 hr) (f_call (idx := []) (ok_Lchart_of T) (hr.mono (by decide)) T.m_Lchart_of T.F_Lchart_of.kp T.b_Lchart_of .nil (fun _ => .nil) (fa_cons (fv 7) fa_nil)) (fv 4)) (fw_or (ft_neS (f_repr hgd (hu66 hr) T.b_repr (f_fld T.cl_Map T.na_Map_many (fv 7))) (f_repr hgd (hu66 hr) T.b_repr (f_ix (fv 4) (f_int)))) (fw_or1 (ft_ne (hu64 hr) (f_lenO T.mt_map_len.1 T.mt_map_len.2 (ok_map_len T) (hr.mono (by decide)) T.b_map_len T.b_len (fv 7)) (f_ix (fv 4) (f_int))))))) (fss_one (fs_ret (f_bl))) fss_nil)))))))))
  (fss_forget (n := 0) (fss_one (fs_ret (f_and (f_eqS (f_strO T.mt_map_str.1 T.mt_map_str.2 (ok_map_str T) (hr.mono (by decide)) (huI2 hr) T.b_map_str T.b_str (f_fz (f_make T.mk_Map (ok_map_init T) (hr.mono (by decide)) T.m_Map T.b1_map_init.1 T.b1_map_init.2 (fun _ => (.cons (dx_nilT T.nt0_map_init) .nil)) (fa_cons (f_int) fa_nil)))) (f_str)) (f_and (f_eqO T.eq_Map.1 T.eq_Map.2 (ok_map_eq T) (hr.mono (by decide)) T.b_map_eq (f_fz (f_cmethX (idx := []) (f_cls T.m_Map) T.cr_Map T.cm_map_read (ok_map_read T) (hr.mono (by decide)) T.b_map_read .nil (fun _ => .nil) (fa_cons (f_str) fa_nil))) (f_fz (f_make T.mk_Map (ok_map_init T) (hr.mono (by decide)) T.m_Map T.b1_map_init.1 T.b1_map_init.2 (fun _ => (.cons (dx_nilT T.nt0_map_init) .nil)) (fa_cons (f_int) fa_nil)))) (f_one (f_eqS (f_strO T.mt_map_str.1 T.mt_map_str.2 (ok_map_str T) (hr.mono (by decide)) (huI2 hr) T.b_map_str T.b_str (f_fz (f_make T.mk_Map (ok_map_init T) (hr.mono (by decide)) T.m_Map T.b_map_init .nil (fun _ => .nil) (fa_cons (f_int) (fa_cons (f_fz (f_lst (fa_cons (f_fz (f_lst (fa_cons (f_int) (fa_cons (f_int) fa_nil)))) fa_nil))) fa_nil))))) (f_str))))))))))⟩) (hw_law T.g)
end
theorem all_mk {l : PySem.W.OpenLaw} {w : World} {K : PySem.W.Frag} {h : Heap} {mg : Str → Option Value} {fa C_Map C_PourError C_InvalidMap C_InvalidText C_NoCell f_InvalidMap cc_InvalidMap cda_InvalidMap f_InvalidText cc_InvalidText cda_InvalidText f_NoCell cc_NoCell cda_NoCell a_is_integer a_is_sequence a_number_of a_ordered_pair a_is_touch a_ordered_touches a_touch_in a_map_in a_map_init T_map_init e0_map_init a_map_read p_map_read a_map_len a_map_eq a_map_str a_Ldeal a_Ldraw a_Lpick a_Lchart a_LmapW a_Lchart_of a_law : Addr} (X : K.In h) (G : h.Ns mainGlobals mg) (hfa : mg "law" = some (.ref fa))
    {oc_InvalidMap kV_InvalidMap doc_InvalidMap pm_InvalidMap ct_InvalidMap k1_InvalidMap c1_InvalidMap oc_InvalidText kV_InvalidText doc_InvalidText pm_InvalidText ct_InvalidText k1_InvalidText c1_InvalidText oc_NoCell kV_NoCell doc_NoCell pm_NoCell ct_NoCell k1_NoCell c1_NoCell oc_is_integer kV_is_integer dc_is_integer pm_is_integer cd_is_integer ct_is_integer oc_is_sequence kV_is_sequence dc_is_sequence pm_is_sequence cd_is_sequence ct_is_sequence oc_number_of kV_number_of dc_number_of pm_number_of cd_number_of ct_number_of oc_ordered_pair kV_ordered_pair dc_ordered_pair pm_ordered_pair cd_ordered_pair ct_ordered_pair oc_is_touch kV_is_touch dc_is_touch pm_is_touch cd_is_touch ct_is_touch oc_ordered_touches kV_ordered_touches dc_ordered_touches pm_ordered_touches cd_ordered_touches ct_ordered_touches oc_touch_in kV_touch_in dc_touch_in pm_touch_in cd_touch_in ct_touch_in oc_map_in kV_map_in dc_map_in pm_map_in cd_map_in ct_map_in oc_map_init kV_map_init dc_map_init pm_map_init cd_map_init ct_map_init oc_map_read kV_map_read dc_map_read pm_map_read cd_map_read ct_map_read oc_map_len kV_map_len dc_map_len pm_map_len cd_map_len ct_map_len oc_map_eq kV_map_eq dc_map_eq pm_map_eq cd_map_eq ct_map_eq oc_map_str kV_map_str dc_map_str pm_map_str cd_map_str ct_map_str oc_Ldeal kV_Ldeal dc_Ldeal pm_Ldeal cd_Ldeal ct_Ldeal oc_Ldraw kV_Ldraw dc_Ldraw pm_Ldraw cd_Ldraw ct_Ldraw oc_Lpick kV_Lpick dc_Lpick pm_Lpick cd_Lpick ct_Lpick oc_Lchart kV_Lchart dc_Lchart pm_Lchart cd_Lchart ct_Lchart oc_LmapW kV_LmapW dc_LmapW pm_LmapW cd_LmapW ct_LmapW oc_Lchart_of kV_Lchart_of dc_Lchart_of pm_Lchart_of cd_Lchart_of ct_Lchart_of oc_law kV_law dc_law pm_law cd_law ct_law : Value} {od_InvalidMap an_InvalidMap k2_InvalidMap c2_InvalidMap : Option Addr} {vs_InvalidMap : Array Value} {k3_InvalidMap c3_InvalidMap sl_InvalidMap : Array (Option Value)} {file_InvalidMap : Str} {tf_InvalidMap : Tok} {od_InvalidText an_InvalidText k2_InvalidText c2_InvalidText : Option Addr} {vs_InvalidText : Array Value} {k3_InvalidText c3_InvalidText sl_InvalidText : Array (Option Value)} {file_InvalidText : Str} {tf_InvalidText : Tok} {od_NoCell an_NoCell k2_NoCell c2_NoCell : Option Addr} {vs_NoCell : Array Value} {k3_NoCell c3_NoCell sl_NoCell : Array (Option Value)} {file_NoCell : Str} {tf_NoCell : Tok} {od_is_integer : Option Addr} {an_is_integer : Option Addr} {sl_is_integer : Array (Option Value)} {od_is_sequence : Option Addr} {an_is_sequence : Option Addr} {sl_is_sequence : Array (Option Value)} {od_number_of : Option Addr} {an_number_of : Option Addr} {sl_number_of : Array (Option Value)} {od_ordered_pair : Option Addr} {an_ordered_pair : Option Addr} {sl_ordered_pair : Array (Option Value)} {od_is_touch : Option Addr} {an_is_touch : Option Addr} {sl_is_touch : Array (Option Value)} {od_ordered_touches : Option Addr} {an_ordered_touches : Option Addr} {sl_ordered_touches : Array (Option Value)} {od_touch_in : Option Addr} {an_touch_in : Option Addr} {sl_touch_in : Array (Option Value)} {od_map_in : Option Addr} {an_map_in : Option Addr} {sl_map_in : Array (Option Value)} {od_map_init : Option Addr} {an_map_init : Option Addr} {sl_map_init : Array (Option Value)} {to_map_init : Value} {td_map_init : Option Addr} {tn_map_init : Nat} {ts_map_init : Array (Option Value)} {ed0_map_init : Option Addr} {en0_map_init : Nat} {es0_map_init : Array (Option Value)} {od_map_read : Option Addr} {an_map_read : Option Addr} {sl_map_read : Array (Option Value)} {rs_map_read : List Value} {od_map_len : Option Addr} {an_map_len : Option Addr} {sl_map_len : Array (Option Value)} {od_map_eq : Option Addr} {an_map_eq : Option Addr} {sl_map_eq : Array (Option Value)} {od_map_str : Option Addr} {an_map_str : Option Addr} {sl_map_str : Array (Option Value)} {od_Ldeal : Option Addr} {an_Ldeal : Option Addr} {sl_Ldeal : Array (Option Value)} {od_Ldraw : Option Addr} {an_Ldraw : Option Addr} {sl_Ldraw : Array (Option Value)} {od_Lpick : Option Addr} {an_Lpick : Option Addr} {sl_Lpick : Array (Option Value)} {od_Lchart : Option Addr} {an_Lchart : Option Addr} {sl_Lchart : Array (Option Value)} {od_LmapW : Option Addr} {an_LmapW : Option Addr} {sl_LmapW : Array (Option Value)} {od_Lchart_of : Option Addr} {an_Lchart_of : Option Addr} {sl_Lchart_of : Array (Option Value)} {od_law : Option Addr} {an_law : Option Addr} {sl_law : Array (Option Value)} {gk_DIGITS : Tok} {gk_MOST_FIGURES : Tok}
    (hC_Map : PySem.W.nsIn K mainGlobals "Map" = some (some (.ref C_Map)))
    (pg_Map : PySem.W.plainGet K C_Map Str.empty = true)
    (hd_Map : PySem.W.hasDictIn K C_Map = true)
    (po_Map : PySem.W.plainOver K C_Map = true)
    (sa_Map : PySem.W.findIn K (.ref C_Map) "__setattr__" = some (some (.builtin "object.__setattr__")))
    (crd_Map : PySem.W.readsIn K C_Map (.type "type") = true)
    (cga_Map : PySem.W.specialIn K (.ref C_Map) "__getattribute__" = some (some (.builtin "type.__getattribute__")))
    (na_Map_many : PySem.W.findIn K (.ref C_Map) "many" = some none)
    (na_Map_touches : PySem.W.findIn K (.ref C_Map) "touches" = some none)
    (sf_Map : PySem.W.selfFirst K C_Map = true)
    (oa_Map : PySem.W.findIn K (.ref C_Map) "__class__" = some (some (.builtin "object.__class__")))
    (on_Map : PySem.W.specialIn K (.builtin "object.__class__") "__get__" = some (some (.builtin "getset_descriptor.__get__")))
    (ot_Map : PySem.W.takesIn K (.builtin "object.__class__") = some true)
    (om_Map : PySem.W.mroIn K C_Map (.type "object") = some true)
    (hC_PourError : PySem.W.nsIn K mainGlobals "PourError" = some (some (.ref C_PourError)))
    (exC_PourError : PySem.W.subIn K (.ref C_PourError) (.type "BaseException") = some true)
    (dic_PourError : PySem.W.hasDictIn K C_PourError = true)
    (tyC_PourError : PySem.W.typeIn K (.ref C_PourError) = some (.type "type"))
    (mro_PourError : PySem.W.mroIn K C_PourError (.ref C_PourError) = some true)
    (hC_InvalidMap : PySem.W.nsIn K mainGlobals "InvalidMap" = some (some (.ref C_InvalidMap)))
    (exC_InvalidMap : PySem.W.subIn K (.ref C_InvalidMap) (.type "BaseException") = some true)
    (dic_InvalidMap : PySem.W.hasDictIn K C_InvalidMap = true)
    (tyC_InvalidMap : PySem.W.typeIn K (.ref C_InvalidMap) = some (.type "type"))
    (mro_InvalidMap : PySem.W.mroIn K C_InvalidMap (.ref C_InvalidMap) = some true)
    (hC_InvalidText : PySem.W.nsIn K mainGlobals "InvalidText" = some (some (.ref C_InvalidText)))
    (exC_InvalidText : PySem.W.subIn K (.ref C_InvalidText) (.type "BaseException") = some true)
    (dic_InvalidText : PySem.W.hasDictIn K C_InvalidText = true)
    (tyC_InvalidText : PySem.W.typeIn K (.ref C_InvalidText) = some (.type "type"))
    (mro_InvalidText : PySem.W.mroIn K C_InvalidText (.ref C_InvalidText) = some true)
    (hC_NoCell : PySem.W.nsIn K mainGlobals "NoCell" = some (some (.ref C_NoCell)))
    (exC_NoCell : PySem.W.subIn K (.ref C_NoCell) (.type "BaseException") = some true)
    (dic_NoCell : PySem.W.hasDictIn K C_NoCell = true)
    (tyC_NoCell : PySem.W.typeIn K (.ref C_NoCell) = some (.type "type"))
    (mro_NoCell : PySem.W.mroIn K C_NoCell (.ref C_NoCell) = some true)
    (h_super : PySem.W.nsIn K mainGlobals "super" = some none)
    (h_top : (l.prog.main.scope.names.lookup ("super" : Str)).isSome = false)
    (h_opq : PySem.W.nsIn K cStatics "thirdparty.any" = some none)
    (h_cget : PySem.W.specialIn K (.builtin "object.__class__") "__get__" = some (some (.builtin "getset_descriptor.__get__")))
    (h_ctk : PySem.W.takesIn K (.builtin "object.__class__") = some true)
    (ini_InvalidMap : PySem.W.findIn K (.ref C_InvalidMap) "__init__" = some (some (.ref f_InvalidMap)))
    (hlf_InvalidMap : K.lookup f_InvalidMap = some ⟨oc_InvalidMap, od_InvalidMap, .func (PySem.W.ksFn "__init__" "InvalidMap.__init__" (defArgs s_InvalidMap) (defBody s_InvalidMap) (defScope s_InvalidMap) .none kV_InvalidMap doc_InvalidMap pm_InvalidMap an_InvalidMap (.ref cda_InvalidMap) ct_InvalidMap cc_InvalidMap), sl_InvalidMap⟩)
    (cod_InvalidMap : PySem.W.codeIn K (.ref cda_InvalidMap) "InvalidMap.__init__" = true)
    (lcd_InvalidMap : K.lookup cda_InvalidMap = some ⟨k1_InvalidMap, k2_InvalidMap, .fields vs_InvalidMap, k3_InvalidMap⟩)
    (vs2_InvalidMap : vs_InvalidMap[2]? = some (.str file_InvalidMap tf_InvalidMap))
    (fil_InvalidMap : ((l.prog.main.file : Str) == file_InvalidMap) = true)
    (lcc_InvalidMap : K.lookup cc_InvalidMap = some ⟨c1_InvalidMap, c2_InvalidMap, .cell (some (.ref C_InvalidMap)), c3_InvalidMap⟩)
    (ei_InvalidMap : PySem.W.excInitIn K C_InvalidMap [.type "ValueError", .type "Exception", .type "BaseException", .type "object"] "ValueError.__new__" = true)
    (eo_InvalidMap : PySem.W.excOver K C_InvalidMap [.type "ValueError", .type "Exception", .type "BaseException", .type "object"] = true)
    (sa_InvalidMap : PySem.W.findIn K (.ref C_InvalidMap) "__setattr__" = some (some (.builtin "object.__setattr__")))
    (sub_InvalidMap_ValueError : PySem.W.subIn K (.ref C_InvalidMap) (.type "ValueError") = some true)
    (sub_InvalidMap_IndexError : PySem.W.subIn K (.ref C_InvalidMap) (.type "IndexError") = some false)
    (sub_InvalidMap_PourError : PySem.W.subIn K (.ref C_InvalidMap) (.ref C_PourError) = some true)
    (sub_InvalidMap_InvalidMap : PySem.W.subIn K (.ref C_InvalidMap) (.ref C_InvalidMap) = some true)
    (sub_InvalidMap_InvalidText : PySem.W.subIn K (.ref C_InvalidMap) (.ref C_InvalidText) = some false)
    (sub_InvalidMap_NoCell : PySem.W.subIn K (.ref C_InvalidMap) (.ref C_NoCell) = some false)
    (kC_InvalidMap : PySem.W.keepIn K (.ref C_InvalidMap) = true)
    (ms_InvalidMap : PySem.W.ks_superIn K C_InvalidMap C_InvalidMap "__init__" = some (some (.builtin "ValueError.__init__")))
    (tk_InvalidMap : PySem.W.takerIn K C_InvalidMap "word" = some none)
    (ty_InvalidMap : PySem.W.typeIn K (.ref f_InvalidMap) = some (.type "function"))
    (ga_InvalidMap : PySem.W.findIn K (.ref C_InvalidMap) "__getattribute__" = some (some (.builtin "BaseException.__getattribute__")))
    (gg_InvalidMap : PySem.W.findIn K (.ref C_InvalidMap) "__getattr__" = some none)
    (nx_InvalidMap : PySem.W.findIn K (.ref C_InvalidMap) "word" = some none)
    (cls_InvalidMap : PySem.W.findIn K (.ref C_InvalidMap) "__class__" = some (some (.builtin "object.__class__")))
    (mo_InvalidMap : PySem.W.mroIn K C_InvalidMap (.type "object") = some true)
    (ini_InvalidText : PySem.W.findIn K (.ref C_InvalidText) "__init__" = some (some (.ref f_InvalidText)))
    (hlf_InvalidText : K.lookup f_InvalidText = some ⟨oc_InvalidText, od_InvalidText, .func (PySem.W.ksFn "__init__" "InvalidText.__init__" (defArgs s_InvalidText) (defBody s_InvalidText) (defScope s_InvalidText) .none kV_InvalidText doc_InvalidText pm_InvalidText an_InvalidText (.ref cda_InvalidText) ct_InvalidText cc_InvalidText), sl_InvalidText⟩)
    (cod_InvalidText : PySem.W.codeIn K (.ref cda_InvalidText) "InvalidText.__init__" = true)
    (lcd_InvalidText : K.lookup cda_InvalidText = some ⟨k1_InvalidText, k2_InvalidText, .fields vs_InvalidText, k3_InvalidText⟩)
    (vs2_InvalidText : vs_InvalidText[2]? = some (.str file_InvalidText tf_InvalidText))
    (fil_InvalidText : ((l.prog.main.file : Str) == file_InvalidText) = true)
    (lcc_InvalidText : K.lookup cc_InvalidText = some ⟨c1_InvalidText, c2_InvalidText, .cell (some (.ref C_InvalidText)), c3_InvalidText⟩)
    (ei_InvalidText : PySem.W.excInitIn K C_InvalidText [.type "ValueError", .type "Exception", .type "BaseException", .type "object"] "ValueError.__new__" = true)
    (eo_InvalidText : PySem.W.excOver K C_InvalidText [.type "ValueError", .type "Exception", .type "BaseException", .type "object"] = true)
    (sa_InvalidText : PySem.W.findIn K (.ref C_InvalidText) "__setattr__" = some (some (.builtin "object.__setattr__")))
    (sub_InvalidText_ValueError : PySem.W.subIn K (.ref C_InvalidText) (.type "ValueError") = some true)
    (sub_InvalidText_IndexError : PySem.W.subIn K (.ref C_InvalidText) (.type "IndexError") = some false)
    (sub_InvalidText_PourError : PySem.W.subIn K (.ref C_InvalidText) (.ref C_PourError) = some true)
    (sub_InvalidText_InvalidMap : PySem.W.subIn K (.ref C_InvalidText) (.ref C_InvalidMap) = some false)
    (sub_InvalidText_InvalidText : PySem.W.subIn K (.ref C_InvalidText) (.ref C_InvalidText) = some true)
    (sub_InvalidText_NoCell : PySem.W.subIn K (.ref C_InvalidText) (.ref C_NoCell) = some false)
    (kC_InvalidText : PySem.W.keepIn K (.ref C_InvalidText) = true)
    (ms_InvalidText : PySem.W.ks_superIn K C_InvalidText C_InvalidText "__init__" = some (some (.builtin "ValueError.__init__")))
    (tk_InvalidText : PySem.W.takerIn K C_InvalidText "at" = some none)
    (ty_InvalidText : PySem.W.typeIn K (.ref f_InvalidText) = some (.type "function"))
    (ga_InvalidText : PySem.W.findIn K (.ref C_InvalidText) "__getattribute__" = some (some (.builtin "BaseException.__getattribute__")))
    (gg_InvalidText : PySem.W.findIn K (.ref C_InvalidText) "__getattr__" = some none)
    (nx_InvalidText : PySem.W.findIn K (.ref C_InvalidText) "at" = some none)
    (cls_InvalidText : PySem.W.findIn K (.ref C_InvalidText) "__class__" = some (some (.builtin "object.__class__")))
    (mo_InvalidText : PySem.W.mroIn K C_InvalidText (.type "object") = some true)
    (ini_NoCell : PySem.W.findIn K (.ref C_NoCell) "__init__" = some (some (.ref f_NoCell)))
    (hlf_NoCell : K.lookup f_NoCell = some ⟨oc_NoCell, od_NoCell, .func (PySem.W.ksFn "__init__" "NoCell.__init__" (defArgs s_NoCell) (defBody s_NoCell) (defScope s_NoCell) .none kV_NoCell doc_NoCell pm_NoCell an_NoCell (.ref cda_NoCell) ct_NoCell cc_NoCell), sl_NoCell⟩)
    (cod_NoCell : PySem.W.codeIn K (.ref cda_NoCell) "NoCell.__init__" = true)
    (lcd_NoCell : K.lookup cda_NoCell = some ⟨k1_NoCell, k2_NoCell, .fields vs_NoCell, k3_NoCell⟩)
    (vs2_NoCell : vs_NoCell[2]? = some (.str file_NoCell tf_NoCell))
    (fil_NoCell : ((l.prog.main.file : Str) == file_NoCell) = true)
    (lcc_NoCell : K.lookup cc_NoCell = some ⟨c1_NoCell, c2_NoCell, .cell (some (.ref C_NoCell)), c3_NoCell⟩)
    (ei_NoCell : PySem.W.excInitIn K C_NoCell [.type "IndexError", .type "LookupError", .type "Exception", .type "BaseException", .type "object"] "IndexError.__new__" = true)
    (eo_NoCell : PySem.W.excOver K C_NoCell [.type "IndexError", .type "LookupError", .type "Exception", .type "BaseException", .type "object"] = true)
    (sa_NoCell : PySem.W.findIn K (.ref C_NoCell) "__setattr__" = some (some (.builtin "object.__setattr__")))
    (sub_NoCell_ValueError : PySem.W.subIn K (.ref C_NoCell) (.type "ValueError") = some false)
    (sub_NoCell_IndexError : PySem.W.subIn K (.ref C_NoCell) (.type "IndexError") = some true)
    (sub_NoCell_PourError : PySem.W.subIn K (.ref C_NoCell) (.ref C_PourError) = some false)
    (sub_NoCell_InvalidMap : PySem.W.subIn K (.ref C_NoCell) (.ref C_InvalidMap) = some false)
    (sub_NoCell_InvalidText : PySem.W.subIn K (.ref C_NoCell) (.ref C_InvalidText) = some false)
    (sub_NoCell_NoCell : PySem.W.subIn K (.ref C_NoCell) (.ref C_NoCell) = some true)
    (kC_NoCell : PySem.W.keepIn K (.ref C_NoCell) = true)
    (ms_NoCell : PySem.W.ks_superIn K C_NoCell C_NoCell "__init__" = some (some (.builtin "IndexError.__init__")))
    (tk_NoCell : PySem.W.takerIn K C_NoCell "cell" = some none)
    (ty_NoCell : PySem.W.typeIn K (.ref f_NoCell) = some (.type "function"))
    (ga_NoCell : PySem.W.findIn K (.ref C_NoCell) "__getattribute__" = some (some (.builtin "BaseException.__getattribute__")))
    (gg_NoCell : PySem.W.findIn K (.ref C_NoCell) "__getattr__" = some none)
    (nx_NoCell : PySem.W.findIn K (.ref C_NoCell) "cell" = some none)
    (cls_NoCell : PySem.W.findIn K (.ref C_NoCell) "__class__" = some (some (.builtin "object.__class__")))
    (mo_NoCell : PySem.W.mroIn K C_NoCell (.type "object") = some true)
    (ha_is_integer : PySem.W.nsIn K mainGlobals "is_integer" = some (some (.ref a_is_integer)))
    (hl_is_integer : K.lookup a_is_integer = some ⟨oc_is_integer, od_is_integer, .func (PySem.W.fnOf "is_integer" "is_integer" (defArgs s_is_integer) (defBody s_is_integer) (defScope s_is_integer) .none kV_is_integer dc_is_integer pm_is_integer an_is_integer cd_is_integer ct_is_integer), sl_is_integer⟩)
    (hc_is_integer : PySem.W.codeIn K cd_is_integer "is_integer" = true)
    (hk_is_integer : PySem.W.keepIn K (.ref a_is_integer) = true)
    (ha_is_sequence : PySem.W.nsIn K mainGlobals "is_sequence" = some (some (.ref a_is_sequence)))
    (hl_is_sequence : K.lookup a_is_sequence = some ⟨oc_is_sequence, od_is_sequence, .func (PySem.W.fnOf "is_sequence" "is_sequence" (defArgs s_is_sequence) (defBody s_is_sequence) (defScope s_is_sequence) .none kV_is_sequence dc_is_sequence pm_is_sequence an_is_sequence cd_is_sequence ct_is_sequence), sl_is_sequence⟩)
    (hc_is_sequence : PySem.W.codeIn K cd_is_sequence "is_sequence" = true)
    (hk_is_sequence : PySem.W.keepIn K (.ref a_is_sequence) = true)
    (ha_number_of : PySem.W.nsIn K mainGlobals "number_of" = some (some (.ref a_number_of)))
    (hl_number_of : K.lookup a_number_of = some ⟨oc_number_of, od_number_of, .func (PySem.W.fnOf "number_of" "number_of" (defArgs s_number_of) (defBody s_number_of) (defScope s_number_of) .none kV_number_of dc_number_of pm_number_of an_number_of cd_number_of ct_number_of), sl_number_of⟩)
    (hc_number_of : PySem.W.codeIn K cd_number_of "number_of" = true)
    (hk_number_of : PySem.W.keepIn K (.ref a_number_of) = true)
    (ha_ordered_pair : PySem.W.nsIn K mainGlobals "ordered_pair" = some (some (.ref a_ordered_pair)))
    (hl_ordered_pair : K.lookup a_ordered_pair = some ⟨oc_ordered_pair, od_ordered_pair, .func (PySem.W.fnOf "ordered_pair" "ordered_pair" (defArgs s_ordered_pair) (defBody s_ordered_pair) (defScope s_ordered_pair) .none kV_ordered_pair dc_ordered_pair pm_ordered_pair an_ordered_pair cd_ordered_pair ct_ordered_pair), sl_ordered_pair⟩)
    (hc_ordered_pair : PySem.W.codeIn K cd_ordered_pair "ordered_pair" = true)
    (hk_ordered_pair : PySem.W.keepIn K (.ref a_ordered_pair) = true)
    (ha_is_touch : PySem.W.nsIn K mainGlobals "is_touch" = some (some (.ref a_is_touch)))
    (hl_is_touch : K.lookup a_is_touch = some ⟨oc_is_touch, od_is_touch, .func (PySem.W.fnOf "is_touch" "is_touch" (defArgs s_is_touch) (defBody s_is_touch) (defScope s_is_touch) .none kV_is_touch dc_is_touch pm_is_touch an_is_touch cd_is_touch ct_is_touch), sl_is_touch⟩)
    (hc_is_touch : PySem.W.codeIn K cd_is_touch "is_touch" = true)
    (hk_is_touch : PySem.W.keepIn K (.ref a_is_touch) = true)
    (ha_ordered_touches : PySem.W.nsIn K mainGlobals "ordered_touches" = some (some (.ref a_ordered_touches)))
    (hl_ordered_touches : K.lookup a_ordered_touches = some ⟨oc_ordered_touches, od_ordered_touches, .func (PySem.W.fnOf "ordered_touches" "ordered_touches" (defArgs s_ordered_touches) (defBody s_ordered_touches) (defScope s_ordered_touches) .none kV_ordered_touches dc_ordered_touches pm_ordered_touches an_ordered_touches cd_ordered_touches ct_ordered_touches), sl_ordered_touches⟩)
    (hc_ordered_touches : PySem.W.codeIn K cd_ordered_touches "ordered_touches" = true)
    (hk_ordered_touches : PySem.W.keepIn K (.ref a_ordered_touches) = true)
    (ha_touch_in : PySem.W.nsIn K mainGlobals "touch_in" = some (some (.ref a_touch_in)))
    (hl_touch_in : K.lookup a_touch_in = some ⟨oc_touch_in, od_touch_in, .func (PySem.W.fnOf "touch_in" "touch_in" (defArgs s_touch_in) (defBody s_touch_in) (defScope s_touch_in) .none kV_touch_in dc_touch_in pm_touch_in an_touch_in cd_touch_in ct_touch_in), sl_touch_in⟩)
    (hc_touch_in : PySem.W.codeIn K cd_touch_in "touch_in" = true)
    (hk_touch_in : PySem.W.keepIn K (.ref a_touch_in) = true)
    (ha_map_in : PySem.W.nsIn K mainGlobals "map_in" = some (some (.ref a_map_in)))
    (hl_map_in : K.lookup a_map_in = some ⟨oc_map_in, od_map_in, .func (PySem.W.fnOf "map_in" "map_in" (defArgs s_map_in) (defBody s_map_in) (defScope s_map_in) .none kV_map_in dc_map_in pm_map_in an_map_in cd_map_in ct_map_in), sl_map_in⟩)
    (hc_map_in : PySem.W.codeIn K cd_map_in "map_in" = true)
    (hk_map_in : PySem.W.keepIn K (.ref a_map_in) = true)
    (ha_map_init : PySem.W.findIn K (.ref C_Map) "__init__" = some (some (.ref a_map_init)))
    (hi_map_init : PySem.W.isFn K (.ref a_map_init) = true)
    (mk_Map : PySem.W.makesIn K C_Map = true)
    (kc_Map : PySem.W.keepIn K (.ref C_Map) = true)
    (hl_map_init : K.lookup a_map_init = some ⟨oc_map_init, od_map_init, .func (PySem.W.fnOf "__init__" "Map.__init__" (defArgs s_map_init) (defBody s_map_init) (defScope s_map_init) (.ref T_map_init) kV_map_init dc_map_init pm_map_init an_map_init cd_map_init ct_map_init), sl_map_init⟩)
    (hc_map_init : PySem.W.codeIn K cd_map_init "Map.__init__" = true)
    (hk_map_init : PySem.W.keepIn K (.ref a_map_init) = true)
    (ht_map_init : K.lookup T_map_init = some ⟨to_map_init, td_map_init, .seq (List.toArray [Value.ref e0_map_init]) tn_map_init, ts_map_init⟩)
    (het0_map_init : K.lookup e0_map_init = some ⟨.type "tuple", ed0_map_init, .seq (List.toArray []) en0_map_init, es0_map_init⟩)
    (ha_map_read : PySem.W.findCls K (.ref C_Map) (.type "type") "read" = some (.get (.builtin "classmethod.__get__") (.ref p_map_read) .none (.ref C_Map)))
    (hrc_map_read : PySem.W.recIn K p_map_read "classmethod" = some (.ref a_map_read :: rs_map_read))
    (hfi_map_read : PySem.W.fnIn K a_map_read = true)
    (hl_map_read : K.lookup a_map_read = some ⟨oc_map_read, od_map_read, .func (PySem.W.fnOf "read" "Map.read" (defArgs s_map_read) (defBody s_map_read) (defScope s_map_read) .none kV_map_read dc_map_read pm_map_read an_map_read cd_map_read ct_map_read), sl_map_read⟩)
    (hc_map_read : PySem.W.codeIn K cd_map_read "Map.read" = true)
    (hk_map_read : PySem.W.keepIn K (.ref a_map_read) = true)
    (ha_map_len : PySem.W.findIn K (.ref C_Map) "__len__" = some (some (.ref a_map_len)))
    (hi_map_len : PySem.W.isFn K (.ref a_map_len) = true)
    (hl_map_len : K.lookup a_map_len = some ⟨oc_map_len, od_map_len, .func (PySem.W.fnOf "__len__" "Map.__len__" (defArgs s_map_len) (defBody s_map_len) (defScope s_map_len) .none kV_map_len dc_map_len pm_map_len an_map_len cd_map_len ct_map_len), sl_map_len⟩)
    (hc_map_len : PySem.W.codeIn K cd_map_len "Map.__len__" = true)
    (hk_map_len : PySem.W.keepIn K (.ref a_map_len) = true)
    (ha_map_eq : PySem.W.findIn K (.ref C_Map) "__eq__" = some (some (.ref a_map_eq)))
    (hi_map_eq : PySem.W.isFn K (.ref a_map_eq) = true)
    (hne_Map : PySem.W.findIn K (.ref C_Map) "__ne__" = some (some (.builtin "object.__ne__")))
    (hno_Map : PySem.W.mroIn K C_Map (.type "object") = some true)
    (hl_map_eq : K.lookup a_map_eq = some ⟨oc_map_eq, od_map_eq, .func (PySem.W.fnOf "__eq__" "Map.__eq__" (defArgs s_map_eq) (defBody s_map_eq) (defScope s_map_eq) .none kV_map_eq dc_map_eq pm_map_eq an_map_eq cd_map_eq ct_map_eq), sl_map_eq⟩)
    (hc_map_eq : PySem.W.codeIn K cd_map_eq "Map.__eq__" = true)
    (hk_map_eq : PySem.W.keepIn K (.ref a_map_eq) = true)
    (ha_map_str : PySem.W.findIn K (.ref C_Map) "__str__" = some (some (.ref a_map_str)))
    (hi_map_str : PySem.W.isFn K (.ref a_map_str) = true)
    (hl_map_str : K.lookup a_map_str = some ⟨oc_map_str, od_map_str, .func (PySem.W.fnOf "__str__" "Map.__str__" (defArgs s_map_str) (defBody s_map_str) (defScope s_map_str) .none kV_map_str dc_map_str pm_map_str an_map_str cd_map_str ct_map_str), sl_map_str⟩)
    (hc_map_str : PySem.W.codeIn K cd_map_str "Map.__str__" = true)
    (hk_map_str : PySem.W.keepIn K (.ref a_map_str) = true)
    (ha_Ldeal : PySem.W.nsIn K mainGlobals "_law_deal" = some (some (.ref a_Ldeal)))
    (hl_Ldeal : K.lookup a_Ldeal = some ⟨oc_Ldeal, od_Ldeal, .func (PySem.W.fnOf "_law_deal" "_law_deal" (defArgs s_Ldeal) (defBody s_Ldeal) (defScope s_Ldeal) .none kV_Ldeal dc_Ldeal pm_Ldeal an_Ldeal cd_Ldeal ct_Ldeal), sl_Ldeal⟩)
    (hc_Ldeal : PySem.W.codeIn K cd_Ldeal "_law_deal" = true)
    (hk_Ldeal : PySem.W.keepIn K (.ref a_Ldeal) = true)
    (ha_Ldraw : PySem.W.nsIn K mainGlobals "_law_draw" = some (some (.ref a_Ldraw)))
    (hl_Ldraw : K.lookup a_Ldraw = some ⟨oc_Ldraw, od_Ldraw, .func (PySem.W.fnOf "_law_draw" "_law_draw" (defArgs s_Ldraw) (defBody s_Ldraw) (defScope s_Ldraw) .none kV_Ldraw dc_Ldraw pm_Ldraw an_Ldraw cd_Ldraw ct_Ldraw), sl_Ldraw⟩)
    (hc_Ldraw : PySem.W.codeIn K cd_Ldraw "_law_draw" = true)
    (hk_Ldraw : PySem.W.keepIn K (.ref a_Ldraw) = true)
    (ha_Lpick : PySem.W.nsIn K mainGlobals "_law_pick" = some (some (.ref a_Lpick)))
    (hl_Lpick : K.lookup a_Lpick = some ⟨oc_Lpick, od_Lpick, .func (PySem.W.fnOf "_law_pick" "_law_pick" (defArgs s_Lpick) (defBody s_Lpick) (defScope s_Lpick) .none kV_Lpick dc_Lpick pm_Lpick an_Lpick cd_Lpick ct_Lpick), sl_Lpick⟩)
    (hc_Lpick : PySem.W.codeIn K cd_Lpick "_law_pick" = true)
    (hk_Lpick : PySem.W.keepIn K (.ref a_Lpick) = true)
    (ha_Lchart : PySem.W.nsIn K mainGlobals "_law_chart" = some (some (.ref a_Lchart)))
    (hl_Lchart : K.lookup a_Lchart = some ⟨oc_Lchart, od_Lchart, .func (PySem.W.fnOf "_law_chart" "_law_chart" (defArgs s_Lchart) (defBody s_Lchart) (defScope s_Lchart) .none kV_Lchart dc_Lchart pm_Lchart an_Lchart cd_Lchart ct_Lchart), sl_Lchart⟩)
    (hc_Lchart : PySem.W.codeIn K cd_Lchart "_law_chart" = true)
    (hk_Lchart : PySem.W.keepIn K (.ref a_Lchart) = true)
    (ha_LmapW : PySem.W.nsIn K mainGlobals "_law_map_of" = some (some (.ref a_LmapW)))
    (hl_LmapW : K.lookup a_LmapW = some ⟨oc_LmapW, od_LmapW, .func (PySem.W.fnOf "_law_map_of" "_law_map_of" (defArgs s_LmapW) (defBody s_LmapW) (defScope s_LmapW) .none kV_LmapW dc_LmapW pm_LmapW an_LmapW cd_LmapW ct_LmapW), sl_LmapW⟩)
    (hc_LmapW : PySem.W.codeIn K cd_LmapW "_law_map_of" = true)
    (hk_LmapW : PySem.W.keepIn K (.ref a_LmapW) = true)
    (ha_Lchart_of : PySem.W.nsIn K mainGlobals "_law_chart_of" = some (some (.ref a_Lchart_of)))
    (hl_Lchart_of : K.lookup a_Lchart_of = some ⟨oc_Lchart_of, od_Lchart_of, .func (PySem.W.fnOf "_law_chart_of" "_law_chart_of" (defArgs s_Lchart_of) (defBody s_Lchart_of) (defScope s_Lchart_of) .none kV_Lchart_of dc_Lchart_of pm_Lchart_of an_Lchart_of cd_Lchart_of ct_Lchart_of), sl_Lchart_of⟩)
    (hc_Lchart_of : PySem.W.codeIn K cd_Lchart_of "_law_chart_of" = true)
    (hk_Lchart_of : PySem.W.keepIn K (.ref a_Lchart_of) = true)
    (ha_law : PySem.W.nsIn K mainGlobals "law" = some (some (.ref a_law)))
    (hl_law : K.lookup a_law = some ⟨oc_law, od_law, .func (PySem.W.fnOf "law" "law" (defArgs s_law) (defBody s_law) (defScope s_law) .none kV_law dc_law pm_law an_law cd_law ct_law), sl_law⟩)
    (hc_law : PySem.W.codeIn K cd_law "law" = true)
    (hk_law : PySem.W.keepIn K (.ref a_law) = true)
    (hb_abs : PySem.W.nsIn K mainGlobals "abs" = some none)
    (hb_all : PySem.W.nsIn K mainGlobals "all" = some none)
    (hb_bool : PySem.W.nsIn K mainGlobals "bool" = some none)
    (hb_enumerate : PySem.W.nsIn K mainGlobals "enumerate" = some none)
    (hb_int : PySem.W.nsIn K mainGlobals "int" = some none)
    (hb_isinstance : PySem.W.nsIn K mainGlobals "isinstance" = some none)
    (hb_len : PySem.W.nsIn K mainGlobals "len" = some none)
    (hb_list : PySem.W.nsIn K mainGlobals "list" = some none)
    (hb_range : PySem.W.nsIn K mainGlobals "range" = some none)
    (hb_repr : PySem.W.nsIn K mainGlobals "repr" = some none)
    (hb_sorted : PySem.W.nsIn K mainGlobals "sorted" = some none)
    (hb_str : PySem.W.nsIn K mainGlobals "str" = some none)
    (hb_tuple : PySem.W.nsIn K mainGlobals "tuple" = some none)
    (hg_DIGITS : PySem.W.nsIn K mainGlobals "DIGITS" = some (some (.str "0123456789" gk_DIGITS)))
    (hg_MOST_FIGURES : PySem.W.nsIn K mainGlobals "MOST_FIGURES" = some (some (.int 9 gk_MOST_FIGURES))) :
    ∃ fd : FuncData, (∀ (s : Shared) (v : Value), BindsTo s fd ⟨[v], []⟩ [("_law_script", v)]) ∧ ∀ base : Heap, K.In base → base.Ns mainGlobals mg → FnG l.prog w K mg base CX0 7 fa fd ["_law_script"] (lift K spLaw) := by
  have e := hfa.symm.trans (PySem.W.mg_of X G ha_law)
  cases e
  have F_is_integer := fun_mk (st := s_is_integer) hl_is_integer hc_is_integer hk_is_integer
  have bb_is_integer := F_is_integer.binds (ps := ["value"]) fun _ _ _ _ _ _ us hl => match us, hl with | [_], _ => rfl
  have F_is_sequence := fun_mk (st := s_is_sequence) hl_is_sequence hc_is_sequence hk_is_sequence
  have bb_is_sequence := F_is_sequence.binds (ps := ["value"]) fun _ _ _ _ _ _ us hl => match us, hl with | [_], _ => rfl
  have F_number_of := fun_mk (st := s_number_of) hl_number_of hc_number_of hk_number_of
  have bb_number_of := F_number_of.binds (ps := ["word", "most"]) fun _ _ _ _ _ _ us hl => match us, hl with | [_, _], _ => rfl
  have F_ordered_pair := fun_mk (st := s_ordered_pair) hl_ordered_pair hc_ordered_pair hk_ordered_pair
  have bb_ordered_pair := F_ordered_pair.binds (ps := ["one", "other"]) fun _ _ _ _ _ _ us hl => match us, hl with | [_, _], _ => rfl
  have F_is_touch := fun_mk (st := s_is_touch) hl_is_touch hc_is_touch hk_is_touch
  have bb_is_touch := F_is_touch.binds (ps := ["many", "pair"]) fun _ _ _ _ _ _ us hl => match us, hl with | [_, _], _ => rfl
  have F_ordered_touches := fun_mk (st := s_ordered_touches) hl_ordered_touches hc_ordered_touches hk_ordered_touches
  have bb_ordered_touches := F_ordered_touches.binds (ps := ["many", "touches"]) fun _ _ _ _ _ _ us hl => match us, hl with | [_, _], _ => rfl
  have F_touch_in := fun_mk (st := s_touch_in) hl_touch_in hc_touch_in hk_touch_in
  have bb_touch_in := F_touch_in.binds (ps := ["word"]) fun _ _ _ _ _ _ us hl => match us, hl with | [_], _ => rfl
  have F_map_in := fun_mk (st := s_map_in) hl_map_in hc_map_in hk_map_in
  have bb_map_in := F_map_in.binds (ps := ["text"]) fun _ _ _ _ _ _ us hl => match us, hl with | [_], _ => rfl
  have F_map_init : FunD K "__init__" "Map.__init__" (defArgs s_map_init) (defBody s_map_init) (defScope s_map_init) [V.ref e0_map_init] [] a_map_init (PySem.W.fnOf "__init__" "Map.__init__" (defArgs s_map_init) (defBody s_map_init) (defScope s_map_init) (.ref T_map_init) kV_map_init dc_map_init pm_map_init an_map_init cd_map_init ct_map_init) := ⟨⟨_, _, _, _, _, _, _, _, _, _, rfl, hl_map_init, hc_map_init, .inr ⟨by simp, T_map_init, _, _, _, rfl, ht_map_init, rfl, .cons rfl (.nil)⟩, .inl rfl⟩, hk_map_init⟩
  obtain ⟨v0_map_init, vv0_map_init, bb0_map_init⟩ := F_map_init.binds1 (ps := ["self", "many", "touches"]) 3 1 (by simp) rfl fun _ _ _ _ _ _ _ us its h1 h2 => match us, h1, its, h2 with | [_, _, _], _, [_], _ => ⟨_, rfl, rfl⟩
  obtain ⟨v1_map_init, vv1_map_init, bb1_map_init⟩ := F_map_init.binds1 (ps := ["self", "many", "touches"]) 2 0 (by simp) rfl fun _ _ _ _ _ _ _ us its h1 h2 => match us, h1, its, h2 with | [_, _], _, [_], _ => ⟨_, rfl, rfl⟩
  cases vv0_map_init
  have F_map_read := fun_mk (st := s_map_read) hl_map_read hc_map_read hk_map_read
  have bb_map_read := F_map_read.binds (ps := ["cls", "text"]) fun _ _ _ _ _ _ us hl => match us, hl with | [_, _], _ => rfl
  have F_map_len := fun_mk (st := s_map_len) hl_map_len hc_map_len hk_map_len
  have bb_map_len := F_map_len.binds (ps := ["self"]) fun _ _ _ _ _ _ us hl => match us, hl with | [_], _ => rfl
  have F_map_eq := fun_mk (st := s_map_eq) hl_map_eq hc_map_eq hk_map_eq
  have bb_map_eq := F_map_eq.binds (ps := ["self", "other"]) fun _ _ _ _ _ _ us hl => match us, hl with | [_, _], _ => rfl
  have F_map_str := fun_mk (st := s_map_str) hl_map_str hc_map_str hk_map_str
  have bb_map_str := F_map_str.binds (ps := ["self"]) fun _ _ _ _ _ _ us hl => match us, hl with | [_], _ => rfl
  have F_Ldeal := fun_mk (st := s_Ldeal) hl_Ldeal hc_Ldeal hk_Ldeal
  have bb_Ldeal := F_Ldeal.binds (ps := ["_law_script"]) fun _ _ _ _ _ _ us hl => match us, hl with | [_], _ => rfl
  have F_Ldraw := fun_mk (st := s_Ldraw) hl_Ldraw hc_Ldraw hk_Ldraw
  have bb_Ldraw := F_Ldraw.binds (ps := ["_law_deal_here", "_law_many"]) fun _ _ _ _ _ _ us hl => match us, hl with | [_, _], _ => rfl
  have F_Lpick := fun_mk (st := s_Lpick) hl_Lpick hc_Lpick hk_Lpick
  have bb_Lpick := F_Lpick.binds (ps := ["_law_deal_here", "_law_some"]) fun _ _ _ _ _ _ us hl => match us, hl with | [_, _], _ => rfl
  have F_Lchart := fun_mk (st := s_Lchart) hl_Lchart hc_Lchart hk_Lchart
  have bb_Lchart := F_Lchart.binds (ps := ["_law_deal_here", "_law_most"]) fun _ _ _ _ _ _ us hl => match us, hl with | [_, _], _ => rfl
  have F_LmapW := fun_mk (st := s_LmapW) hl_LmapW hc_LmapW hk_LmapW
  have bb_LmapW := F_LmapW.binds (ps := ["_law_chart_here"]) fun _ _ _ _ _ _ us hl => match us, hl with | [_], _ => rfl
  have F_Lchart_of := fun_mk (st := s_Lchart_of) hl_Lchart_of hc_Lchart_of hk_Lchart_of
  have bb_Lchart_of := F_Lchart_of.binds (ps := ["_law_made"]) fun _ _ _ _ _ _ us hl => match us, hl with | [_], _ => rfl
  have F_law := fun_mk (st := s_law) hl_law hc_law hk_law
  have bb_law := F_law.binds (ps := ["_law_script"]) fun _ _ _ _ _ _ us hl => match us, hl with | [_], _ => rfl
  have T : TXR l.prog K mg := {
    C_Map := C_Map,
    a_is_integer := a_is_integer,
    d_is_integer := (PySem.W.fnOf "is_integer" "is_integer" (defArgs s_is_integer) (defBody s_is_integer) (defScope s_is_integer) .none kV_is_integer dc_is_integer pm_is_integer an_is_integer cd_is_integer ct_is_integer),
    a_is_sequence := a_is_sequence,
    d_is_sequence := (PySem.W.fnOf "is_sequence" "is_sequence" (defArgs s_is_sequence) (defBody s_is_sequence) (defScope s_is_sequence) .none kV_is_sequence dc_is_sequence pm_is_sequence an_is_sequence cd_is_sequence ct_is_sequence),
    a_number_of := a_number_of,
    d_number_of := (PySem.W.fnOf "number_of" "number_of" (defArgs s_number_of) (defBody s_number_of) (defScope s_number_of) .none kV_number_of dc_number_of pm_number_of an_number_of cd_number_of ct_number_of),
    a_ordered_pair := a_ordered_pair,
    d_ordered_pair := (PySem.W.fnOf "ordered_pair" "ordered_pair" (defArgs s_ordered_pair) (defBody s_ordered_pair) (defScope s_ordered_pair) .none kV_ordered_pair dc_ordered_pair pm_ordered_pair an_ordered_pair cd_ordered_pair ct_ordered_pair),
    a_is_touch := a_is_touch,
    d_is_touch := (PySem.W.fnOf "is_touch" "is_touch" (defArgs s_is_touch) (defBody s_is_touch) (defScope s_is_touch) .none kV_is_touch dc_is_touch pm_is_touch an_is_touch cd_is_touch ct_is_touch),
    a_ordered_touches := a_ordered_touches,
    d_ordered_touches := (PySem.W.fnOf "ordered_touches" "ordered_touches" (defArgs s_ordered_touches) (defBody s_ordered_touches) (defScope s_ordered_touches) .none kV_ordered_touches dc_ordered_touches pm_ordered_touches an_ordered_touches cd_ordered_touches ct_ordered_touches),
    a_touch_in := a_touch_in,
    d_touch_in := (PySem.W.fnOf "touch_in" "touch_in" (defArgs s_touch_in) (defBody s_touch_in) (defScope s_touch_in) .none kV_touch_in dc_touch_in pm_touch_in an_touch_in cd_touch_in ct_touch_in),
    a_map_in := a_map_in,
    d_map_in := (PySem.W.fnOf "map_in" "map_in" (defArgs s_map_in) (defBody s_map_in) (defScope s_map_in) .none kV_map_in dc_map_in pm_map_in an_map_in cd_map_in ct_map_in),
    a_map_init := a_map_init,
    d_map_init := (PySem.W.fnOf "__init__" "Map.__init__" (defArgs s_map_init) (defBody s_map_init) (defScope s_map_init) (.ref T_map_init) kV_map_init dc_map_init pm_map_init an_map_init cd_map_init ct_map_init),
    a_map_read := a_map_read,
    d_map_read := (PySem.W.fnOf "read" "Map.read" (defArgs s_map_read) (defBody s_map_read) (defScope s_map_read) .none kV_map_read dc_map_read pm_map_read an_map_read cd_map_read ct_map_read),
    a_map_len := a_map_len,
    d_map_len := (PySem.W.fnOf "__len__" "Map.__len__" (defArgs s_map_len) (defBody s_map_len) (defScope s_map_len) .none kV_map_len dc_map_len pm_map_len an_map_len cd_map_len ct_map_len),
    a_map_eq := a_map_eq,
    d_map_eq := (PySem.W.fnOf "__eq__" "Map.__eq__" (defArgs s_map_eq) (defBody s_map_eq) (defScope s_map_eq) .none kV_map_eq dc_map_eq pm_map_eq an_map_eq cd_map_eq ct_map_eq),
    a_map_str := a_map_str,
    d_map_str := (PySem.W.fnOf "__str__" "Map.__str__" (defArgs s_map_str) (defBody s_map_str) (defScope s_map_str) .none kV_map_str dc_map_str pm_map_str an_map_str cd_map_str ct_map_str),
    a_Ldeal := a_Ldeal,
    d_Ldeal := (PySem.W.fnOf "_law_deal" "_law_deal" (defArgs s_Ldeal) (defBody s_Ldeal) (defScope s_Ldeal) .none kV_Ldeal dc_Ldeal pm_Ldeal an_Ldeal cd_Ldeal ct_Ldeal),
    a_Ldraw := a_Ldraw,
    d_Ldraw := (PySem.W.fnOf "_law_draw" "_law_draw" (defArgs s_Ldraw) (defBody s_Ldraw) (defScope s_Ldraw) .none kV_Ldraw dc_Ldraw pm_Ldraw an_Ldraw cd_Ldraw ct_Ldraw),
    a_Lpick := a_Lpick,
    d_Lpick := (PySem.W.fnOf "_law_pick" "_law_pick" (defArgs s_Lpick) (defBody s_Lpick) (defScope s_Lpick) .none kV_Lpick dc_Lpick pm_Lpick an_Lpick cd_Lpick ct_Lpick),
    a_Lchart := a_Lchart,
    d_Lchart := (PySem.W.fnOf "_law_chart" "_law_chart" (defArgs s_Lchart) (defBody s_Lchart) (defScope s_Lchart) .none kV_Lchart dc_Lchart pm_Lchart an_Lchart cd_Lchart ct_Lchart),
    a_LmapW := a_LmapW,
    d_LmapW := (PySem.W.fnOf "_law_map_of" "_law_map_of" (defArgs s_LmapW) (defBody s_LmapW) (defScope s_LmapW) .none kV_LmapW dc_LmapW pm_LmapW an_LmapW cd_LmapW ct_LmapW),
    a_Lchart_of := a_Lchart_of,
    d_Lchart_of := (PySem.W.fnOf "_law_chart_of" "_law_chart_of" (defArgs s_Lchart_of) (defBody s_Lchart_of) (defScope s_Lchart_of) .none kV_Lchart_of dc_Lchart_of pm_Lchart_of an_Lchart_of cd_Lchart_of ct_Lchart_of),
    m_Map := PySem.W.mg_of X G hC_Map,
    cl_Map := ⟨pg_Map, hd_Map, po_Map, sa_Map⟩,
    na_Map_many := na_Map_many,
    na_Map_touches := na_Map_touches,
    own_Map := ⟨⟨pg_Map, hd_Map, po_Map, sa_Map⟩, oa_Map, on_Map, ot_Map, om_Map⟩,
    sf_Map := sf_Map,
    cr_Map := ⟨crd_Map, cga_Map⟩,
    C_PourError := C_PourError,
    m_PourError := PySem.W.mg_of X G hC_PourError,
    xcls_PourError := ⟨exC_PourError, dic_PourError, tyC_PourError, mro_PourError⟩,
    C_InvalidMap := C_InvalidMap,
    m_InvalidMap := PySem.W.mg_of X G hC_InvalidMap,
    xcls_InvalidMap := ⟨exC_InvalidMap, dic_InvalidMap, tyC_InvalidMap, mro_InvalidMap⟩,
    C_InvalidText := C_InvalidText,
    m_InvalidText := PySem.W.mg_of X G hC_InvalidText,
    xcls_InvalidText := ⟨exC_InvalidText, dic_InvalidText, tyC_InvalidText, mro_InvalidText⟩,
    C_NoCell := C_NoCell,
    m_NoCell := PySem.W.mg_of X G hC_NoCell,
    xcls_NoCell := ⟨exC_NoCell, dic_NoCell, tyC_NoCell, mro_NoCell⟩,
    f_InvalidMap := f_InvalidMap,
    cc_InvalidMap := cc_InvalidMap,
    cda_InvalidMap := cda_InvalidMap,
    fd_InvalidMap := (PySem.W.ksFn "__init__" "InvalidMap.__init__" (defArgs s_InvalidMap) (defBody s_InvalidMap) (defScope s_InvalidMap) .none kV_InvalidMap doc_InvalidMap pm_InvalidMap an_InvalidMap (.ref cda_InvalidMap) ct_InvalidMap cc_InvalidMap),
    exc_InvalidMap := ⟨exb_value, ei_InvalidMap, eo_InvalidMap, dic_InvalidMap, sa_InvalidMap, exC_InvalidMap, sub_InvalidMap_ValueError, tyC_InvalidMap, kC_InvalidMap⟩,
    su_InvalidMap := ⟨⟨_, rfl, rfl⟩, ⟨_, _, _, _, _, _, lcd_InvalidMap, vs2_InvalidMap, fil_InvalidMap⟩, ⟨_, _, _, lcc_InvalidMap⟩, clsIn_of dic_InvalidMap, mro_InvalidMap, PySem.W.mg_none_of X G h_super, by decide +kernel, by decide +kernel, by decide +kernel, h_top, h_opq⟩,
    fs_InvalidMap := ⟨⟨_, _, _, _, _, _, _, _, _, rfl, hlf_InvalidMap⟩, cod_InvalidMap⟩,
    ms_InvalidMap := ms_InvalidMap,
    tk_InvalidMap := tk_InvalidMap,
    ini_InvalidMap := ini_InvalidMap,
    ty_InvalidMap := ty_InvalidMap,
    bi_InvalidMap := .all fun us hl => match us, hl with | [_, _], _ => rfl,
    xf_InvalidMap := ⟨ga_InvalidMap, gg_InvalidMap, exC_InvalidMap, dic_InvalidMap⟩,
    nx_InvalidMap_word := nx_InvalidMap,
    ec_InvalidMap := ⟨ga_InvalidMap, gg_InvalidMap, exC_InvalidMap, dic_InvalidMap, cls_InvalidMap, h_cget, h_ctk, mo_InvalidMap⟩,
    sub_InvalidMap_PourError := sub_InvalidMap_PourError,
    sub_InvalidMap_InvalidMap := sub_InvalidMap_InvalidMap,
    sub_InvalidMap_InvalidText := sub_InvalidMap_InvalidText,
    sub_InvalidMap_NoCell := sub_InvalidMap_NoCell,
    sub_InvalidMap_ValueError := sub_InvalidMap_ValueError,
    sub_InvalidMap_IndexError := sub_InvalidMap_IndexError,
    f_InvalidText := f_InvalidText,
    cc_InvalidText := cc_InvalidText,
    cda_InvalidText := cda_InvalidText,
    fd_InvalidText := (PySem.W.ksFn "__init__" "InvalidText.__init__" (defArgs s_InvalidText) (defBody s_InvalidText) (defScope s_InvalidText) .none kV_InvalidText doc_InvalidText pm_InvalidText an_InvalidText (.ref cda_InvalidText) ct_InvalidText cc_InvalidText),
    exc_InvalidText := ⟨exb_value, ei_InvalidText, eo_InvalidText, dic_InvalidText, sa_InvalidText, exC_InvalidText, sub_InvalidText_ValueError, tyC_InvalidText, kC_InvalidText⟩,
    su_InvalidText := ⟨⟨_, rfl, rfl⟩, ⟨_, _, _, _, _, _, lcd_InvalidText, vs2_InvalidText, fil_InvalidText⟩, ⟨_, _, _, lcc_InvalidText⟩, clsIn_of dic_InvalidText, mro_InvalidText, PySem.W.mg_none_of X G h_super, by decide +kernel, by decide +kernel, by decide +kernel, h_top, h_opq⟩,
    fs_InvalidText := ⟨⟨_, _, _, _, _, _, _, _, _, rfl, hlf_InvalidText⟩, cod_InvalidText⟩,
    ms_InvalidText := ms_InvalidText,
    tk_InvalidText := tk_InvalidText,
    ini_InvalidText := ini_InvalidText,
    ty_InvalidText := ty_InvalidText,
    bi_InvalidText := .all fun us hl => match us, hl with | [_, _], _ => rfl,
    xf_InvalidText := ⟨ga_InvalidText, gg_InvalidText, exC_InvalidText, dic_InvalidText⟩,
    nx_InvalidText_at := nx_InvalidText,
    ec_InvalidText := ⟨ga_InvalidText, gg_InvalidText, exC_InvalidText, dic_InvalidText, cls_InvalidText, h_cget, h_ctk, mo_InvalidText⟩,
    sub_InvalidText_PourError := sub_InvalidText_PourError,
    sub_InvalidText_InvalidMap := sub_InvalidText_InvalidMap,
    sub_InvalidText_InvalidText := sub_InvalidText_InvalidText,
    sub_InvalidText_NoCell := sub_InvalidText_NoCell,
    sub_InvalidText_ValueError := sub_InvalidText_ValueError,
    sub_InvalidText_IndexError := sub_InvalidText_IndexError,
    f_NoCell := f_NoCell,
    cc_NoCell := cc_NoCell,
    cda_NoCell := cda_NoCell,
    fd_NoCell := (PySem.W.ksFn "__init__" "NoCell.__init__" (defArgs s_NoCell) (defBody s_NoCell) (defScope s_NoCell) .none kV_NoCell doc_NoCell pm_NoCell an_NoCell (.ref cda_NoCell) ct_NoCell cc_NoCell),
    exc_NoCell := ⟨exb_index, ei_NoCell, eo_NoCell, dic_NoCell, sa_NoCell, exC_NoCell, sub_NoCell_IndexError, tyC_NoCell, kC_NoCell⟩,
    su_NoCell := ⟨⟨_, rfl, rfl⟩, ⟨_, _, _, _, _, _, lcd_NoCell, vs2_NoCell, fil_NoCell⟩, ⟨_, _, _, lcc_NoCell⟩, clsIn_of dic_NoCell, mro_NoCell, PySem.W.mg_none_of X G h_super, by decide +kernel, by decide +kernel, by decide +kernel, h_top, h_opq⟩,
    fs_NoCell := ⟨⟨_, _, _, _, _, _, _, _, _, rfl, hlf_NoCell⟩, cod_NoCell⟩,
    ms_NoCell := ms_NoCell,
    tk_NoCell := tk_NoCell,
    ini_NoCell := ini_NoCell,
    ty_NoCell := ty_NoCell,
    bi_NoCell := .all fun us hl => match us, hl with | [_, _], _ => rfl,
    xf_NoCell := ⟨ga_NoCell, gg_NoCell, exC_NoCell, dic_NoCell⟩,
    nx_NoCell_cell := nx_NoCell,
    ec_NoCell := ⟨ga_NoCell, gg_NoCell, exC_NoCell, dic_NoCell, cls_NoCell, h_cget, h_ctk, mo_NoCell⟩,
    sub_NoCell_PourError := sub_NoCell_PourError,
    sub_NoCell_InvalidMap := sub_NoCell_InvalidMap,
    sub_NoCell_InvalidText := sub_NoCell_InvalidText,
    sub_NoCell_NoCell := sub_NoCell_NoCell,
    sub_NoCell_ValueError := sub_NoCell_ValueError,
    sub_NoCell_IndexError := sub_NoCell_IndexError,
    F_is_integer := F_is_integer,
    b_is_integer := bb_is_integer,
    m_is_integer := PySem.W.mg_of X G ha_is_integer,
    F_is_sequence := F_is_sequence,
    b_is_sequence := bb_is_sequence,
    m_is_sequence := PySem.W.mg_of X G ha_is_sequence,
    F_number_of := F_number_of,
    b_number_of := bb_number_of,
    m_number_of := PySem.W.mg_of X G ha_number_of,
    F_ordered_pair := F_ordered_pair,
    b_ordered_pair := bb_ordered_pair,
    m_ordered_pair := PySem.W.mg_of X G ha_ordered_pair,
    F_is_touch := F_is_touch,
    b_is_touch := bb_is_touch,
    m_is_touch := PySem.W.mg_of X G ha_is_touch,
    F_ordered_touches := F_ordered_touches,
    b_ordered_touches := bb_ordered_touches,
    m_ordered_touches := PySem.W.mg_of X G ha_ordered_touches,
    F_touch_in := F_touch_in,
    b_touch_in := bb_touch_in,
    m_touch_in := PySem.W.mg_of X G ha_touch_in,
    F_map_in := F_map_in,
    b_map_in := bb_map_in,
    m_map_in := PySem.W.mg_of X G ha_map_in,
    e0_map_init := e0_map_init,
    nt0_map_init := ⟨_, _, het0_map_init, rfl, rfl⟩,
    F_map_init := F_map_init,
    v1_map_init := v1_map_init,
    b1_map_init := ⟨bb1_map_init, vv1_map_init⟩,
    b_map_init := bb0_map_init,
    mk_Map := ⟨mk_Map, ha_map_init, hi_map_init, kc_Map⟩,
    F_map_read := F_map_read,
    b_map_read := bb_map_read,
    p_map_read := p_map_read,
    cm_map_read := ⟨ha_map_read, ⟨_, hrc_map_read⟩, hfi_map_read⟩,
    F_map_len := F_map_len,
    b_map_len := bb_map_len,
    mt_map_len := ⟨ha_map_len, hi_map_len, hk_map_len⟩,
    F_map_eq := F_map_eq,
    b_map_eq := bb_map_eq,
    mt_map_eq := ⟨ha_map_eq, hi_map_eq, hk_map_eq⟩,
    ne_Map := ⟨hne_Map, hno_Map⟩,
    eq_Map := ⟨ha_map_eq, hi_map_eq⟩,
    F_map_str := F_map_str,
    b_map_str := bb_map_str,
    mt_map_str := ⟨ha_map_str, hi_map_str, hk_map_str⟩,
    F_Ldeal := F_Ldeal,
    b_Ldeal := bb_Ldeal,
    m_Ldeal := PySem.W.mg_of X G ha_Ldeal,
    F_Ldraw := F_Ldraw,
    b_Ldraw := bb_Ldraw,
    m_Ldraw := PySem.W.mg_of X G ha_Ldraw,
    F_Lpick := F_Lpick,
    b_Lpick := bb_Lpick,
    m_Lpick := PySem.W.mg_of X G ha_Lpick,
    F_Lchart := F_Lchart,
    b_Lchart := bb_Lchart,
    m_Lchart := PySem.W.mg_of X G ha_Lchart,
    F_LmapW := F_LmapW,
    b_LmapW := bb_LmapW,
    m_LmapW := PySem.W.mg_of X G ha_LmapW,
    F_Lchart_of := F_Lchart_of,
    b_Lchart_of := bb_Lchart_of,
    m_Lchart_of := PySem.W.mg_of X G ha_Lchart_of,
    b_abs := PySem.W.mg_none_of X G hb_abs,
    b_all := PySem.W.mg_none_of X G hb_all,
    b_bool := PySem.W.mg_none_of X G hb_bool,
    b_enumerate := PySem.W.mg_none_of X G hb_enumerate,
    b_int := PySem.W.mg_none_of X G hb_int,
    b_isinstance := PySem.W.mg_none_of X G hb_isinstance,
    b_len := PySem.W.mg_none_of X G hb_len,
    b_list := PySem.W.mg_none_of X G hb_list,
    b_range := PySem.W.mg_none_of X G hb_range,
    b_repr := PySem.W.mg_none_of X G hb_repr,
    b_sorted := PySem.W.mg_none_of X G hb_sorted,
    b_str := PySem.W.mg_none_of X G hb_str,
    b_tuple := PySem.W.mg_none_of X G hb_tuple,
    gk_DIGITS := gk_DIGITS,
    g_DIGITS := PySem.W.mg_of X G hg_DIGITS,
    gk_MOST_FIGURES := gk_MOST_FIGURES,
    g_MOST_FIGURES := PySem.W.mg_of X G hg_MOST_FIGURES}
  exact ⟨(PySem.W.fnOf "law" "law" (defArgs s_law) (defBody s_law) (defScope s_law) .none kV_law dc_law pm_law an_law cd_law ct_law), fun s v => .of_eq rfl, fun base _ _ => ok_law F_law T⟩
end DP
open PySem PySem.W PyProof.Rows
set_option maxRecDepth 100000 in
set_option maxHeartbeats 0 in
theorem PySem.Challenge.cw_pourmaps_k10_texts_of_maps_holds : PySem.Challenge.rw_pourmaps_k10_texts_of_maps.Holds := by
  w_on; o_law; k_head; (case hw => w_witness2)
  k_fill
  refine DP.walkG (l := PySem.Challenge.rw_pourmaps_k10_texts_of_maps) (n := 63) (k := 7) (x := "_law_script") (sp := fun K => DP.lift K DP.spLaw) rfl (by decide) rfl ⟨rfl, by decide, by decide⟩ (fun w h Y => PySem.W.kIn_of Y) ?F (fun K H a ns hl _ hS => DP.law_lift hl hS)
  case F =>
    intro w mg fa h KX G hmg
    refine' DP.all_mk KX G hmg ?hC_Map ?pg_Map ?hd_Map ?po_Map ?sa_Map ?crd_Map ?cga_Map ?na_Map_many ?na_Map_touches ?sf_Map ?oa_Map ?on_Map ?ot_Map ?om_Map ?hC_PourError ?exC_PourError ?dic_PourError ?tyC_PourError ?mro_PourError ?hC_InvalidMap ?exC_InvalidMap ?dic_InvalidMap ?tyC_InvalidMap ?mro_InvalidMap ?hC_InvalidText ?exC_InvalidText ?dic_InvalidText ?tyC_InvalidText ?mro_InvalidText ?hC_NoCell ?exC_NoCell ?dic_NoCell ?tyC_NoCell ?mro_NoCell ?h_super ?h_top ?h_opq ?h_cget ?h_ctk ?ini_InvalidMap ?hlf_InvalidMap ?cod_InvalidMap ?lcd_InvalidMap ?vs2_InvalidMap ?fil_InvalidMap ?lcc_InvalidMap ?ei_InvalidMap ?eo_InvalidMap ?sa_InvalidMap ?sub_InvalidMap_ValueError ?sub_InvalidMap_IndexError ?sub_InvalidMap_PourError ?sub_InvalidMap_InvalidMap ?sub_InvalidMap_InvalidText ?sub_InvalidMap_NoCell ?kC_InvalidMap ?ms_InvalidMap ?tk_InvalidMap ?ty_InvalidMap ?ga_InvalidMap ?gg_InvalidMap ?nx_InvalidMap ?cls_InvalidMap ?mo_InvalidMap ?ini_InvalidText ?hlf_InvalidText ?cod_InvalidText ?lcd_InvalidText ?vs2_InvalidText ?fil_InvalidText ?lcc_InvalidText ?ei_InvalidText ?eo_InvalidText ?sa_InvalidText ?sub_InvalidText_ValueError ?sub_InvalidText_IndexError ?sub_InvalidText_PourError ?sub_InvalidText_InvalidMap ?sub_InvalidText_InvalidText ?sub_InvalidText_NoCell ?kC_InvalidText ?ms_InvalidText ?tk_InvalidText ?ty_InvalidText ?ga_InvalidText ?gg_InvalidText ?nx_InvalidText ?cls_InvalidText ?mo_InvalidText ?ini_NoCell ?hlf_NoCell ?cod_NoCell ?lcd_NoCell ?vs2_NoCell ?fil_NoCell ?lcc_NoCell ?ei_NoCell ?eo_NoCell ?sa_NoCell ?sub_NoCell_ValueError ?sub_NoCell_IndexError ?sub_NoCell_PourError ?sub_NoCell_InvalidMap ?sub_NoCell_InvalidText ?sub_NoCell_NoCell ?kC_NoCell ?ms_NoCell ?tk_NoCell ?ty_NoCell ?ga_NoCell ?gg_NoCell ?nx_NoCell ?cls_NoCell ?mo_NoCell ?ha_is_integer ?hl_is_integer ?hc_is_integer ?hk_is_integer ?ha_is_sequence ?hl_is_sequence ?hc_is_sequence ?hk_is_sequence ?ha_number_of ?hl_number_of ?hc_number_of ?hk_number_of ?ha_ordered_pair ?hl_ordered_pair ?hc_ordered_pair ?hk_ordered_pair ?ha_is_touch ?hl_is_touch ?hc_is_touch ?hk_is_touch ?ha_ordered_touches ?hl_ordered_touches ?hc_ordered_touches ?hk_ordered_touches ?ha_touch_in ?hl_touch_in ?hc_touch_in ?hk_touch_in ?ha_map_in ?hl_map_in ?hc_map_in ?hk_map_in ?ha_map_init ?hi_map_init ?mk_Map ?kc_Map ?hl_map_init ?hc_map_init ?hk_map_init ?ht_map_init ?het0_map_init ?ha_map_read ?hrc_map_read ?hfi_map_read ?hl_map_read ?hc_map_read ?hk_map_read ?ha_map_len ?hi_map_len ?hl_map_len ?hc_map_len ?hk_map_len ?ha_map_eq ?hi_map_eq ?hne_Map ?hno_Map ?hl_map_eq ?hc_map_eq ?hk_map_eq ?ha_map_str ?hi_map_str ?hl_map_str ?hc_map_str ?hk_map_str ?ha_Ldeal ?hl_Ldeal ?hc_Ldeal ?hk_Ldeal ?ha_Ldraw ?hl_Ldraw ?hc_Ldraw ?hk_Ldraw ?ha_Lpick ?hl_Lpick ?hc_Lpick ?hk_Lpick ?ha_Lchart ?hl_Lchart ?hc_Lchart ?hk_Lchart ?ha_LmapW ?hl_LmapW ?hc_LmapW ?hk_LmapW ?ha_Lchart_of ?hl_Lchart_of ?hc_Lchart_of ?hk_Lchart_of ?ha_law ?hl_law ?hc_law ?hk_law ?hb_abs ?hb_all ?hb_bool ?hb_enumerate ?hb_int ?hb_isinstance ?hb_len ?hb_list ?hb_range ?hb_repr ?hb_sorted ?hb_str ?hb_tuple ?hg_DIGITS ?hg_MOST_FIGURES
    (case hC_Map => k_is)
    (case pg_Map => k_is)
    (case hd_Map => k_is)
    (case po_Map => k_is)
    (case sa_Map => k_is)
    (case crd_Map => k_is)
    (case cga_Map => k_is)
    (case na_Map_many => k_is)
    (case na_Map_touches => k_is)
    (case sf_Map => k_is)
    (case oa_Map => k_is)
    (case on_Map => k_is)
    (case ot_Map => k_is)
    (case om_Map => k_is)
    (case hC_PourError => k_is)
    (case exC_PourError => k_is)
    (case dic_PourError => k_is)
    (case tyC_PourError => k_is)
    (case mro_PourError => k_is)
    (case hC_InvalidMap => k_is)
    (case exC_InvalidMap => k_is)
    (case dic_InvalidMap => k_is)
    (case tyC_InvalidMap => k_is)
    (case mro_InvalidMap => k_is)
    (case hC_InvalidText => k_is)
    (case exC_InvalidText => k_is)
    (case dic_InvalidText => k_is)
    (case tyC_InvalidText => k_is)
    (case mro_InvalidText => k_is)
    (case hC_NoCell => k_is)
    (case exC_NoCell => k_is)
    (case dic_NoCell => k_is)
    (case tyC_NoCell => k_is)
    (case mro_NoCell => k_is)
    (case h_super => k_is)
    (case h_top => decide +kernel)
    (case h_opq => k_is)
    (case h_cget => k_is)
    (case h_ctk => k_is)
    (case ini_InvalidMap => k_is)
    (case hlf_InvalidMap => k_is)
    (case cod_InvalidMap => k_is)
    (case lcd_InvalidMap => k_is)
    (case vs2_InvalidMap => exact rfl)
    (case fil_InvalidMap => exact rfl)
    (case lcc_InvalidMap => k_is)
    (case ei_InvalidMap => kx_is)
    (case eo_InvalidMap => kx_is)
    (case sa_InvalidMap => k_is)
    (case sub_InvalidMap_ValueError => k_is)
    (case sub_InvalidMap_IndexError => k_is)
    (case sub_InvalidMap_PourError => k_is)
    (case sub_InvalidMap_InvalidMap => k_is)
    (case sub_InvalidMap_InvalidText => k_is)
    (case sub_InvalidMap_NoCell => k_is)
    (case kC_InvalidMap => k_is)
    (case ms_InvalidMap => ks_is)
    (case tk_InvalidMap => k_is)
    (case ty_InvalidMap => k_is)
    (case ga_InvalidMap => k_is)
    (case gg_InvalidMap => k_is)
    (case nx_InvalidMap => k_is)
    (case cls_InvalidMap => k_is)
    (case mo_InvalidMap => k_is)
    (case ini_InvalidText => k_is)
    (case hlf_InvalidText => k_is)
    (case cod_InvalidText => k_is)
    (case lcd_InvalidText => k_is)
    (case vs2_InvalidText => exact rfl)
    (case fil_InvalidText => exact rfl)
    (case lcc_InvalidText => k_is)
    (case ei_InvalidText => kx_is)
    (case eo_InvalidText => kx_is)
    (case sa_InvalidText => k_is)
    (case sub_InvalidText_ValueError => k_is)
    (case sub_InvalidText_IndexError => k_is)
    (case sub_InvalidText_PourError => k_is)
    (case sub_InvalidText_InvalidMap => k_is)
    (case sub_InvalidText_InvalidText => k_is)
    (case sub_InvalidText_NoCell => k_is)
    (case kC_InvalidText => k_is)
    (case ms_InvalidText => ks_is)
    (case tk_InvalidText => k_is)
    (case ty_InvalidText => k_is)
    (case ga_InvalidText => k_is)
    (case gg_InvalidText => k_is)
    (case nx_InvalidText => k_is)
    (case cls_InvalidText => k_is)
    (case mo_InvalidText => k_is)
    (case ini_NoCell => k_is)
    (case hlf_NoCell => k_is)
    (case cod_NoCell => k_is)
    (case lcd_NoCell => k_is)
    (case vs2_NoCell => exact rfl)
    (case fil_NoCell => exact rfl)
    (case lcc_NoCell => k_is)
    (case ei_NoCell => kx_is)
    (case eo_NoCell => kx_is)
    (case sa_NoCell => k_is)
    (case sub_NoCell_ValueError => k_is)
    (case sub_NoCell_IndexError => k_is)
    (case sub_NoCell_PourError => k_is)
    (case sub_NoCell_InvalidMap => k_is)
    (case sub_NoCell_InvalidText => k_is)
    (case sub_NoCell_NoCell => k_is)
    (case kC_NoCell => k_is)
    (case ms_NoCell => ks_is)
    (case tk_NoCell => k_is)
    (case ty_NoCell => k_is)
    (case ga_NoCell => k_is)
    (case gg_NoCell => k_is)
    (case nx_NoCell => k_is)
    (case cls_NoCell => k_is)
    (case mo_NoCell => k_is)
    (case ha_is_integer => k_is)
    (case hl_is_integer => k_is)
    (case hc_is_integer => k_is)
    (case hk_is_integer => k_is)
    (case ha_is_sequence => k_is)
    (case hl_is_sequence => k_is)
    (case hc_is_sequence => k_is)
    (case hk_is_sequence => k_is)
    (case ha_number_of => k_is)
    (case hl_number_of => k_is)
    (case hc_number_of => k_is)
    (case hk_number_of => k_is)
    (case ha_ordered_pair => k_is)
    (case hl_ordered_pair => k_is)
    (case hc_ordered_pair => k_is)
    (case hk_ordered_pair => k_is)
    (case ha_is_touch => k_is)
    (case hl_is_touch => k_is)
    (case hc_is_touch => k_is)
    (case hk_is_touch => k_is)
    (case ha_ordered_touches => k_is)
    (case hl_ordered_touches => k_is)
    (case hc_ordered_touches => k_is)
    (case hk_ordered_touches => k_is)
    (case ha_touch_in => k_is)
    (case hl_touch_in => k_is)
    (case hc_touch_in => k_is)
    (case hk_touch_in => k_is)
    (case ha_map_in => k_is)
    (case hl_map_in => k_is)
    (case hc_map_in => k_is)
    (case hk_map_in => k_is)
    (case ha_map_init => k_is)
    (case hi_map_init => k_is)
    (case mk_Map => k_is)
    (case kc_Map => k_is)
    (case hl_map_init => k_is)
    (case hc_map_init => k_is)
    (case hk_map_init => k_is)
    (case ht_map_init => k_is)
    (case het0_map_init => k_is)
    (case ha_map_read => k_is)
    (case hrc_map_read => k_is)
    (case hfi_map_read => k_is)
    (case hl_map_read => k_is)
    (case hc_map_read => k_is)
    (case hk_map_read => k_is)
    (case ha_map_len => k_is)
    (case hi_map_len => k_is)
    (case hl_map_len => k_is)
    (case hc_map_len => k_is)
    (case hk_map_len => k_is)
    (case ha_map_eq => k_is)
    (case hi_map_eq => k_is)
    (case hne_Map => k_is)
    (case hno_Map => k_is)
    (case hl_map_eq => k_is)
    (case hc_map_eq => k_is)
    (case hk_map_eq => k_is)
    (case ha_map_str => k_is)
    (case hi_map_str => k_is)
    (case hl_map_str => k_is)
    (case hc_map_str => k_is)
    (case hk_map_str => k_is)
    (case ha_Ldeal => k_is)
    (case hl_Ldeal => k_is)
    (case hc_Ldeal => k_is)
    (case hk_Ldeal => k_is)
    (case ha_Ldraw => k_is)
    (case hl_Ldraw => k_is)
    (case hc_Ldraw => k_is)
    (case hk_Ldraw => k_is)
    (case ha_Lpick => k_is)
    (case hl_Lpick => k_is)
    (case hc_Lpick => k_is)
    (case hk_Lpick => k_is)
    (case ha_Lchart => k_is)
    (case hl_Lchart => k_is)
    (case hc_Lchart => k_is)
    (case hk_Lchart => k_is)
    (case ha_LmapW => k_is)
    (case hl_LmapW => k_is)
    (case hc_LmapW => k_is)
    (case hk_LmapW => k_is)
    (case ha_Lchart_of => k_is)
    (case hl_Lchart_of => k_is)
    (case hc_Lchart_of => k_is)
    (case hk_Lchart_of => k_is)
    (case ha_law => k_is)
    (case hl_law => k_is)
    (case hc_law => k_is)
    (case hk_law => k_is)
    (case hb_abs => k_is)
    (case hb_all => k_is)
    (case hb_bool => k_is)
    (case hb_enumerate => k_is)
    (case hb_int => k_is)
    (case hb_isinstance => k_is)
    (case hb_len => k_is)
    (case hb_list => k_is)
    (case hb_range => k_is)
    (case hb_repr => k_is)
    (case hb_sorted => k_is)
    (case hb_str => k_is)
    (case hb_tuple => k_is)
    (case hg_DIGITS => k_is)
    (case hg_MOST_FIGURES => k_is)
