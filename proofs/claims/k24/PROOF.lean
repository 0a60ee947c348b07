import PyProof.Rows.All
import Wide.All
import OpenK.AllK
import Wide.FinOn
import HandS.ForMost
import HandS.ForExc
import HandS.Wide
import HandS.More
import HandS.Deep
import HandS.SortKw
import HandS.IsInst
import HandS.Style
import HandS.TupLen
import HandS.Flow
import HandS.Conv
import HandS.Walk
import HandS.Head0
import HandS.Head1
import HandS.Head2
import HandS.HeadEnd
import HandS.HeadHook1
import HandS.HeadHook2
import HandS.Defaults
import PyProof.Rows.RuleB_pow
import PyProof.Rows.IntMath
import KE.SortCalls
import KE.SortData
import HandS.Set
import HandS.SetFor
import HandS.Strs
import KE.SortKeyed
import HandS.Iter
import HandS.Keys
import KE.OsArgs
import HandS.TryOnly
import PySem.Challenge.RW_keptreading_k24_rows_behind_a_put
set_option Elab.async false
set_option linter.all false
set_option maxRecDepth 100000
set_option maxHeartbeats 4000000
/-! An abstract state over the layer: data as trees (AV), what is changed as objects by address (Gam), the slots (Del). -/
namespace Ab
open PySem L2

inductive AV where
  | non | bl (b : Bool) | int (i : Int) | str (x : Str) | lst (xs : List AV) | rol (xs : List AV) | tup (xs : List AV) | ptr (a : Addr) | ty (n : String)
inductive AO where
  | lst (xs : List AV) | dK (kvs : List (Key × AV)) | dT (kvs : List (List Key × AV)) | ins (C : Addr) (fs : List (Str × AV))
  /-- a dict that a loop walks -/
  | fK (o : Obj) (l : List (Key × V)) (kvs : List (Key × AV)) | fT (o : Obj) (l : List (List Key × V)) (kvs : List (List Key × AV))
abbrev Gam := List (Addr × AO)
abbrev Del := List (Option AV)

section
variable (K : PySem.W.Frag) (F : Hp)
mutual
inductive Rp : V → AV → Prop
  | non : Rp .non .non
  | bl (b : Bool) : Rp (.bl b) (.bl b)
  | int (i : Int) : Rp (.int i) (.int i)
  | str (x : Str) : Rp (.str x) (.str x)
  | ty (n : String) : Rp (.ty n) (.ty n)
  | ptr (a : Addr) : Rp (.ref a) (.ptr a)
  | lst {a : Addr} {xs : List V} {ds : List AV} : F a = some (.lst xs) → Rps xs ds → Rp (.ref a) (.lst ds)
  | rol {a : Addr} {xs : List V} {ds : List AV} : SqL K F a xs → Rps xs ds → Rp (.ref a) (.rol ds)
  | tup {a : Addr} {xs : List V} {ds : List AV} : F a = some (.tup xs) → Rps xs ds → Rp (.ref a) (.tup ds)
inductive Rps : List V → List AV → Prop
  | nil : Rps [] []
  | cons {v : V} {vs : List V} {d : AV} {ds : List AV} : Rp v d → Rps vs ds → Rps (v :: vs) (d :: ds)
end
end

theorem same_rd {H H' : Hp} {a : Addr} {u : HO} (e : Same H H') (h : Rd H a u) : Rd H' a u := by
  rcases h with h | ⟨o, h⟩
  · exact .inl (e _ _ h)
  · exact .inr ⟨o, e _ _ h⟩
theorem same_t {K : PySem.W.Frag} {H H' : Hp} {a : Addr} {xs : List V} (e : Same H H') (h : SqT K H a xs) : SqT K H' a xs := by
  rcases h with h | h
  · exact .inl (same_rd e h)
  · exact .inr h
theorem same_l {K : PySem.W.Frag} {H H' : Hp} {a : Addr} {xs : List V} (e : Same H H') (h : SqL K H a xs) : SqL K H' a xs := e.seq h
theorem same_new {H : Hp} {p : Addr} {o : HO} (h : H p = none) : Same H (upd H p o) := fun a u e => by
  rw [upd_ne (ne_of_none e h)]; exact e

section
variable {K : PySem.W.Frag} {F F' : Hp}
mutual
theorem Rp.mono (e : Same F F') : ∀ (d : AV) (v : V), Rp K F v d → Rp K F' v d
  | .non, v, h => by cases h; exact .non
  | .bl b, v, h => by cases h; exact .bl b
  | .int i, v, h => by cases h; exact .int i
  | .str x, v, h => by cases h; exact .str x
  | .ty n, v, h => by cases h; exact .ty n
  | .ptr a, v, h => by cases h; exact .ptr a
  | .lst ds, v, h => by
    cases h with
    | lst h1 h2 => exact .lst (e _ _ h1) (Rps.mono e ds _ h2)
  | .rol ds, v, h => by
    cases h with
    | rol h1 h2 => exact .rol (same_l e h1) (Rps.mono e ds _ h2)
  | .tup ds, v, h => by
    cases h with
    | tup h1 h2 => exact .tup (e _ _ h1) (Rps.mono e ds _ h2)
theorem Rps.mono (e : Same F F') : ∀ (ds : List AV) (vs : List V), Rps K F vs ds → Rps K F' vs ds
  | [], vs, h => by cases h; exact .nil
  | d :: ds, vs, h => by
    cases h with
    | cons h1 h2 => exact .cons (Rp.mono e d _ h1) (Rps.mono e ds _ h2)
end
theorem Rps.length : ∀ {vs : List V} {ds : List AV}, Rps K F vs ds → vs.length = ds.length
  | _, _, .nil => rfl
  | _, _, .cons _ t => congrArg (· + 1) (Rps.length t)
theorem Rps.get : ∀ {vs : List V} {ds : List AV} {i : Nat} {d : AV}, Rps K F vs ds → ds[i]? = some d → ∃ v, vs[i]? = some v ∧ Rp K F v d
  | _, _, _, _, .nil, e => by simp at e
  | _, _, 0, _, .cons r _, e => by simp at e; subst e; exact ⟨_, rfl, r⟩
  | _, _, i + 1, d, .cons _ t, e => by
    obtain ⟨u, h1, h2⟩ := Rps.get (i := i) (d := d) t (by simpa using e)
    exact ⟨u, by simpa using h1, h2⟩
theorem Rps.get2 : ∀ {vs : List V} {ds : List AV} {i : Nat} {v : V}, Rps K F vs ds → vs[i]? = some v → ∃ d, ds[i]? = some d ∧ Rp K F v d
  | _, _, _, _, .nil, e => by simp at e
  | _, _, 0, _, .cons r _, e => by simp at e; subst e; exact ⟨_, rfl, r⟩
  | _, _, i + 1, d, .cons _ t, e => by
    obtain ⟨u, h1, h2⟩ := Rps.get2 (i := i) (v := d) t (by simpa using e)
    exact ⟨u, by simpa using h1, h2⟩
theorem Rps.set {x : V} {u : AV} (r : Rp K F x u) : ∀ {xs : List V} {us : List AV} (i : Nat), Rps K F xs us → Rps K F (xs.set i x) (us.set i u)
  | _, _, _, .nil => .nil
  | _, _, 0, .cons _ t => .cons r t
  | _, _, i + 1, .cons q t => .cons q (Rps.set r i t)
theorem Rps.append : ∀ {xs ys : List V} {us ws : List AV}, Rps K F xs us → Rps K F ys ws → Rps K F (xs ++ ys) (us ++ ws)
  | _, _, _, _, .nil, s => s
  | _, _, _, _, .cons r t, s => .cons r (Rps.append t s)
theorem Rps.take : ∀ {xs : List V} {us : List AV} (n : Nat), Rps K F xs us → Rps K F (xs.take n) (us.take n)
  | _, _, 0, _ => .nil
  | _, _, _ + 1, .nil => .nil
  | _, _, n + 1, .cons r t => .cons r (Rps.take n t)
theorem Rps.drop : ∀ {xs : List V} {us : List AV} (n : Nat), Rps K F xs us → Rps K F (xs.drop n) (us.drop n)
  | _, _, 0, r => r
  | _, _, _ + 1, .nil => .nil
  | _, _, n + 1, .cons _ t => Rps.drop n t
theorem Rps.reverse {xs : List V} {us : List AV} (r : Rps K F xs us) : Rps K F xs.reverse us.reverse := by
  induction xs generalizing us with
  | nil => cases r; exact .nil
  | cons x xs ih =>
    cases r with
    | cons h t =>
      rw [List.reverse_cons, List.reverse_cons]
      exact (ih t).append (.cons h .nil)
theorem Rps.insertIdx {x : V} {u : AV} (r : Rp K F x u) : ∀ {xs : List V} {us : List AV} (i : Nat), Rps K F xs us → Rps K F (xs.insertIdx i x) (us.insertIdx i u)
  | _, _, 0, t => by simp only [List.insertIdx_zero]; exact .cons r t
  | _, _, i + 1, .nil => by simp only [List.insertIdx_succ_nil]; exact .nil
  | _, _, i + 1, .cons q t => by simp only [List.insertIdx_succ_cons]; exact .cons q (Rps.insertIdx r i t)
theorem Rps.eraseIdx : ∀ {xs : List V} {us : List AV} (i : Nat), Rps K F xs us → Rps K F (xs.eraseIdx i) (us.eraseIdx i)
  | _, _, _, .nil => .nil
  | _, _, 0, .cons _ t => t
  | _, _, i + 1, .cons q t => .cons q (Rps.eraseIdx i t)
theorem Rps.dropLast {xs : List V} {us : List AV} (r : Rps K F xs us) : Rps K F xs.dropLast us.dropLast := by
  rw [List.dropLast_eq_take, List.dropLast_eq_take, r.length]
  exact r.take _

def KVr {κ : Type} (K : PySem.W.Frag) (F : Hp) : List (κ × V) → List (κ × AV) → Prop := Paired fun p q => p.1 = q.1 ∧ Rp K F p.2 q.2
theorem KVr.mono {κ : Type} (e : Same F F') {l : List (κ × V)} {m : List (κ × AV)} (h : KVr K F l m) : KVr K F' l m :=
  Paired.mapP h fun _ _ z => ⟨z.1, Rp.mono e _ _ z.2⟩
inductive RpO (K : PySem.W.Frag) (F : Hp) : HO → AO → Prop
  | lst {xs : List V} {ds : List AV} : Rps K F xs ds → RpO K F (.lst xs) (.lst ds)
  | dK {l : List (Key × V)} {m : List (Key × AV)} : KVr K F l m → RpO K F (.dK l) (.dK m)
  | dT {l : List (List Key × V)} {m : List (List Key × AV)} : KVr K F l m → RpO K F (.dT l) (.dT m)
  | ins {C dx : Addr} {l : List (Str × V)} {m : List (Str × AV)} : KVr K F l m → RpO K F (.ins C dx l) (.ins C m)
  | fK {o : Obj} {l : List (Key × V)} {m : List (Key × AV)} : KVr K F l m → RpO K F (.frz o (.dK l)) (.fK o l m)
  | fT {o : Obj} {l : List (List Key × V)} {m : List (List Key × AV)} : KVr K F l m → RpO K F (.frz o (.dT l)) (.fT o l m)
theorem RpO.mono (e : Same F F') {o : HO} {a : AO} (h : RpO K F o a) : RpO K F' o a := by
  cases h with
  | lst h => exact .lst (Rps.mono e _ _ h)
  | dK h => exact .dK (h.mono e)
  | dT h => exact .dT (h.mono e)
  | ins h => exact .ins (h.mono e)
  | fK h => exact .fK (h.mono e)
  | fT h => exact .fT (h.mono e)
theorem RpO.ntup {o : HO} {a : AO} (h : RpO K F o a) : ∀ xs, o ≠ .tup xs := by
  cases h <;> (intro xs z; cases z)
end

structure Gm (K : PySem.W.Frag) (F H : Hp) (Γ : Gam) : Prop where
  sub : Same F H
  tups : ∀ a xs, H a = some (.tup xs) → F a = some (.tup xs)
  nd : (Γ.map (·.1)).Nodup
  obj : ∀ a ao, (a, ao) ∈ Γ → F a = none ∧ ∃ o, H a = some o ∧ RpO K F o ao

section
variable {K : PySem.W.Frag} {F F' H H' : Hp} {Γ Γ' Θ : Gam} {a p : Addr} {ao : AO} {o : HO}
theorem Gm.at_ (g : Gm K F H Γ) {i : Nat} (h : Γ[i]? = some (a, ao)) : F a = none ∧ ∃ o, H a = some o ∧ RpO K F o ao := g.obj a ao (List.mem_of_getElem? h)
theorem Gm.new (g : Gm K F H Γ) (hp : H p = none) (r : RpO K F o ao) : Gm K F (upd H p o) ((p, ao) :: Γ) where
  sub := g.sub.trans (same_new hp)
  tups := fun b xs e => by
    by_cases hb : b = p
    · subst hb; rw [upd_same] at e; exact absurd (Option.some.inj e) (r.ntup xs)
    · rw [upd_ne hb] at e; exact g.tups b xs e
  nd := by
    rw [List.map_cons, List.nodup_cons]
    refine ⟨fun hm => ?_, g.nd⟩
    obtain ⟨⟨b, bo⟩, h1, h2⟩ := List.mem_map.mp hm
    obtain ⟨_, o', e, _⟩ := g.obj b bo h1
    have h2' : b = p := h2
    rw [h2', hp] at e; cases e
  obj := fun b bo hm => by
    rcases List.mem_cons.mp hm with e | hm
    · cases e
      refine ⟨?_, o, upd_same, r⟩
      cases q : F p with
      | none => rfl
      | some u => have := g.sub p u q; rw [hp] at this; cases this
    · obtain ⟨h1, o', e, r'⟩ := g.obj b bo hm
      exact ⟨h1, o', (same_new hp) b o' e, r'⟩
theorem Gm.froz (g : Gm K F H Γ) (hp : H p = none) : Same F (upd F p o) ∧ Gm K (upd F p o) (upd H p o) Γ := by
  have fp : F p = none := by
    cases q : F p with
    | none => rfl
    | some u => have := g.sub p u q; rw [hp] at this; cases this
  have s1 : Same F (upd F p o) := same_new fp
  refine ⟨s1, fun b u e => ?_, fun b xs e => ?_, g.nd, fun b bo hm => ?_⟩
  · by_cases hb : b = p
    · subst hb; rw [upd_same] at e ⊢; exact e
    · rw [upd_ne hb] at e ⊢; exact g.sub b u e
  · by_cases hb : b = p
    · subst hb; rw [upd_same] at e ⊢; exact e
    · rw [upd_ne hb] at e ⊢; exact g.tups b xs e
  · obtain ⟨h1, o', e, r'⟩ := g.obj b bo hm
    have hb : b ≠ p := ne_of_none e hp
    exact ⟨by rw [upd_ne hb]; exact h1, o', by rw [upd_ne hb]; exact e, r'.mono s1⟩
theorem nodup_set {l : Gam} {i : Nat} {x : Addr × AO} (h : l[i]? = some x) (y : AO) : (l.set i (x.1, y)).map (·.1) = l.map (·.1) := by
  rw [List.map_set]
  apply List.ext_getElem?
  intro j
  rw [List.getElem?_set]
  by_cases hij : i = j
  · subst hij
    rw [if_pos rfl, List.getElem?_map, h]
    obtain ⟨hl, _⟩ := List.getElem?_eq_some_iff.mp h
    rw [if_pos (by simpa using hl)]
    rfl
  · rw [if_neg hij]
theorem key_ix {l : Gam} (nd : (l.map (·.1)).Nodup) {i j : Nat} {a : Addr} {x y : AO} (h1 : l[i]? = some (a, x)) (h2 : l[j]? = some (a, y)) : i = j := by
  obtain ⟨b1, e1⟩ := List.getElem?_eq_some_iff.mp h1
  obtain ⟨b2, e2⟩ := List.getElem?_eq_some_iff.mp h2
  refine (List.getElem_inj (h₀ := by simpa using b1) (h₁ := by simpa using b2) nd).mp ?_
  rw [List.getElem_map, List.getElem_map, e1, e2]
theorem Gm.write (g : Gm K F H Γ) {i : Nat} {ao' : AO} {o' : HO} (h : Γ[i]? = some (a, ao)) (r : RpO K F o' ao') : Gm K F (upd H a o') (Γ.set i (a, ao')) where
  sub := fun b u e => by
    have hb : b ≠ a := by
      rintro rfl
      rw [(g.at_ h).1] at e; cases e
    rw [upd_ne hb]; exact g.sub b u e
  tups := fun b xs e => by
    by_cases hb : b = a
    · subst hb; rw [upd_same] at e; exact absurd (Option.some.inj e) (r.ntup xs)
    · rw [upd_ne hb] at e; exact g.tups b xs e
  nd := by
    have e := nodup_set h ao'
    have e' : (Γ.set i (a, ao')).map (·.1) = Γ.map (·.1) := e
    rw [e']; exact g.nd
  obj := fun b bo hm => by
    obtain ⟨j, hj⟩ := List.getElem?_of_mem hm
    rw [List.getElem?_set] at hj
    by_cases hij : i = j
    · rw [if_pos hij] at hj
      split at hj
      · cases hj
        exact ⟨(g.at_ h).1, o', upd_same, r⟩
      · cases hj
    · rw [if_neg hij] at hj
      obtain ⟨h1, o2, e, r'⟩ := g.at_ hj
      have hb : b ≠ a := by
        rintro rfl
        exact hij (key_ix g.nd h hj)
      exact ⟨h1, o2, by rw [upd_ne hb]; exact e, r'⟩
theorem Gm.sublist (g : Gm K F H Γ) (h : Γ'.Sublist Γ) : Gm K F H Γ' := ⟨g.sub, g.tups, g.nd.sublist (h.map _), fun b bo hm => g.obj b bo (h.subset hm)⟩
theorem Gm.perm (g : Gm K F H Γ) (h : Γ.Perm Γ') : Gm K F H Γ' := ⟨g.sub, g.tups, (h.map _).nodup_iff.mp g.nd, fun b bo hm => g.obj b bo (h.mem_iff.mpr hm)⟩
/-- a live list becomes data -/
theorem Gm.freeze {ds : List AV} (g : Gm K F H ((p, .lst ds) :: Γ)) : ∃ F', Same F F' ∧ Gm K F' H Γ ∧ Rp K F' (.ref p) (.lst ds) := by
  obtain ⟨h1, o, e, r⟩ := g.obj p _ List.mem_cons_self
  cases r with
  | @lst xs _ r =>
    have s1 : Same F (upd F p (.lst xs)) := same_new h1
    refine ⟨upd F p (.lst xs), s1, ⟨fun b u q => ?_, fun b ys q => ?_, ?_, fun b bo hm => ?_⟩, .lst upd_same (Rps.mono s1 _ _ r)⟩
    · by_cases hb : b = p
      · subst hb; rw [upd_same] at q; rw [← q]; exact e
      · rw [upd_ne hb] at q; exact g.sub b u q
    · have hb : b ≠ p := by
        rintro rfl
        rw [e] at q; cases q
      rw [upd_ne hb]; exact g.tups b ys q
    · have := g.nd
      rw [List.map_cons, List.nodup_cons] at this
      exact this.2
    · obtain ⟨h2, o2, e2, r2⟩ := g.obj b bo (List.mem_cons_of_mem _ hm)
      have hb : b ≠ p := by
        rintro rfl
        have := g.nd
        rw [List.map_cons, List.nodup_cons] at this
        exact this.1 (List.mem_map.mpr ⟨_, hm, rfl⟩)
      exact ⟨by rw [upd_ne hb]; exact h2, o2, e2, r2.mono s1⟩
end

def En (K : PySem.W.Frag) (F : Hp) (σ : L2.St) (δ : Del) : Prop := σ.length = δ.length ∧ ∀ (i : Nat) (av : AV), δ[i]? = some (some av) → ∃ v, σ[i]? = some (some v) ∧ Rp K F v av
section
variable {K : PySem.W.Frag} {F F' H H' : Hp} {σ : L2.St} {δ : Del}
theorem En.mono (e : Same F F') (h : En K F σ δ) : En K F' σ δ := ⟨h.1, fun i av q => let ⟨v, q1, q2⟩ := h.2 i av q; ⟨v, q1, Rp.mono e _ _ q2⟩⟩
theorem En.set {v : V} {av : AV} (h : En K F σ δ) (r : Rp K F v av) (i : Nat) : En K F (σ.set i (some v)) (δ.set i (some av)) := by
  refine ⟨by simpa using h.1, fun j bv q => ?_⟩
  rw [List.getElem?_set] at q ⊢
  by_cases hij : i = j
  · subst hij
    rw [if_pos rfl] at q ⊢
    by_cases hl : i < δ.length
    · rw [if_pos hl] at q; cases q
      rw [if_pos (by rw [h.1]; exact hl)]
      exact ⟨v, rfl, r⟩
    · rw [if_neg hl] at q; cases q
  · rw [if_neg hij] at q ⊢
    exact h.2 j bv q
def wipeA (δ : Del) : List Nat → Del
  | [] => δ
  | v :: vs => (wipeA δ vs).set v none
theorem En.clear (h : En K F σ δ) (i : Nat) : En K F (σ.set i none) (δ.set i none) := by
  refine ⟨by simpa using h.1, fun j bv q => ?_⟩
  rw [List.getElem?_set] at q ⊢
  by_cases hij : i = j
  · subst hij
    rw [if_pos rfl] at q
    split at q <;> cases q
  · rw [if_neg hij] at q ⊢
    exact h.2 j bv q
theorem En.wipe (h : En K F σ δ) : ∀ vs : List Nat, En K F (wipe σ vs) (wipeA δ vs)
  | [] => h
  | v :: vs => (h.wipe vs).clear v
theorem En.forget (h : En K F σ δ) {δ' : Del} (hl : δ'.length = δ.length) (hs : ∀ (i : Nat) av, δ'[i]? = some (some av) → δ[i]? = some (some av)) : En K F σ δ' :=
  ⟨h.1.trans hl.symm, fun i av q => h.2 i av (hs i av q)⟩
end

/-! ### judgements -/
def PoE (K : PySem.W.Frag) (F : Hp) (Θ : Gam) (Φ : AV → Gam → Prop) (v : V) (H' : Hp) : Prop := ∃ F' av Γ', Same F F' ∧ Gm K F' H' (Γ' ++ Θ) ∧ Rp K F' v av ∧ Φ av Γ'
def PoA (K : PySem.W.Frag) (F : Hp) (Θ : Gam) (Φ : List AV → Gam → Prop) (vs : List V) (H' : Hp) : Prop := ∃ F' as Γ', Same F F' ∧ Gm K F' H' (Γ' ++ Θ) ∧ Rps K F' vs as ∧ Φ as Γ'
def PoT {β : Type} (K : PySem.W.Frag) (F : Hp) (Θ : Gam) (Φ : β → Gam → Prop) (b : β) (H' : Hp) : Prop := ∃ F' Γ', Same F F' ∧ Gm K F' H' (Γ' ++ Θ) ∧ Φ b Γ'
def PoS (K : PySem.W.Frag) (F : Hp) (Θ : Gam) (Ψ : Del → Gam → Prop) (σ' : L2.St) (H' : Hp) : Prop := ∃ F' δ' Γ', Same F F' ∧ En K F' σ' δ' ∧ Gm K F' H' (Γ' ++ Θ) ∧ Ψ δ' Γ'
theorem PoE.back {K : PySem.W.Frag} {F F1 H' : Hp} {Θ : Gam} {Φ : AV → Gam → Prop} {v : V} (e : Same F F1) (h : PoE K F1 Θ Φ v H') : PoE K F Θ Φ v H' :=
  let ⟨F', av, Γ', s, r⟩ := h; ⟨F', av, Γ', e.trans s, r⟩
theorem PoA.back {K : PySem.W.Frag} {F F1 H' : Hp} {Θ : Gam} {Φ : List AV → Gam → Prop} {v : List V} (e : Same F F1) (h : PoA K F1 Θ Φ v H') : PoA K F Θ Φ v H' :=
  let ⟨F', av, Γ', s, r⟩ := h; ⟨F', av, Γ', e.trans s, r⟩
theorem PoT.back {β : Type} {K : PySem.W.Frag} {F F1 H' : Hp} {Θ : Gam} {Φ : β → Gam → Prop} {v : β} (e : Same F F1) (h : PoT K F1 Θ Φ v H') : PoT K F Θ Φ v H' :=
  let ⟨F', Γ', s, r⟩ := h; ⟨F', Γ', e.trans s, r⟩
theorem PoS.back {K : PySem.W.Frag} {F F1 H' : Hp} {Θ : Gam} {Φ : Del → Gam → Prop} {v : L2.St} (e : Same F F1) (h : PoS K F1 Θ Φ v H') : PoS K F Θ Φ v H' :=
  let ⟨F', av, Γ', s, r⟩ := h; ⟨F', av, Γ', e.trans s, r⟩
theorem PoS.imp {K : PySem.W.Frag} {F H' : Hp} {Θ : Gam} {Φ Φ' : Del → Gam → Prop} {v : L2.St} (h : PoS K F Θ Φ v H') (k : ∀ δ Γ, Φ δ Γ → Φ' δ Γ) : PoS K F Θ Φ' v H' :=
  let ⟨F', av, Γ', s, r, g, q⟩ := h; ⟨F', av, Γ', s, r, g, k _ _ q⟩

structure AEnds where
  nx : Del → Gam → Prop
  rt : AV → Gam → Prop
  bk : Del → Gam → Prop := fun _ _ => False
  ct : Del → Gam → Prop := fun _ _ => False

section
variable (K : PySem.W.Frag)
def WE (te : TE) (δ : Del) (Γ : Gam) (Φ : AV → Gam → Prop) : Prop := ∀ σ F H Θ, En K F σ δ → Gm K F H (Γ ++ Θ) → ∀ Q : VK, (∀ v H', PoE K F Θ Φ v H' → Q v H') → te σ H Q
def WA (ta : TA) (δ : Del) (Γ : Gam) (Φ : List AV → Gam → Prop) : Prop := ∀ σ F H Θ, En K F σ δ → Gm K F H (Γ ++ Θ) → ∀ Q : List V → Hp → Prop, (∀ v H', PoA K F Θ Φ v H' → Q v H') → ta σ H Q
def WT (tt : TT) (δ : Del) (Γ : Gam) (Φ : Bool → Gam → Prop) : Prop := ∀ σ F H Θ, En K F σ δ → Gm K F H (Γ ++ Θ) → ∀ Q : Bool → Hp → Prop, (∀ v H', PoT K F Θ Φ v H' → Q v H') → tt σ H Q
def WO (to : TO) (δ : Del) (Γ : Gam) (Φ : Option Int → Gam → Prop) : Prop := ∀ σ F H Θ, En K F σ δ → Gm K F H (Γ ++ Θ) → ∀ Q : Option Int → Hp → Prop, (∀ v H', PoT K F Θ Φ v H' → Q v H') → to σ H Q
def WS (ts : TS) (D : AEnds) (δ : Del) (Γ : Gam) : Prop := ∀ σ F H Θ, En K F σ δ → Gm K F H (Γ ++ Θ) → ∀ D' : Ends, (∀ σ' H', PoS K F Θ D.nx σ' H' → D'.nx σ' H') → (∀ v H', PoE K F Θ D.rt v H' → D'.rt v H') →
  (∀ σ' H', PoS K F Θ D.bk σ' H' → D'.bk σ' H') → (∀ σ' H', PoS K F Θ D.ct σ' H' → D'.ct σ' H') → ts D' σ H
def WG (g : TG) (av : AV) (δ : Del) (Γ : Gam) (Ψ : Del → Gam → Prop) : Prop := ∀ v σ F H Θ, Rp K F v av → En K F σ δ → Gm K F H (Γ ++ Θ) → ∀ Q : L2.St → Hp → Prop, (∀ σ' H', PoS K F Θ Ψ σ' H' → Q σ' H') → g v σ H Q
def WGs (g : TGs) (as : List AV) (δ : Del) (Γ : Gam) (Ψ : Del → Gam → Prop) : Prop := ∀ v σ F H Θ, Rps K F v as → En K F σ δ → Gm K F H (Γ ++ Θ) → ∀ Q : L2.St → Hp → Prop, (∀ σ' H', PoS K F Θ Ψ σ' H' → Q σ' H') → g v σ H Q
/-- by values: two, one, a list; a method's -/
def WR (r : R2) (x y : AV) (Γ : Gam) (Φ : AV → Gam → Prop) : Prop := ∀ v u F H Θ, Rp K F v x → Rp K F u y → Gm K F H (Γ ++ Θ) → ∀ Q : VK, (∀ v H', PoE K F Θ Φ v H' → Q v H') → r v u H Q
def WU (r : V → Hp → VK → Prop) (x : AV) (Γ : Gam) (Φ : AV → Gam → Prop) : Prop := ∀ v F H Θ, Rp K F v x → Gm K F H (Γ ++ Θ) → ∀ Q : VK, (∀ v H', PoE K F Θ Φ v H' → Q v H') → r v H Q
def WC (r : List V → Hp → VK → Prop) (xs : List AV) (Γ : Gam) (Φ : AV → Gam → Prop) : Prop := ∀ v F H Θ, Rps K F v xs → Gm K F H (Γ ++ Θ) → ∀ Q : VK, (∀ v H', PoE K F Θ Φ v H' → Q v H') → r v H Q
def WM (r : V → List V → Hp → VK → Prop) (x : AV) (xs : List AV) (Γ : Gam) (Φ : AV → Gam → Prop) : Prop := ∀ u v F H Θ, Rp K F u x → Rps K F v xs → Gm K F H (Γ ++ Θ) → ∀ Q : VK, (∀ v H', PoE K F Θ Φ v H' → Q v H') → r u v H Q
end

section
variable {K : PySem.W.Frag} {δ : Del} {Γ : Gam} {Φ : AV → Gam → Prop} {te ta tb : TE} {r r' : R2} {x y z : AV}
/-- what holds of a state holds of a weaker reading of it -/
theorem we_mono {Φ' : AV → Gam → Prop} (h : WE K te δ Γ Φ') (k : ∀ av Γ', Φ' av Γ' → Φ av Γ') : WE K te δ Γ Φ := fun σ F H Θ en gm Q q =>
  h σ F H Θ en gm Q fun v H' ⟨F', av, Γ', s, g, rp, p⟩ => q v H' ⟨F', av, Γ', s, g, rp, k _ _ p⟩
theorem we_var {i : Nat} {av : AV} (h : δ[i]? = some (some av)) (k : Φ av Γ) : WE K (tVar i) δ Γ Φ := fun σ F H Θ en gm Q q => by
  obtain ⟨v, e, r⟩ := en.2 i av h
  exact ⟨v, e, q v H ⟨F, av, Γ, Same.refl F, gm, r, k⟩⟩
theorem we_int {i : Int} (k : Φ (.int i) Γ) : WE K (tC (.int i)) δ Γ Φ := fun σ F H Θ en gm Q q => q _ H ⟨F, _, Γ, Same.refl F, gm, .int i, k⟩
theorem we_bl {i : Bool} (k : Φ (.bl i) Γ) : WE K (tC (.bl i)) δ Γ Φ := fun σ F H Θ en gm Q q => q _ H ⟨F, _, Γ, Same.refl F, gm, .bl i, k⟩
theorem we_non (k : Φ .non Γ) : WE K (tC .non) δ Γ Φ := fun σ F H Θ en gm Q q => q _ H ⟨F, _, Γ, Same.refl F, gm, .non, k⟩
theorem we_str {i : Str} (k : Φ (.str i) Γ) : WE K (tC (.str i)) δ Γ Φ := fun σ F H Θ en gm Q q => q _ H ⟨F, _, Γ, Same.refl F, gm, .str i, k⟩
theorem we_ty {i : String} (k : Φ (.ty i) Γ) : WE K (tC (.ty i)) δ Γ Φ := fun σ F H Θ en gm Q q => q _ H ⟨F, _, Γ, Same.refl F, gm, .ty i, k⟩
theorem we_ref {i : Addr} (k : Φ (.ptr i) Γ) : WE K (tC (.ref i)) δ Γ Φ := fun σ F H Θ en gm Q q => q _ H ⟨F, _, Γ, Same.refl F, gm, .ptr i, k⟩
theorem we_op (h : WE K ta δ Γ fun x Γ1 => WE K tb δ Γ1 fun y Γ2 => WR K r x y Γ2 Φ) : WE K (tOp r ta tb) δ Γ Φ := fun σ F H Θ en gm Q q =>
  h σ F H Θ en gm _ fun v H1 ⟨F1, av, Γ1, s1, g1, r1, h1⟩ => h1 σ F1 H1 Θ (en.mono s1) g1 _ fun u H2 ⟨F2, au, Γ2, s2, g2, r2, h2⟩ =>
    h2 v u F2 H2 Θ (Rp.mono s2 _ _ r1) r2 g2 Q fun w H3 p => q w H3 (p.back (s1.trans s2))
theorem we_un {r : V → Hp → VK → Prop} (h : WE K ta δ Γ fun x Γ1 => WU K r x Γ1 Φ) : WE K (tUn r ta) δ Γ Φ := fun σ F H Θ en gm Q q =>
  h σ F H Θ en gm _ fun v H1 ⟨F1, av, Γ1, s1, g1, r1, h1⟩ => h1 v F1 H1 Θ r1 g1 Q fun w H3 p => q w H3 (p.back s1)
theorem wr_l (h : WR K r x y Γ Φ) : WR K (fun x y H Q => r x y H Q ∨ r' x y H Q) x y Γ Φ := fun v u F H Θ r1 r2 g Q q => .inl (h v u F H Θ r1 r2 g Q q)
theorem wr_r (h : WR K r' x y Γ Φ) : WR K (fun x y H Q => r x y H Q ∨ r' x y H Q) x y Γ Φ := fun v u F H Θ r1 r2 g Q q => .inr (h v u F H Θ r1 r2 g Q q)
theorem wc_l {r r' : List V → Hp → VK → Prop} {xs : List AV} (h : WC K r xs Γ Φ) : WC K (fun x H Q => r x H Q ∨ r' x H Q) xs Γ Φ := fun v F H Θ r1 g Q q => .inl (h v F H Θ r1 g Q q)
theorem wc_r {r r' : List V → Hp → VK → Prop} {xs : List AV} (h : WC K r' xs Γ Φ) : WC K (fun x H Q => r x H Q ∨ r' x H Q) xs Γ Φ := fun v F H Θ r1 g Q q => .inr (h v F H Θ r1 g Q q)
theorem wm_l {r r' : V → List V → Hp → VK → Prop} {xs : List AV} (h : WM K r x xs Γ Φ) : WM K (fun u x H Q => r u x H Q ∨ r' u x H Q) x xs Γ Φ := fun u v F H Θ r0 r1 g Q q => .inl (h u v F H Θ r0 r1 g Q q)
theorem wm_r {r r' : V → List V → Hp → VK → Prop} {xs : List AV} (h : WM K r' x xs Γ Φ) : WM K (fun u x H Q => r u x H Q ∨ r' u x H Q) x xs Γ Φ := fun u v F H Θ r0 r1 g Q q => .inr (h u v F H Θ r0 r1 g Q q)

/-! ### arguments, displays -/
theorem wa_nil {Φ : List AV → Gam → Prop} (k : Φ [] Γ) : WA K tNil δ Γ Φ := fun σ F H Θ en gm Q q => q _ H ⟨F, _, Γ, Same.refl F, gm, .nil, k⟩
theorem wa_cons {tr : TA} {Φ : List AV → Gam → Prop} (h : WE K ta δ Γ fun x Γ1 => WA K tr δ Γ1 fun xs Γ2 => Φ (x :: xs) Γ2) : WA K (tCons ta tr) δ Γ Φ := fun σ F H Θ en gm Q q =>
  h σ F H Θ en gm _ fun v H1 ⟨F1, av, Γ1, s1, g1, r1, h1⟩ => h1 σ F1 H1 Θ (en.mono s1) g1 _ fun u H2 ⟨F2, au, Γ2, s2, g2, r2, h2⟩ =>
    q _ H2 ⟨F2, _, Γ2, s1.trans s2, g2, .cons (Rp.mono s2 _ _ r1) r2, h2⟩
theorem we_tup {t : TA} (h : WA K t δ Γ fun xs Γ1 => xs.length ≤ sizeLine ∧ Φ (.tup xs) Γ1) : WE K (tTup t) δ Γ Φ := fun σ F H Θ en gm Q q =>
  h σ F H Θ en gm _ fun vs H1 ⟨F1, as, Γ1, s1, g1, r1, hl, h1⟩ => ⟨by rw [r1.length]; exact hl, fun p hp => by
    obtain ⟨s2, g2⟩ := g1.froz (o := .tup vs) hp
    exact q _ _ ⟨_, _, Γ1, s1.trans s2, g2, .tup upd_same (Rps.mono s2 _ _ r1), h1⟩⟩
theorem we_lst {t : TA} (h : WA K t δ Γ fun xs Γ1 => xs.length ≤ sizeLine ∧ Φ (.lst xs) Γ1) : WE K (tLst t) δ Γ Φ := fun σ F H Θ en gm Q q =>
  h σ F H Θ en gm _ fun vs H1 ⟨F1, as, Γ1, s1, g1, r1, hl, h1⟩ => ⟨by rw [r1.length]; exact hl, fun p hp => by
    obtain ⟨s2, g2⟩ := g1.froz (o := .lst vs) hp
    exact q _ _ ⟨_, _, Γ1, s1.trans s2, g2, .lst upd_same (Rps.mono s2 _ _ r1), h1⟩⟩
/-- a list that is to be changed -/
abbrev tLstL : TA → TE := tLst
theorem we_lstL {t : TA} (h : WA K t δ Γ fun xs Γ1 => xs.length ≤ sizeLine ∧ ∀ p, Φ (.ptr p) ((p, .lst xs) :: Γ1)) : WE K (tLst t) δ Γ Φ := fun σ F H Θ en gm Q q =>
  h σ F H Θ en gm _ fun vs H1 ⟨F1, as, Γ1, s1, g1, r1, hl, h1⟩ => ⟨by rw [r1.length]; exact hl, fun p hp =>
    q _ _ ⟨F1, _, _, s1, g1.new hp (.lst r1), .ptr p, h1 p⟩⟩
end
end Ab

namespace Ab
open PySem L2

/-! ### tests -/
section
variable {K : PySem.W.Frag} {δ : Del} {Γ : Gam} {Φ : AV → Gam → Prop} {Ψ : Bool → Gam → Prop} {te ta tb tl : TE} {t u : TT} {x y z : AV}
theorem wt_B (h : WE K te δ Γ fun x Γ1 => ∃ c, x = .bl c ∧ Ψ c Γ1) : WT K (tB te) δ Γ Ψ := fun σ F H Θ en gm Q q =>
  h σ F H Θ en gm _ fun v H1 ⟨F1, av, Γ1, s1, g1, r1, c, e, h1⟩ => by subst e; cases r1; exact ⟨c, rfl, q c H1 ⟨F1, Γ1, s1, g1, h1⟩⟩
theorem wt_test (h : WE K te δ Γ fun x Γ1 => ∃ c, x = .bl c ∧ Ψ c Γ1) : WT K (tTest te) δ Γ Ψ := fun σ F H Θ en gm Q q =>
  h σ F H Θ en gm _ fun v H1 ⟨F1, av, Γ1, s1, g1, r1, c, e, h1⟩ => by subst e; cases r1; exact ⟨c, rfl, q c H1 ⟨F1, Γ1, s1, g1, h1⟩⟩
theorem wt_and (h : WT K t δ Γ fun a Γ1 => (a = true → WT K u δ Γ1 Ψ) ∧ (a = false → Ψ false Γ1)) : WT K (tAnd t u) δ Γ Ψ := fun σ F H Θ en gm Q q =>
  h σ F H Θ en gm _ fun a H1 ⟨F1, Γ1, s1, g1, h1, h2⟩ => by
    cases a with
    | true => exact h1 rfl σ F1 H1 Θ (en.mono s1) g1 Q fun b H2 p => q b H2 (p.back s1)
    | false => exact q false H1 ⟨F1, Γ1, s1, g1, h2 rfl⟩
theorem wt_or (h : WT K t δ Γ fun a Γ1 => (a = true → Ψ true Γ1) ∧ (a = false → WT K u δ Γ1 Ψ)) : WT K (tOr t u) δ Γ Ψ := fun σ F H Θ en gm Q q =>
  h σ F H Θ en gm _ fun a H1 ⟨F1, Γ1, s1, g1, h1, h2⟩ => by
    cases a with
    | false => exact h2 rfl σ F1 H1 Θ (en.mono s1) g1 Q fun b H2 p => q b H2 (p.back s1)
    | true => exact q true H1 ⟨F1, Γ1, s1, g1, h1 rfl⟩
theorem wt_not (h : WT K t δ Γ fun a Γ1 => Ψ (!a) Γ1) : WT K (tNot t) δ Γ Ψ := fun σ F H Θ en gm Q q =>
  h σ F H Θ en gm _ fun a H1 ⟨F1, Γ1, s1, g1, h1⟩ => q (!a) H1 ⟨F1, Γ1, s1, g1, h1⟩
/-- joined: the answer said -/
theorem wt_say (c : Bool) (h : WT K t δ Γ fun a Γ1 => a = c ∧ Γ1 = Γ) (k : Ψ c Γ) : WT K t δ Γ Ψ := fun σ F H Θ en gm Q q =>
  h σ F H Θ en gm _ fun a H1 ⟨F1, Γ1, s1, g1, e1, e2⟩ => by subst e1 e2; exact q a H1 ⟨F1, Γ1, s1, g1, k⟩
theorem wt_mono {Ψ' : Bool → Gam → Prop} (h : WT K t δ Γ Ψ') (k : ∀ a Γ1, Ψ' a Γ1 → Ψ a Γ1) : WT K t δ Γ Ψ := fun σ F H Θ en gm Q q =>
  h σ F H Θ en gm _ fun a H1 ⟨F1, Γ1, s1, g1, h1⟩ => q a H1 ⟨F1, Γ1, s1, g1, k _ _ h1⟩
theorem we_andV (h : WE K ta δ Γ fun x Γ1 => ∃ c, x = .bl c ∧ (c = true → WE K tb δ Γ1 Φ) ∧ (c = false → Φ (.bl false) Γ1)) : WE K (tAndV ta tb) δ Γ Φ := fun σ F H Θ en gm Q q =>
  h σ F H Θ en gm _ fun v H1 ⟨F1, av, Γ1, s1, g1, r1, c, e, h1, h2⟩ => by
    subst e; cases r1
    refine ⟨c, rfl, ?_⟩
    cases c with
    | true => exact h1 rfl σ F1 H1 Θ (en.mono s1) g1 Q fun b H2 p => q b H2 (p.back s1)
    | false => exact q _ H1 ⟨F1, _, Γ1, s1, g1, .bl false, h2 rfl⟩
theorem we_orV (h : WE K ta δ Γ fun x Γ1 => ∃ c, x = .bl c ∧ (c = true → Φ (.bl true) Γ1) ∧ (c = false → WE K tb δ Γ1 Φ)) : WE K (tOrV ta tb) δ Γ Φ := fun σ F H Θ en gm Q q =>
  h σ F H Θ en gm _ fun v H1 ⟨F1, av, Γ1, s1, g1, r1, c, e, h1, h2⟩ => by
    subst e; cases r1
    refine ⟨c, rfl, ?_⟩
    cases c with
    | false => exact h2 rfl σ F1 H1 Θ (en.mono s1) g1 Q fun b H2 p => q b H2 (p.back s1)
    | true => exact q _ H1 ⟨F1, _, Γ1, s1, g1, .bl true, h1 rfl⟩
theorem we_notV (h : WE K ta δ Γ fun x Γ1 => ∃ c, x = .bl c ∧ Φ (.bl (!c)) Γ1) : WE K (tNotV ta) δ Γ Φ := fun σ F H Θ en gm Q q =>
  h σ F H Θ en gm _ fun v H1 ⟨F1, av, Γ1, s1, g1, r1, c, e, h1⟩ => by
    subst e; cases r1
    exact ⟨c, rfl, q _ H1 ⟨F1, _, Γ1, s1, g1, .bl _, h1⟩⟩
theorem we_if (h : WT K t δ Γ fun a Γ1 => (a = true → WE K ta δ Γ1 Φ) ∧ (a = false → WE K tb δ Γ1 Φ)) : WE K (tIf t ta tb) δ Γ Φ := fun σ F H Θ en gm Q q =>
  h σ F H Θ en gm _ fun a H1 ⟨F1, Γ1, s1, g1, h1, h2⟩ => by
    cases a with
    | true => exact h1 rfl σ F1 H1 Θ (en.mono s1) g1 Q fun b H2 p => q b H2 (p.back s1)
    | false => exact h2 rfl σ F1 H1 Θ (en.mono s1) g1 Q fun b H2 p => q b H2 (p.back s1)
/-- the value said, the state as it was -/
theorem we_say (v : AV) (h : WE K te δ Γ fun a Γ1 => a = v ∧ Γ1 = Γ) (k : Φ v Γ) : WE K te δ Γ Φ := fun σ F H Θ en gm Q q =>
  h σ F H Θ en gm _ fun a H1 ⟨F1, av, Γ1, s1, g1, r1, e1, e2⟩ => by subst e1 e2; exact q a H1 ⟨F1, av, Γ1, s1, g1, r1, k⟩

/-! ### statements -/
variable {D : AEnds} {ts tu tw : TS} {g : TG}
theorem ws_seq (h : WS K ts { D with nx := fun δ' Γ' => WS K tu D δ' Γ' } δ Γ) : WS K (tSeq ts tu) D δ Γ := fun σ F H Θ en gm D' n r b c =>
  h σ F H Θ en gm _ (fun σ' H' ⟨F', δ', Γ', s, en', g', k⟩ => k σ' F' H' Θ en' g' D' (fun _ _ p => n _ _ (p.back s)) (fun _ _ p => r _ _ (p.back s)) (fun _ _ p => b _ _ (p.back s)) (fun _ _ p => c _ _ (p.back s))) r b c
theorem ws_next (h : D.nx δ Γ) : WS K tNext D δ Γ := fun σ F H Θ en gm D' n r b c => n σ H ⟨F, δ, Γ, Same.refl F, en, gm, h⟩
theorem ws_break (h : D.bk δ Γ) : WS K tBreak D δ Γ := fun σ F H Θ en gm D' n r b c => b σ H ⟨F, δ, Γ, Same.refl F, en, gm, h⟩
theorem ws_cont (h : D.ct δ Γ) : WS K tCont D δ Γ := fun σ F H Θ en gm D' n r b c => c σ H ⟨F, δ, Γ, Same.refl F, en, gm, h⟩
theorem ws_drop (h : WE K te δ Γ fun _ Γ1 => D.nx δ Γ1) : WS K (tDrop te) D δ Γ := fun σ F H Θ en gm D' n r b c =>
  h σ F H Θ en gm _ fun v H1 ⟨F1, av, Γ1, s1, g1, r1, h1⟩ => n σ H1 ⟨F1, δ, Γ1, s1, en.mono s1, g1, h1⟩
theorem ws_ret (h : WE K te δ Γ D.rt) : WS K (tRet te) D δ Γ := fun σ F H Θ en gm D' n r b c => h σ F H Θ en gm _ r
theorem ws_retN (h : D.rt .non Γ) : WS K tRetN D δ Γ := fun σ F H Θ en gm D' n r b c => r _ H ⟨F, _, Γ, Same.refl F, gm, .non, h⟩
theorem ws_if (h : WT K t δ Γ fun a Γ1 => (a = true → WS K ts D δ Γ1) ∧ (a = false → WS K tu D δ Γ1)) : WS K (tIfS t ts tu) D δ Γ := fun σ F H Θ en gm D' n r b c =>
  h σ F H Θ en gm _ fun a H1 ⟨F1, Γ1, s1, g1, h1, h2⟩ => by
    cases a with
    | true => exact h1 rfl σ F1 H1 Θ (en.mono s1) g1 D' (fun _ _ p => n _ _ (p.back s1)) (fun _ _ p => r _ _ (p.back s1)) (fun _ _ p => b _ _ (p.back s1)) (fun _ _ p => c _ _ (p.back s1))
    | false => exact h2 rfl σ F1 H1 Θ (en.mono s1) g1 D' (fun _ _ p => n _ _ (p.back s1)) (fun _ _ p => r _ _ (p.back s1)) (fun _ _ p => b _ _ (p.back s1)) (fun _ _ p => c _ _ (p.back s1))
/-- a weaker reading of the state, ahead of a statement; of what follows -/
def Wk (K : PySem.W.Frag) (δ : Del) (Γ : Gam) (δ' : Del) (Γ' : Gam) : Prop := ∀ σ F H Θ, En K F σ δ → Gm K F H (Γ ++ Θ) → ∃ F', Same F F' ∧ En K F' σ δ' ∧ Gm K F' H (Γ' ++ Θ)
theorem ws_wk {δ' : Del} {Γ' : Gam} (w : Wk K δ Γ δ' Γ') (h : WS K ts D δ' Γ') : WS K ts D δ Γ := fun σ F H Θ en gm D' n r b c => by
  obtain ⟨F', s, en', gm'⟩ := w σ F H Θ en gm
  exact h σ F' H Θ en' gm' D' (fun _ _ p => n _ _ (p.back s)) (fun _ _ p => r _ _ (p.back s)) (fun _ _ p => b _ _ (p.back s)) (fun _ _ p => c _ _ (p.back s))
theorem we_wk {δ' : Del} {Γ' : Gam} (w : Wk K δ Γ δ' Γ') (h : WE K te δ' Γ' Φ) : WE K te δ Γ Φ := fun σ F H Θ en gm Q q => by
  obtain ⟨F', s, en', gm'⟩ := w σ F H Θ en gm
  exact h σ F' H Θ en' gm' Q (fun _ _ p => q _ _ (p.back s))
theorem ws_mono {D2 : AEnds} (h : WS K ts D2 δ Γ) (hn : ∀ δ' Γ', D2.nx δ' Γ' → D.nx δ' Γ') (hr : ∀ v Γ', D2.rt v Γ' → D.rt v Γ') (hb : ∀ δ' Γ', D2.bk δ' Γ' → D.bk δ' Γ') (hc : ∀ δ' Γ', D2.ct δ' Γ' → D.ct δ' Γ') : WS K ts D δ Γ :=
  fun σ F H Θ en gm D' n r b c => h σ F H Θ en gm D' (fun _ _ p => n _ _ (p.imp hn)) (fun v H' ⟨F', av, Γ', s, g, rp, p⟩ => r v H' ⟨F', av, Γ', s, g, rp, hr _ _ p⟩) (fun _ _ p => b _ _ (p.imp hb)) (fun _ _ p => c _ _ (p.imp hc))
/-- the end of a statement, its state weakened -/
theorem ws_nxwk (h : WS K ts { D with nx := fun δ1 Γ1 => ∃ δ2 Γ2, Wk K δ1 Γ1 δ2 Γ2 ∧ D.nx δ2 Γ2 } δ Γ) : WS K ts D δ Γ := fun σ F H Θ en gm D' n r b c =>
  h σ F H Θ en gm D' (fun σ' H' ⟨F1, δ1, Γ1, s1, en1, g1, δ2, Γ2, w, k⟩ => by
    obtain ⟨F2, s2, en2, g2⟩ := w σ' F1 H' Θ en1 g1
    exact n σ' H' ⟨F2, δ2, Γ2, s1.trans s2, en2, g2, k⟩) r b c
/-- what a value and its state may be taken for -/
def Wv (K : PySem.W.Frag) (v : AV) (Γ : Gam) (v' : AV) (Γ' : Gam) : Prop := ∀ u F H Θ, Rp K F u v → Gm K F H (Γ ++ Θ) → ∃ F', Same F F' ∧ Rp K F' u v' ∧ Gm K F' H (Γ' ++ Θ)
theorem we_post (h : WE K te δ Γ fun v Γ1 => ∃ v' Γ', Wv K v Γ1 v' Γ' ∧ Φ v' Γ') : WE K te δ Γ Φ := fun σ F H Θ en gm Q q =>
  h σ F H Θ en gm _ fun u H1 ⟨F1, av, Γ1, s1, g1, r1, v', Γ', w, k⟩ => by
    obtain ⟨F2, s2, r2, g2⟩ := w u F1 H1 Θ r1 g1
    exact q u H1 ⟨F2, v', Γ', s1.trans s2, g2, r2, k⟩
theorem Wv.refl {v : AV} : Wv K v Γ v Γ := fun u F H Θ r g => ⟨F, Same.refl F, r, g⟩
theorem Wv.trans {v v' v'' : AV} {Γ' Γ'' : Gam} (a : Wv K v Γ v' Γ') (b : Wv K v' Γ' v'' Γ'') : Wv K v Γ v'' Γ'' := fun u F H Θ r g => by
  obtain ⟨F1, s1, r1, g1⟩ := a u F H Θ r g
  obtain ⟨F2, s2, r2, g2⟩ := b u F1 H Θ r1 g1
  exact ⟨F2, s1.trans s2, r2, g2⟩
theorem Wv.drop {v : AV} {Γ' : Gam} (h : Γ'.Sublist Γ) : Wv K v Γ v Γ' := fun u F H Θ r g => ⟨F, Same.refl F, r, g.sublist (h.append_right Θ)⟩
theorem Wv.perm {v : AV} {Γ' : Gam} (h : Γ.Perm Γ') : Wv K v Γ v Γ' := fun u F H Θ r g => ⟨F, Same.refl F, r, g.perm (h.append_right Θ)⟩
/-- the value itself, live at the head, becomes data -/
theorem Wv.freeze {p : Addr} {xs : List AV} : Wv K (.ptr p) ((p, .lst xs) :: Γ) (.lst xs) Γ := fun u F H Θ r g => by
  cases r
  obtain ⟨F', s, g', r'⟩ := Gm.freeze (Γ := Γ ++ Θ) g
  exact ⟨F', s, r', g'⟩
theorem erase_perm {α : Type} : ∀ {l : List α} {i : Nat} {x : α}, l[i]? = some x → l.Perm (x :: l.eraseIdx i)
  | [], _, _, h => by simp at h
  | a :: l, 0, x, h => by simp at h; subst h; exact .refl _
  | a :: l, i + 1, x, h => by
    have h' : l[i]? = some x := by simpa using h
    exact ((erase_perm h').cons a).trans (.swap x a _)
theorem Wv.freezeAt {p : Addr} {xs : List AV} (i : Nat) (h : Γ[i]? = some (p, .lst xs)) : Wv K (.ptr p) Γ (.lst xs) (Γ.eraseIdx i) := (Wv.perm (erase_perm h)).trans Wv.freeze
theorem Wk.refl : Wk K δ Γ δ Γ := fun σ F H Θ en g => ⟨F, Same.refl F, en, g⟩
theorem Wk.trans {δ' δ'' : Del} {Γ' Γ'' : Gam} (a : Wk K δ Γ δ' Γ') (b : Wk K δ' Γ' δ'' Γ'') : Wk K δ Γ δ'' Γ'' := fun σ F H Θ en g => by
  obtain ⟨F1, s1, r1, g1⟩ := a σ F H Θ en g
  obtain ⟨F2, s2, r2, g2⟩ := b σ F1 H Θ r1 g1
  exact ⟨F2, s1.trans s2, r2, g2⟩
theorem Wk.drop {Γ' : Gam} (h : Γ'.Sublist Γ) : Wk K δ Γ δ Γ' := fun σ F H Θ en g => ⟨F, Same.refl F, en, g.sublist (h.append_right Θ)⟩
theorem Wk.perm {Γ' : Gam} (h : Γ.Perm Γ') : Wk K δ Γ δ Γ' := fun σ F H Θ en g => ⟨F, Same.refl F, en, g.perm (h.append_right Θ)⟩
theorem Wk.forget {δ' : Del} (hl : δ'.length = δ.length) (hs : ∀ (i : Nat) av, δ'[i]? = some (some av) → δ[i]? = some (some av)) : Wk K δ Γ δ' Γ := fun σ F H Θ en g => ⟨F, Same.refl F, en.forget hl hs, g⟩
/-- a slot's live list becomes data -/
theorem Wk.freezeAt {p : Addr} {xs : List AV} (j i : Nat) (hj : δ[j]? = some (some (.ptr p))) (h : Γ[i]? = some (p, .lst xs)) : Wk K δ Γ (δ.set j (some (.lst xs))) (Γ.eraseIdx i) := fun σ F H Θ en g => by
  obtain ⟨v, e, r⟩ := en.2 j _ hj
  obtain ⟨F', s, r', g'⟩ := Wv.freezeAt (K := K) i h v F H Θ r g
  refine ⟨F', s, ?_, g'⟩
  have en' := (en.mono s).set r' j
  have es : σ.set j (some v) = σ := by
    apply List.ext_getElem?
    intro k
    rw [List.getElem?_set]
    by_cases hk : j = k
    · subst hk
      rw [if_pos rfl, e]
      obtain ⟨hl, _⟩ := List.getElem?_eq_some_iff.mp e
      rw [if_pos hl]
    · rw [if_neg hk]
  rw [es] at en'
  exact en'

/-! ### targets -/
theorem ws_asg (h : WE K te δ Γ fun x Γ1 => WG K g x δ Γ1 D.nx) : WS K (tAsg te g) D δ Γ := fun σ F H Θ en gm D' n r b c =>
  h σ F H Θ en gm _ fun v H1 ⟨F1, av, Γ1, s1, g1, r1, h1⟩ => h1 v σ F1 H1 Θ r1 (en.mono s1) g1 _ fun σ' H' p => n σ' H' (p.back s1)
theorem wg_name {i : Nat} {av : AV} {δ' : Del} {Ψ : Del → Gam → Prop} (e : δ.set i (some av) = δ') (k : Ψ δ' Γ) : WG K (gName i) av δ Γ Ψ := fun v σ F H Θ r en gm Q q => q _ H ⟨F, _, Γ, Same.refl F, en.set r i, gm, by rw [e]; exact k⟩
theorem wgs_nil {Ψ : Del → Gam → Prop} (k : Ψ δ Γ) : WGs K gNil [] δ Γ Ψ := fun v σ F H Θ r en gm Q q => by
  cases r
  exact ⟨rfl, q _ H ⟨F, _, Γ, Same.refl F, en, gm, k⟩⟩
theorem wgs_cons {t : TG} {u : TGs} {av : AV} {as : List AV} {Ψ : Del → Gam → Prop} (h : WG K t av δ Γ fun δ' Γ' => WGs K u as δ' Γ' Ψ) : WGs K (gCons t u) (av :: as) δ Γ Ψ := fun v σ F H Θ r en gm Q q => by
  cases r with
  | cons r1 r2 =>
    exact ⟨_, _, rfl, h _ σ F H Θ r1 en gm _ fun σ' H' ⟨F', δ', Γ', s, en', g', k⟩ => k _ σ' F' H' Θ (Rps.mono s _ _ r2) en' g' Q fun _ _ p => q _ _ (p.back s)⟩
theorem wg_tup {n : Nat} {t : TGs} {as : List AV} {Ψ : Del → Gam → Prop} (hl : as.length = n) (h : WGs K t as δ Γ Ψ) : WG K (gTup K n t) (.tup as) δ Γ Ψ := fun v σ F H Θ r en gm Q q => by
  cases r with
  | tup h1 h2 => exact ⟨_, _, rfl, SqT.of (gm.sub _ _ h1), h2.length.trans hl, h _ σ F H Θ h2 en gm Q q⟩
theorem ws_par {i j : Nat} {t : TA} (h : WA K t δ Γ fun xs Γ1 => ∃ a b, xs = [a, b] ∧ D.nx ((δ.set i (some a)).set j (some b)) Γ1) : WS K (tPar i j t) D δ Γ := fun σ F H Θ en gm D' n r b c =>
  h σ F H Θ en gm _ fun vs H1 ⟨F1, as, Γ1, s1, g1, r1, x, y, e, k⟩ => by
    subst e
    cases r1 with
    | cons a1 r1 =>
      cases r1 with
      | cons a2 r1 =>
        cases r1
        exact ⟨_, _, rfl, n _ H1 ⟨F1, _, Γ1, s1, ((en.mono s1).set a1 i).set a2 j, g1, k⟩⟩
theorem ws_aug {i : Nat} {f : Int → Int → Int} {a : Int} (hx : δ[i]? = some (some (.int a))) (h : WE K te δ Γ fun y Γ1 => ∃ b, y = .int b ∧ D.nx (δ.set i (some (.int (f a b)))) Γ1) : WS K (tAug i te (ipI f)) D δ Γ := fun σ F H Θ en gm D' n r b c => by
  obtain ⟨v, e, rv⟩ := en.2 i _ hx
  cases rv
  refine ⟨_, e, h σ F H Θ en gm _ fun u H1 ⟨F1, au, Γ1, s1, g1, r1, z, ez, k⟩ => ?_⟩
  subst ez; cases r1
  exact ⟨_, _, rfl, rfl, n _ H1 ⟨F1, _, Γ1, s1, (en.mono s1).set (.int _) i, g1, k⟩⟩
end
end Ab

namespace Ab
open PySem L2 PyProof.Rows

/-! ### lists, tuples, dicts as they stand -/
def LsA (Γ : Gam) (x : AV) (xs : List AV) : Prop := x = .lst xs ∨ ∃ p, ∃ i : Nat, x = .ptr p ∧ Γ[i]? = some (p, .lst xs)
def LsR (Γ : Gam) (x : AV) (xs : List AV) : Prop := LsA Γ x xs ∨ x = .rol xs
def LiA (Γ : Gam) (i : Nat) (x : AV) (xs : List AV) : Prop := ∃ p, x = .ptr p ∧ Γ[i]? = some (p, .lst xs)
def DkA (Γ : Gam) (i : Nat) (x : AV) (kvs : List (Key × AV)) : Prop := ∃ p, x = .ptr p ∧ Γ[i]? = some (p, .dK kvs)
def DtA (Γ : Gam) (i : Nat) (x : AV) (kvs : List (List Key × AV)) : Prop := ∃ p, x = .ptr p ∧ Γ[i]? = some (p, .dT kvs)
def InA (Γ : Gam) (i : Nat) (x : AV) (C : Addr) (fs : List (Str × AV)) : Prop := ∃ p, x = .ptr p ∧ Γ[i]? = some (p, .ins C fs)
section
variable {K : PySem.W.Frag} {F H : Hp} {Γ Θ : Gam} {x y : AV} {v : V} {xs : List AV} {p : Addr}
theorem ix_left {i : Nat} {z : Addr × AO} (h : Γ[i]? = some z) : (Γ ++ Θ)[i]? = some z := by
  obtain ⟨hl, _⟩ := List.getElem?_eq_some_iff.mp h
  rw [List.getElem?_append_left hl]; exact h
theorem set_left {i : Nat} {z z' : Addr × AO} (h : Γ[i]? = some z) : (Γ ++ Θ).set i z' = Γ.set i z' ++ Θ := by
  obtain ⟨hl, _⟩ := List.getElem?_eq_some_iff.mp h
  exact List.set_append_left _ _ hl
theorem LsA.get (h : LsA Γ x xs) (g : Gm K F H (Γ ++ Θ)) (r : Rp K F v x) : ∃ q vs, v = .ref q ∧ H q = some (.lst vs) ∧ Rps K F vs xs := by
  rcases h with rfl | ⟨p, i, rfl, h⟩
  · cases r with
    | lst h1 h2 => exact ⟨_, _, rfl, g.sub _ _ h1, h2⟩
  · cases r
    obtain ⟨_, o, e, ro⟩ := g.at_ (ix_left h)
    cases ro with
    | lst ro => exact ⟨_, _, rfl, e, ro⟩
theorem LsR.get (h : LsR Γ x xs) (g : Gm K F H (Γ ++ Θ)) (r : Rp K F v x) : ∃ q vs, v = .ref q ∧ SqL K H q vs ∧ Rps K F vs xs := by
  rcases h with h | rfl
  · obtain ⟨q, vs, e, h1, h2⟩ := h.get g r
    exact ⟨q, vs, e, SqL.of h1, h2⟩
  · cases r with
    | rol h1 h2 => exact ⟨_, _, rfl, g.sub.seq h1, h2⟩
theorem LiA.get {i : Nat} (h : LiA Γ i x xs) (g : Gm K F H (Γ ++ Θ)) (r : Rp K F v x) : ∃ q vs, x = .ptr q ∧ v = .ref q ∧ Γ[i]? = some (q, .lst xs) ∧ H q = some (.lst vs) ∧ Rps K F vs xs := by
  obtain ⟨p, rfl, h⟩ := h
  cases r
  obtain ⟨_, o, e, ro⟩ := g.at_ (ix_left h)
  cases ro with
  | lst ro => exact ⟨_, _, rfl, rfl, h, e, ro⟩
theorem DkA.get {i : Nat} {kvs : List (Key × AV)} (h : DkA Γ i x kvs) (g : Gm K F H (Γ ++ Θ)) (r : Rp K F v x) : ∃ q vs, x = .ptr q ∧ v = .ref q ∧ Γ[i]? = some (q, .dK kvs) ∧ H q = some (.dK vs) ∧ KVr K F vs kvs := by
  obtain ⟨p, rfl, h⟩ := h
  cases r
  obtain ⟨_, o, e, ro⟩ := g.at_ (ix_left h)
  cases ro with
  | dK ro => exact ⟨_, _, rfl, rfl, h, e, ro⟩
theorem DtA.get {i : Nat} {kvs : List (List Key × AV)} (h : DtA Γ i x kvs) (g : Gm K F H (Γ ++ Θ)) (r : Rp K F v x) : ∃ q vs, x = .ptr q ∧ v = .ref q ∧ Γ[i]? = some (q, .dT kvs) ∧ H q = some (.dT vs) ∧ KVr K F vs kvs := by
  obtain ⟨p, rfl, h⟩ := h
  cases r
  obtain ⟨_, o, e, ro⟩ := g.at_ (ix_left h)
  cases ro with
  | dT ro => exact ⟨_, _, rfl, rfl, h, e, ro⟩
theorem InA.get {i : Nat} {C : Addr} {fs : List (Str × AV)} (h : InA Γ i x C fs) (g : Gm K F H (Γ ++ Θ)) (r : Rp K F v x) : ∃ q dx vs, x = .ptr q ∧ v = .ref q ∧ Γ[i]? = some (q, .ins C fs) ∧ H q = some (.ins C dx vs) ∧ KVr K F vs fs := by
  obtain ⟨p, rfl, h⟩ := h
  cases r
  obtain ⟨_, o, e, ro⟩ := g.at_ (ix_left h)
  cases ro with
  | ins ro => exact ⟨_, _, _, rfl, rfl, h, e, ro⟩
/-- an object changed -/
theorem Gm.wr (g : Gm K F H (Γ ++ Θ)) {i : Nat} {ao ao' : AO} {o' : HO} (h : Γ[i]? = some (p, ao)) (r : RpO K F o' ao') : Gm K F (upd H p o') (Γ.set i (p, ao') ++ Θ) := by
  have := g.write (ix_left (Θ := Θ) h) r
  rw [set_left h] at this
  exact this
end

/-! ### binary operators -/
abbrev rAddI : R2 := rI0 fun i j => .int (i + j)
abbrev rAddS : R2 := fun x y H Q => ∃ i j, x = .str i ∧ y = .str j ∧ i.length + j.length ≤ sizeLine ∧ Q (.str (i ++ j)) H
def rAddA (K : PySem.W.Frag) : R2 := fun x y H Q => rAddI x y H Q ∨ (rAddS x y H Q ∨ (rCat x y H Q ∨ rCatT K x y H Q))
def rSubA : R2 := rI0 fun i j => .int (i - j)
def rMulA : R2 := fun x y H Q => rI CMulW (fun i j => .int (i * j)) x y H Q ∨ rRep x y H Q
def rDivA : R2 := rI CDivW fun i j => .int (i / j)
def rModA : R2 := rI (fun _ j => 0 < j) fun i j => .int (i % j)
section
variable {X : Cx}
theorem op_addA : OpR X (binaryOp .Add) (rAddA X.K) := op_add.or (op_add_str.or (op_cat.or op_catT))
theorem op_subA : OpR X (binaryOp .Sub) rSubA := op_sub
theorem op_mulA : OpR X (binaryOp .Mult) rMulA := op_mulW.or op_rep
theorem op_divA : OpR X (binaryOp .FloorDiv) rDivA := op_fdivW
theorem op_modA : OpR X (binaryOp .Mod) rModA := op_mod
end
section
variable {K : PySem.W.Frag} {Γ : Gam} {Φ : AV → Gam → Prop} {x y : AV} {i j : Int} {s t : Str} {xs ys : List AV}
theorem wr_I0 {g : Int → Int → V} {g' : AV} (hg : ∀ F, Rp K F (g i j) g') (k : Φ g' Γ) : WR K (rI0 g) (.int i) (.int j) Γ Φ := fun v u F H Θ r1 r2 gm Q q => by
  cases r1; cases r2
  exact ⟨i, j, rfl, rfl, q _ H ⟨F, _, Γ, Same.refl F, gm, hg F, k⟩⟩
theorem wr_I {C : Int → Int → Prop} {g : Int → Int → V} {g' : AV} (hg : ∀ F, Rp K F (g i j) g') (hc : C i j) (k : Φ g' Γ) : WR K (rI C g) (.int i) (.int j) Γ Φ := fun v u F H Θ r1 r2 gm Q q => by
  cases r1; cases r2
  exact ⟨i, j, rfl, rfl, hc, q _ H ⟨F, _, Γ, Same.refl F, gm, hg F, k⟩⟩
theorem wr_addI (k : Φ (.int (i + j)) Γ) : WR K (rAddA K) (.int i) (.int j) Γ Φ := wr_l (wr_I0 (fun _ => .int _) k)
theorem wr_addS (h : s.length + t.length ≤ sizeLine) (k : Φ (.str (s ++ t)) Γ) : WR K (rAddA K) (.str s) (.str t) Γ Φ := wr_r (wr_l fun v u F H Θ r1 r2 gm Q q => by
  cases r1; cases r2
  exact ⟨s, t, rfl, rfl, h, q _ H ⟨F, _, Γ, Same.refl F, gm, .str _, k⟩⟩)
theorem wr_cat (h1 : LsA Γ x xs) (h2 : LsA Γ y ys) (hl : xs.length + ys.length ≤ sizeLine) (k : Φ (.lst (xs ++ ys)) Γ) : WR K rCat x y Γ Φ := fun v u F H Θ r1 r2 gm Q q => by
  obtain ⟨p, vs, rfl, e1, q1⟩ := h1.get gm r1
  obtain ⟨p', us, rfl, e2, q2⟩ := h2.get gm r2
  refine ⟨p, p', vs, us, rfl, rfl, e1, e2, by rw [q1.length, q2.length]; exact hl, fun n hn => ?_⟩
  obtain ⟨s2, g2⟩ := gm.froz (o := .lst (vs ++ us)) hn
  exact q _ _ ⟨_, _, Γ, s2, g2, .lst upd_same ((Rps.mono s2 _ _ q1).append (Rps.mono s2 _ _ q2)), k⟩
theorem wr_catL (h1 : LsA Γ x xs) (h2 : LsA Γ y ys) (hl : xs.length + ys.length ≤ sizeLine) (k : ∀ p, Φ (.ptr p) ((p, .lst (xs ++ ys)) :: Γ)) : WR K rCat x y Γ Φ := fun v u F H Θ r1 r2 gm Q q => by
  obtain ⟨p, vs, rfl, e1, q1⟩ := h1.get gm r1
  obtain ⟨p', us, rfl, e2, q2⟩ := h2.get gm r2
  refine ⟨p, p', vs, us, rfl, rfl, e1, e2, by rw [q1.length, q2.length]; exact hl, fun n hn => ?_⟩
  exact q _ _ ⟨F, _, _, Same.refl F, gm.new hn (.lst (q1.append q2)), .ptr n, k n⟩
theorem wr_addL (h1 : LsA Γ x xs) (h2 : LsA Γ y ys) (hl : xs.length + ys.length ≤ sizeLine) (k : Φ (.lst (xs ++ ys)) Γ) : WR K (rAddA K) x y Γ Φ := wr_r (wr_r (wr_l (wr_cat h1 h2 hl k)))
theorem wr_addLL (h1 : LsA Γ x xs) (h2 : LsA Γ y ys) (hl : xs.length + ys.length ≤ sizeLine) (k : ∀ p, Φ (.ptr p) ((p, .lst (xs ++ ys)) :: Γ)) : WR K (rAddA K) x y Γ Φ := wr_r (wr_r (wr_l (wr_catL h1 h2 hl k)))
theorem wr_addT (hn : xs ≠ []) (hl : xs.length + ys.length ≤ sizeLine) (k : Φ (.tup (xs ++ ys)) Γ) : WR K (rAddA K) (.tup xs) (.tup ys) Γ Φ := wr_r (wr_r (wr_r fun v u F H Θ r1 r2 gm Q q => by
  cases r1 with
  | @tup a vs _ e1 q1 =>
    cases r2 with
    | @tup b us _ e2 q2 =>
      refine ⟨a, b, vs, us, rfl, rfl, SqT.of (gm.sub _ _ e1), SqT.of (gm.sub _ _ e2), fun z => ?_, by rw [q1.length, q2.length]; exact hl, fun z => ?_, fun z p hp => ?_⟩
      · subst z; cases q1; exact hn rfl
      · subst z; cases q2
        rw [List.append_nil] at k
        exact q _ _ ⟨F, _, Γ, Same.refl F, gm, .tup e1 q1, k⟩
      · obtain ⟨s2, g2⟩ := gm.froz (o := .tup (vs ++ us)) hp
        exact q _ _ ⟨_, _, Γ, s2, g2, .tup upd_same ((Rps.mono s2 _ _ q1).append (Rps.mono s2 _ _ q2)), k⟩))
theorem wr_sub (k : Φ (.int (i - j)) Γ) : WR K rSubA (.int i) (.int j) Γ Φ := wr_I0 (fun _ => .int _) k
theorem wr_mul (hc : CMulW i j) (k : Φ (.int (i * j)) Γ) : WR K rMulA (.int i) (.int j) Γ Φ := wr_l (wr_I (fun _ => .int _) hc k)
theorem wr_div (hc : CDivW i j) (k : Φ (.int (i / j)) Γ) : WR K rDivA (.int i) (.int j) Γ Φ := wr_I (fun _ => .int _) hc k
theorem wr_mod (hc : 0 < j) (k : Φ (.int (i % j)) Γ) : WR K rModA (.int i) (.int j) Γ Φ := wr_I (fun _ => .int _) hc k
theorem Rps.rep {F : Hp} {vs : List V} {as : List AV} (r : Rps K F vs as) : ∀ n : Nat, Rps K F (List.replicate n vs).flatten (List.replicate n as).flatten
  | 0 => .nil
  | n + 1 => by
    rw [List.replicate_succ, List.replicate_succ, List.flatten_cons, List.flatten_cons]
    exact r.append (Rps.rep r n)
theorem wr_rep (h : LsA Γ x xs) (h1 : -(2 ^ 63) ≤ j) (h2 : j < 2 ^ 63) (hl : xs.length * j.toNat ≤ sizeLine) (k : Φ (.lst (List.replicate j.toNat xs).flatten) Γ) : WR K rMulA x (.int j) Γ Φ := wr_r fun v u F H Θ r1 r2 gm Q q => by
  obtain ⟨p, vs, rfl, e1, q1⟩ := h.get gm r1
  cases r2
  refine ⟨p, j, vs, rfl, rfl, e1, h1, h2, by rw [q1.length]; exact hl, fun n hn => ?_⟩
  obtain ⟨s2, g2⟩ := gm.froz (o := .lst (List.replicate j.toNat vs).flatten) hn
  exact q _ _ ⟨_, _, Γ, s2, g2, .lst upd_same ((Rps.mono s2 _ _ q1).rep _), k⟩

/-! ### comparisons -/
mutual
inductive Dn (Γ : Gam) : AV → PyData → Prop
  | non : Dn Γ .non .none
  | bl (b : Bool) : Dn Γ (.bl b) (.bool b)
  | int (i : Int) : Dn Γ (.int i) (.int i)
  | str (x : Str) : Dn Γ (.str x) (.str x)
  | lst {xs : List AV} {ds : List PyData} : Dns Γ xs ds → Dn Γ (.lst xs) (.list ds)
  | rol {xs : List AV} {ds : List PyData} : Dns Γ xs ds → Dn Γ (.rol xs) (.list ds)
  | tup {xs : List AV} {ds : List PyData} : Dns Γ xs ds → Dn Γ (.tup xs) (.tuple ds)
  | live {p : Addr} {xs : List AV} {ds : List PyData} : (p, AO.lst xs) ∈ Γ → Dns Γ xs ds → Dn Γ (.ptr p) (.list ds)
inductive Dns (Γ : Gam) : List AV → List PyData → Prop
  | nil : Dns Γ [] []
  | cons {x : AV} {xs : List AV} {d : PyData} {ds : List PyData} : Dn Γ x d → Dns Γ xs ds → Dns Γ (x :: xs) (d :: ds)
end
mutual
theorem Dn.dp {F H : Hp} {Θ : Gam} (gm : Gm K F H (Γ ++ Θ)) : ∀ (d : PyData) (x : AV) (v : V), Dn Γ x d → Rp K F v x → Dp K H v d
  | .none, x, v, h, r => by cases h; cases r; exact .non
  | .bool b, x, v, h, r => by cases h; cases r; exact .bl b
  | .int i, x, v, h, r => by cases h; cases r; exact .int i
  | .str s, x, v, h, r => by cases h; cases r; exact .str s
  | .dict _, x, v, h, r => by cases h
  | .tuple ds, x, v, h, r => by
    cases h with
    | tup h => cases r with
      | tup e q => exact .tup (SqT.of (gm.sub _ _ e)) (Dns.dp gm ds _ _ h q)
  | .list ds, x, v, h, r => by
    cases h with
    | lst h => cases r with
      | lst e q => exact .lst (SqL.of (gm.sub _ _ e)) (Dns.dp gm ds _ _ h q)
    | rol h => cases r with
      | rol e q => exact .lst (gm.sub.seq e) (Dns.dp gm ds _ _ h q)
    | live hm h => cases r with
      | ptr =>
        obtain ⟨_, o, e, ro⟩ := gm.obj _ _ (List.mem_append_left _ hm)
        cases ro with
        | lst ro => exact .lst (SqL.of e) (Dns.dp gm ds _ _ h ro)
theorem Dns.dp {F H : Hp} {Θ : Gam} (gm : Gm K F H (Γ ++ Θ)) : ∀ (ds : List PyData) (xs : List AV) (vs : List V), Dns Γ xs ds → Rps K F vs xs → DpAll K H vs ds
  | [], xs, vs, h, r => by cases h; cases r; exact .nil
  | d :: ds, xs, vs, h, r => by
    cases h with
    | cons h1 h2 => cases r with
      | cons r1 r2 => exact .cons (Dn.dp gm d _ _ h1 r1) (Dns.dp gm ds _ _ h2 r2)
end
def rEqA (K : PySem.W.Frag) : R2 := fun x y H Q => rEq x y H Q ∨ rEqD K x y H Q
def rNeA (K : PySem.W.Frag) : R2 := fun x y H Q => rNe x y H Q ∨ rNeD K x y H Q
theorem op_eqA {X : Cx} (hu : X.A.units + 64 < cLine) : OpR X (compareOp .Eq) (rEqA X.K) := op_eq.or (op_eqD hu)
theorem op_neA {X : Cx} (hu : X.A.units + 64 < cLine) : OpR X (compareOp .NotEq) (rNeA X.K) := op_ne.or (op_neD hu)
theorem wr_sc {r : R2} {f : Bool → Bool} {a b : V} (hx : ∀ F v, Rp K F v x → v = a) (hy : ∀ F v, Rp K F v y → v = b) (hs : scal a b = true) (hr : ∀ (H : Hp) (Q : VK), scal a b = true ∧ Q (.bl (f (decide (a = b)))) H → r a b H Q) (k : Φ (.bl (f (decide (a = b)))) Γ) : WR K r x y Γ Φ := fun v u F H Θ r1 r2 gm Q q => by
  obtain rfl := hx F v r1
  obtain rfl := hy F u r2
  exact hr H Q ⟨hs, q _ H ⟨F, _, Γ, Same.refl F, gm, .bl _, k⟩⟩
theorem wr_eqI (k : Φ (.bl (decide (i = j))) Γ) : WR K (rEqA K) (.int i) (.int j) Γ Φ := wr_l (wr_sc (f := id) (a := .int i) (b := .int j) (fun _ _ r => by cases r; rfl) (fun _ _ r => by cases r; rfl) rfl (fun _ _ h => h) (by
  have e : decide (V.int i = V.int j) = decide (i = j) := decide_eq_decide.mpr ⟨fun z => V.int.inj z, fun z => by rw [z]⟩
  show Φ (.bl (decide (V.int i = V.int j))) Γ
  rw [e]; exact k))
theorem wr_neI (k : Φ (.bl (!decide (i = j))) Γ) : WR K (rNeA K) (.int i) (.int j) Γ Φ := wr_l (wr_sc (f := not) (a := .int i) (b := .int j) (fun _ _ r => by cases r; rfl) (fun _ _ r => by cases r; rfl) rfl (fun _ _ h => h) (by
  have e : decide (V.int i = V.int j) = decide (i = j) := decide_eq_decide.mpr ⟨fun z => V.int.inj z, fun z => by rw [z]⟩
  rw [e]; exact k))
theorem wr_eqS (k : Φ (.bl (decide (s = t))) Γ) : WR K (rEqA K) (.str s) (.str t) Γ Φ := wr_l (wr_sc (f := id) (a := .str s) (b := .str t) (fun _ _ r => by cases r; rfl) (fun _ _ r => by cases r; rfl) rfl (fun _ _ h => h) (by
  have e : decide (V.str s = V.str t) = decide (s = t) := decide_eq_decide.mpr ⟨fun z => V.str.inj z, fun z => by rw [z]⟩
  show Φ (.bl (decide (V.str s = V.str t))) Γ
  rw [e]; exact k))
theorem wr_neS (k : Φ (.bl (!decide (s = t))) Γ) : WR K (rNeA K) (.str s) (.str t) Γ Φ := wr_l (wr_sc (f := not) (a := .str s) (b := .str t) (fun _ _ r => by cases r; rfl) (fun _ _ r => by cases r; rfl) rfl (fun _ _ h => h) (by
  have e : decide (V.str s = V.str t) = decide (s = t) := decide_eq_decide.mpr ⟨fun z => V.str.inj z, fun z => by rw [z]⟩
  rw [e]; exact k))
theorem wr_eqB {a b : Bool} (k : Φ (.bl (decide (a = b))) Γ) : WR K (rEqA K) (.bl a) (.bl b) Γ Φ := wr_l (wr_sc (f := id) (a := .bl a) (b := .bl b) (fun _ _ r => by cases r; rfl) (fun _ _ r => by cases r; rfl) rfl (fun _ _ h => h) (by
  have e : decide (V.bl a = V.bl b) = decide (a = b) := decide_eq_decide.mpr ⟨fun z => V.bl.inj z, fun z => by rw [z]⟩
  show Φ (.bl (decide (V.bl a = V.bl b))) Γ
  rw [e]; exact k))
theorem wr_eqD {d e : PyData} (h1 : Dn Γ x d) (h2 : Dn Γ y e) (s1 : SeqAt.shaped d = true) (s2 : SeqAt.shaped e = true) (k : Φ (.bl (PyData.eqv d e)) Γ) : WR K (rEqA K) x y Γ Φ := wr_r fun v u F H Θ r1 r2 gm Q q =>
  ⟨d, e, h1.dp gm _ _ _ r1, h2.dp gm _ _ _ r2, s1, s2, q _ H ⟨F, _, Γ, Same.refl F, gm, .bl _, k⟩⟩
theorem wr_neD {d e : PyData} (h1 : Dn Γ x d) (h2 : Dn Γ y e) (s1 : SeqAt.shaped d = true) (s2 : SeqAt.shaped e = true) (k : Φ (.bl (!PyData.eqv d e)) Γ) : WR K (rNeA K) x y Γ Φ := wr_r fun v u F H Θ r1 r2 gm Q q =>
  ⟨d, e, h1.dp gm _ _ _ r1, h2.dp gm _ _ _ r2, s1, s2, q _ H ⟨F, _, Γ, Same.refl F, gm, .bl _, k⟩⟩
abbrev rLtS : R2 := fun x y H Q => ∃ i j, x = .str i ∧ y = .str j ∧ Q (.bl (decide (i.cps.toList < j.cps.toList))) H
def rLtA : R2 := fun x y H Q => rI0 (fun i j => .bl (decide (i < j))) x y H Q ∨ rLtS x y H Q
def rLeA : R2 := rI0 fun i j => .bl (decide (i ≤ j))
def rGtA : R2 := rI0 fun i j => .bl (decide (j < i))
abbrev rGeS : R2 := fun x y H Q => ∃ i j, x = .str i ∧ y = .str j ∧ Q (.bl (!decide (i.cps.toList < j.cps.toList))) H
def rGeA : R2 := fun x y H Q => rI0 (fun i j => .bl (decide (j ≤ i))) x y H Q ∨ rGeS x y H Q
theorem op_ltA {X : Cx} : OpR X (compareOp .Lt) rLtA := op_lt.or op_lt_str
theorem op_leA {X : Cx} : OpR X (compareOp .LtE) rLeA := op_le
theorem op_gtA {X : Cx} : OpR X (compareOp .Gt) rGtA := op_gt
theorem op_geA {X : Cx} : OpR X (compareOp .GtE) rGeA := op_ge.or op_ge_str
theorem wr_lt (k : Φ (.bl (decide (i < j))) Γ) : WR K rLtA (.int i) (.int j) Γ Φ := wr_l (wr_I0 (fun _ => .bl _) k)
theorem wr_le (k : Φ (.bl (decide (i ≤ j))) Γ) : WR K rLeA (.int i) (.int j) Γ Φ := wr_I0 (fun _ => .bl _) k
theorem wr_gt (k : Φ (.bl (decide (j < i))) Γ) : WR K rGtA (.int i) (.int j) Γ Φ := wr_I0 (fun _ => .bl _) k
theorem wr_ge (k : Φ (.bl (decide (j ≤ i))) Γ) : WR K rGeA (.int i) (.int j) Γ Φ := wr_l (wr_I0 (fun _ => .bl _) k)
theorem wr_ltS (k : Φ (.bl (decide (s.cps.toList < t.cps.toList))) Γ) : WR K rLtA (.str s) (.str t) Γ Φ := wr_r fun v u F H Θ r1 r2 gm Q q => by
  cases r1; cases r2
  exact ⟨s, t, rfl, rfl, q _ H ⟨F, _, Γ, Same.refl F, gm, .bl _, k⟩⟩
theorem wr_geS (k : Φ (.bl (!decide (s.cps.toList < t.cps.toList))) Γ) : WR K rGeA (.str s) (.str t) Γ Φ := wr_r fun v u F H Θ r1 r2 gm Q q => by
  cases r1; cases r2
  exact ⟨s, t, rfl, rfl, q _ H ⟨F, _, Γ, Same.refl F, gm, .bl _, k⟩⟩
/-- is None, is not None -/
def isNon : AV → Bool
  | .non => true
  | _ => false
abbrev rIsN : R2 := fun x y H Q => y = .non ∧ Q (.bl (decide (x = .non))) H
abbrev rNotN : R2 := fun x y H Q => y = .non ∧ Q (.bl (!decide (x = .non))) H
def rIsA : R2 := fun x y H Q => rIsN x y H Q ∨ rIsB x y H Q
def rIsNotA : R2 := fun x y H Q => rNotN x y H Q ∨ rNotB x y H Q
theorem op_isA {X : Cx} : OpR X (compareOp .Is) rIsA := op_isN.or op_isBl
theorem op_isNotA {X : Cx} : OpR X (compareOp .IsNot) rIsNotA := op_notN.or op_notBl
theorem rp_non {F : Hp} {v : V} (r : Rp K F v x) : decide (v = .non) = isNon x := by cases r <;> rfl
theorem wr_isN (k : Φ (.bl (isNon x)) Γ) : WR K rIsA x .non Γ Φ := wr_l fun v u F H Θ r1 r2 gm Q q => by
  cases r2
  rw [← rp_non r1] at k
  exact ⟨rfl, q _ H ⟨F, _, Γ, Same.refl F, gm, .bl _, k⟩⟩
theorem wr_notN (k : Φ (.bl (!isNon x)) Γ) : WR K rIsNotA x .non Γ Φ := wr_l fun v u F H Θ r1 r2 gm Q q => by
  cases r2
  rw [← rp_non r1] at k
  exact ⟨rfl, q _ H ⟨F, _, Γ, Same.refl F, gm, .bl _, k⟩⟩
theorem wr_isB {a b : Bool} (k : Φ (.bl (decide (a = b))) Γ) : WR K rIsA (.bl a) (.bl b) Γ Φ := wr_r fun v u F H Θ r1 r2 gm Q q => by
  cases r1; cases r2
  exact ⟨a, b, rfl, rfl, q _ H ⟨F, _, Γ, Same.refl F, gm, .bl _, k⟩⟩
theorem wr_notB {a b : Bool} (k : Φ (.bl (!decide (a = b))) Γ) : WR K rIsNotA (.bl a) (.bl b) Γ Φ := wr_r fun v u F H Θ r1 r2 gm Q q => by
  cases r1; cases r2
  exact ⟨a, b, rfl, rfl, q _ H ⟨F, _, Γ, Same.refl F, gm, .bl _, k⟩⟩
end
end Ab

namespace Ab
open PySem L2 PyProof.Rows

/-! ### keys, dicts -/
def kA : Key → AV
  | .inl i => .int i
  | .inr x => .str x
section
variable {κ : Type} [DecidableEq κ]
def valA (kvs : List (κ × AV)) (k : κ) : Option AV := (kvs.find? fun kv => decide (kv.1 = k)).map (·.2)
def putA (kvs : List (κ × AV)) (k : κ) (v : AV) : List (κ × AV) := if (kvs.any fun kv => decide (kv.1 = k)) = true then kvs.map (fun kv => if kv.1 = k then (kv.1, v) else kv) else kvs ++ [(k, v)]
def dropA (kvs : List (κ × AV)) (k : κ) : List (κ × AV) := kvs.filter fun kv => decide (kv.1 ≠ k)
variable {K : PySem.W.Frag} {F : Hp} {l : List (κ × V)} {m : List (κ × AV)}
def RpOp (K : PySem.W.Frag) (F : Hp) : Option V → Option AV → Prop
  | some v, some a => Rp K F v a
  | none, none => True
  | _, _ => False
theorem KVr.val (r : KVr K F l m) (k : κ) : RpOp K F (valV l k) (valA m k) := by
  unfold KVr at r
  induction r with
  | nil => trivial
  | @cons p q ps qs h t ih =>
    unfold valV valA at ih ⊢
    rw [List.find?_cons, List.find?_cons, ← h.1]
    cases decide (p.1 = k) with
    | true => exact h.2
    | false => exact ih
theorem KVr.any (r : KVr K F l m) (k : κ) : (l.any fun kv => decide (kv.1 = k)) = (m.any fun kv => decide (kv.1 = k)) := by
  unfold KVr at r
  induction r with
  | nil => rfl
  | @cons p q ps qs h t ih => rw [List.any_cons, List.any_cons, ih, h.1]
theorem KVr.put (r : KVr K F l m) (k : κ) {v : V} {a : AV} (ra : Rp K F v a) : KVr K F (putK l k v) (putA m k a) := by
  unfold putK putA
  rw [r.any k]
  split
  · rename_i hh
    clear hh
    unfold KVr at r ⊢
    induction r with
    | nil => exact .nil
    | @cons p q ps qs h t ih =>
      rw [List.map_cons, List.map_cons]
      refine .cons ?_ ih
      rw [h.1]
      by_cases e : q.1 = k
      · rw [if_pos e, if_pos e]; exact ⟨rfl, ra⟩
      · rw [if_neg e, if_neg e]; exact h
  · exact Paired.snoc r ⟨rfl, ra⟩
theorem KVr.drop (r : KVr K F l m) (k : κ) : KVr K F (dropK l k) (dropA m k) := by
  unfold dropK dropA
  unfold KVr at r ⊢
  induction r with
  | nil => exact .nil
  | @cons p q ps qs h t ih =>
    rw [List.filter_cons, List.filter_cons, h.1]
    split
    · exact .cons h ih
    · exact ih
theorem KVr.length (r : KVr K F l m) : l.length = m.length := Paired.length r
theorem KVr.keys (r : KVr K F l m) : l.map (·.1) = m.map (·.1) := by
  unfold KVr at r
  induction r with
  | nil => rfl
  | cons h t ih => rw [List.map_cons, List.map_cons, ih, h.1]
theorem RpOp.some {o : Option V} {a : AV} (r : RpOp K F o (some a)) : ∃ v, o = some v ∧ Rp K F v a := by
  cases o with
  | none => exact r.elim
  | some v => exact ⟨v, rfl, r⟩
theorem RpOp.none {o : Option V} (r : RpOp K F o none) : o = none := by
  cases o with
  | none => rfl
  | some v => exact r.elim
theorem RpOp.isSome {o : Option V} {a : Option AV} (r : RpOp K F o a) : o.isSome = a.isSome := by
  cases o <;> cases a <;> first | rfl | exact r.elim
end
section
variable {K : PySem.W.Frag} {F H : Hp} {Γ Θ : Gam} {v : V} {x y : AV}
theorem rp_key {k : Key} (r : Rp K F v (kA k)) : v = kV k := by
  cases k <;> (cases r; rfl)
theorem rps_keys {ks : List Key} {vs : List V} (r : Rps K F vs (ks.map kA)) : vs = ks.map kV := by
  induction ks generalizing vs with
  | nil => cases r; rfl
  | cons k ks ih => cases r with
    | cons h t => rw [rp_key h, ih t]; rfl
/-- what a dict tells of a key -/
inductive DgA (Γ : Gam) : AV → AV → Option AV → Prop
  | k {i : Nat} {kvs : List (Key × AV)} {x : AV} {k : Key} {y : AV} : DkA Γ i x kvs → y = kA k → DgA Γ x y (valA kvs k)
  | t {i : Nat} {kvs : List (List Key × AV)} {x : AV} {k : List Key} {y : AV} : DtA Γ i x kvs → y = .tup (k.map kA) → DgA Γ x y (valA kvs k)
  | fk {i : Nat} {o : Obj} {l : List (Key × V)} {kvs : List (Key × AV)} {p : Addr} {k : Key} {y : AV} : Γ[i]? = some (p, .fK o l kvs) → y = kA k → DgA Γ (.ptr p) y (valA kvs k)
  | ft {i : Nat} {o : Obj} {l : List (List Key × V)} {kvs : List (List Key × AV)} {p : Addr} {k : List Key} {y : AV} : Γ[i]? = some (p, .fT o l kvs) → y = .tup (k.map kA) → DgA Γ (.ptr p) y (valA kvs k)
theorem DgA.get {o : Option AV} (h : DgA Γ x y o) (gm : Gm K F H (Γ ++ Θ)) {u : V} (r1 : Rp K F v x) (r2 : Rp K F u y) : ∃ q o', v = .ref q ∧ DGet H q u o' ∧ RpOp K F o' o := by
  cases h with
  | @k i kvs _ k _ h e =>
    obtain ⟨q, vs, _, rfl, _, e2, rk⟩ := h.get gm r1
    subst e
    rw [rp_key r2]
    exact ⟨q, _, rfl, DGet.k e2, rk.val k⟩
  | @t i kvs _ k _ h e =>
    obtain ⟨q, vs, _, rfl, _, e2, rk⟩ := h.get gm r1
    subst e
    cases r2 with
    | tup e3 r3 =>
      have e4 := rps_keys r3
      subst e4
      exact ⟨q, _, rfl, DGet.t e2 (gm.sub _ _ e3), rk.val k⟩
  | @fk i o l kvs p k _ h e =>
    cases r1
    obtain ⟨_, o', e2, ro⟩ := gm.at_ (ix_left h)
    cases ro with
    | fK rk =>
      subst e
      rw [rp_key r2]
      exact ⟨p, _, rfl, .inl ⟨l, k, .inr ⟨_, e2⟩, rfl, rfl⟩, rk.val k⟩
  | @ft i o l kvs p k _ h e =>
    cases r1
    obtain ⟨_, o', e2, ro⟩ := gm.at_ (ix_left h)
    cases ro with
    | fT rk =>
      subst e
      cases r2 with
      | tup e3 r3 =>
        have e4 := rps_keys r3
        subst e4
        exact ⟨p, _, rfl, .inr ⟨l, k, _, .inr ⟨_, e2⟩, rfl, gm.sub _ _ e3, rfl⟩, rk.val k⟩
inductive DpA (Γ : Gam) : AV → AV → AV → Gam → Prop
  | k {i : Nat} {kvs : List (Key × AV)} {p : Addr} {k : Key} {v y : AV} {Γ' : Gam} : Γ[i]? = some (p, .dK kvs) → y = kA k → kvs.length < sizeLine → Γ.set i (p, .dK (putA kvs k v)) = Γ' → DpA Γ (.ptr p) y v Γ'
  | t {i : Nat} {kvs : List (List Key × AV)} {p : Addr} {k : List Key} {v y : AV} {Γ' : Gam} : Γ[i]? = some (p, .dT kvs) → y = .tup (k.map kA) → kvs.length < sizeLine → Γ.set i (p, .dT (putA kvs k v)) = Γ' → DpA Γ (.ptr p) y v Γ'
end

/-! ### subscripts -/
def rIxDc : R2 := fun x y H Q => ∃ a v, x = .ref a ∧ DGet H a y (some v) ∧ Q v H
theorem ix_dict {X : Cx} (hu : X.A.units + 1 < cLine) : IxR X rIxDc := by
  intro value slice pins s σ H x y v u Q I rx ry h hs
  obtain ⟨a, z, rfl, g, q⟩ := h
  cases rx
  have hT := dict_typeIs I g
  unfold subscriptTail
  refine wpAny_bind ?_
  rw [getitemInPython_of_ne hT.not_modules]
  refine wpAny_bind (wpAny_specialOf hT PySem.F.slot_dict_getitem.lookup ?_)
  have fin : wpAny (model X.prog X.w) X.A (subscripted slice false (.ref a) u) (fun r s₃ => wpAny (model X.prog X.w) X.A (letTemporaryGo value (.ref a) r >>= fun _ => pure r) (EP X pins σ Q) X.xe s₃) X.xe s := by
    rw [hs]
    exact wpAny_operating (wpAny_mono (d_getItem hu I g ry fun w' s3 I3 rw' => (⟨z, H, I3, rw', q⟩ : EP X pins σ Q w' s3)) (fun r s₃ h₃ => wpAny_bind (wpAny_letTemporaryGo (wpAny_pure h₃))) fun _ _ x => x)
  first
    | exact wpAny_pure (wpAny_bind fin)
    | exact wpAny_bind (wpAny_pure (wpAny_bind fin))
    | exact wpAny_bind fin
def rIxA (K : PySem.W.Frag) : R2 := fun x y H Q => rIxL K x y H Q ∨ (rIxT K x y H Q ∨ (rIxS x y H Q ∨ rIxDc x y H Q))
theorem ix_any {X : Cx} (hu : X.A.units + 1 < cLine) : IxR X (rIxA X.K) := ix_list.or (ix_tup.or (ix_str.or (ix_dict hu)))
section
variable {K : PySem.W.Frag} {δ : Del} {Γ : Gam} {Φ : AV → Gam → Prop} {x y z : AV} {xs : List AV} {i : Int} {s : Str}
theorem Rps.atI {F : Hp} {vs : List V} (r : Rps K F vs xs) (h : atI xs i = some x) : ∃ v, atI vs i = some v ∧ Rp K F v x := by
  unfold L2.atI at h ⊢
  rw [r.length]
  cases e : ixN xs.length i with
  | none => rw [e] at h; cases h
  | some j =>
    rw [e] at h
    exact r.get h
theorem wr_ixL (h : LsR Γ x xs) (ha : atI xs i = some z) (k : Φ z Γ) : WR K (rIxA K) x (.int i) Γ Φ := wr_l fun v u F H Θ r1 r2 gm Q q => by
  obtain ⟨p, vs, rfl, e1, q1⟩ := h.get gm r1
  cases r2
  obtain ⟨w, e2, rw'⟩ := q1.atI ha
  exact ⟨p, vs, i, w, rfl, rfl, e1, e2, q w H ⟨F, _, Γ, Same.refl F, gm, rw', k⟩⟩
theorem wr_ixT (ha : atI xs i = some z) (k : Φ z Γ) : WR K (rIxA K) (.tup xs) (.int i) Γ Φ := wr_r (wr_l fun v u F H Θ r1 r2 gm Q q => by
  cases r1 with
  | tup e1 q1 =>
    cases r2
    obtain ⟨w, e2, rw'⟩ := q1.atI ha
    exact ⟨_, _, i, w, rfl, rfl, SqT.of (gm.sub _ _ e1), e2, q w H ⟨F, _, Γ, Same.refl F, gm, rw', k⟩⟩)
theorem wr_ixS {c : Nat} (hl : s.length ≤ sizeLine) (ha : atI s.cps.toList i = some c) (k : Φ (.str ⟨#[c]⟩) Γ) : WR K (rIxA K) (.str s) (.int i) Γ Φ := wr_r (wr_r (wr_l fun v u F H Θ r1 r2 gm Q q => by
  cases r1; cases r2
  exact ⟨s, i, c, rfl, rfl, hl, ha, q _ H ⟨F, _, Γ, Same.refl F, gm, .str _, k⟩⟩))
theorem wr_ixD (h : DgA Γ x y (some z)) (k : Φ z Γ) : WR K (rIxA K) x y Γ Φ := wr_r (wr_r (wr_r fun v u F H Θ r1 r2 gm Q q => by
  obtain ⟨p, o, rfl, g, ro⟩ := h.get gm r1 r2
  obtain ⟨w, rfl, rw'⟩ := ro.some
  exact ⟨p, w, rfl, g, q w H ⟨F, _, Γ, Same.refl F, gm, rw', k⟩⟩))

/-! ### slices -/
def cutA (xs : List AV) (lo hi : Option Int) : List AV := (xs.drop (HT.sIx xs.length 0 lo)).take (HT.sIx xs.length xs.length hi - HT.sIx xs.length 0 lo)
theorem Rps.cut {F : Hp} {vs : List V} (r : Rps K F vs xs) (lo hi : Option Int) : Rps K F (cutV vs lo hi) (cutA xs lo hi) := by
  unfold cutV cutA
  rw [r.length]
  exact (r.drop _).take _
def rSlA (K : PySem.W.Frag) : V → Option Int → Option Int → Hp → VK → Prop := fun x lo hi H Q => rSlL K x lo hi H Q ∨ (rSlT K x lo hi H Q ∨ rSlS x lo hi H Q)
theorem sl_any {X : Cx} : SlR X (rSlA X.K) := sl_list.or (sl_tup.or sl_str)
def WSl (K : PySem.W.Frag) (r : V → Option Int → Option Int → Hp → VK → Prop) (x : AV) (lo hi : Option Int) (Γ : Gam) (Φ : AV → Gam → Prop) : Prop := ∀ v F H Θ, Rp K F v x → Gm K F H (Γ ++ Θ) → ∀ Q : VK, (∀ v H', PoE K F Θ Φ v H' → Q v H') → r v lo hi H Q
theorem wo_none {Φ : Option Int → Gam → Prop} (k : Φ none Γ) : WO K tNoPart δ Γ Φ := fun σ F H Θ en gm Q q => q _ H ⟨F, Γ, Same.refl F, gm, k⟩
theorem wo_some {te : TE} {Φ : Option Int → Gam → Prop} (h : WE K te δ Γ fun x Γ1 => ∃ i, x = .int i ∧ Φ (some i) Γ1) : WO K (tPart te) δ Γ Φ := fun σ F H Θ en gm Q q =>
  h σ F H Θ en gm _ fun v H1 ⟨F1, av, Γ1, s1, g1, r1, i, e, k⟩ => by subst e; cases r1; exact ⟨i, rfl, q _ H1 ⟨F1, Γ1, s1, g1, k⟩⟩
theorem we_sl {r : V → Option Int → Option Int → Hp → VK → Prop} {te : TE} {tl th : TO} (h : WE K te δ Γ fun x Γ1 => WO K tl δ Γ1 fun lo Γ2 => WO K th δ Γ2 fun hi Γ3 => WSl K r x lo hi Γ3 Φ) : WE K (tSl r te tl th) δ Γ Φ := fun σ F H Θ en gm Q q =>
  h σ F H Θ en gm _ fun v H1 ⟨F1, av, Γ1, s1, g1, r1, h1⟩ => h1 σ F1 H1 Θ (en.mono s1) g1 _ fun lo H2 ⟨F2, Γ2, s2, g2, h2⟩ => h2 σ F2 H2 Θ (en.mono (s1.trans s2)) g2 _ fun hi H3 ⟨F3, Γ3, s3, g3, h3⟩ =>
    h3 v F3 H3 Θ (Rp.mono (s2.trans s3) _ _ r1) g3 Q fun w H4 p => q w H4 (p.back ((s1.trans s2).trans s3))
variable {lo hi : Option Int}
theorem wsl_L (h : LsR Γ x xs) (k : Φ (.lst (cutA xs lo hi)) Γ) : WSl K (rSlA K) x lo hi Γ Φ := fun v F H Θ r1 gm Q q => by
  obtain ⟨p, vs, rfl, e1, q1⟩ := h.get gm r1
  refine .inl ⟨p, vs, rfl, e1, fun n hn => ?_⟩
  obtain ⟨s2, g2⟩ := gm.froz (o := .lst (cutV vs lo hi)) hn
  exact q _ _ ⟨_, _, Γ, s2, g2, .lst upd_same (Rps.mono s2 _ _ (q1.cut lo hi)), k⟩
theorem wsl_LL (h : LsR Γ x xs) (k : ∀ p, Φ (.ptr p) ((p, .lst (cutA xs lo hi)) :: Γ)) : WSl K (rSlA K) x lo hi Γ Φ := fun v F H Θ r1 gm Q q => by
  obtain ⟨p, vs, rfl, e1, q1⟩ := h.get gm r1
  refine .inl ⟨p, vs, rfl, e1, fun n hn => ?_⟩
  exact q _ _ ⟨F, _, _, Same.refl F, gm.new hn (.lst (q1.cut lo hi)), .ptr n, k n⟩
theorem wsl_T (hw : ¬ (HT.sIx xs.length 0 lo = 0 ∧ HT.sIx xs.length xs.length hi = xs.length)) (k : Φ (.tup (cutA xs lo hi)) Γ) : WSl K (rSlA K) (.tup xs) lo hi Γ Φ := fun v F H Θ r1 gm Q q => by
  cases r1 with
  | @tup a vs _ e1 q1 =>
    refine .inr (.inl ⟨a, vs, rfl, SqT.of (gm.sub _ _ e1), by rw [q1.length]; exact hw, fun n hn => ?_⟩)
    obtain ⟨s2, g2⟩ := gm.froz (o := .tup (cutV vs lo hi)) hn
    exact q _ _ ⟨_, _, Γ, s2, g2, .tup upd_same (Rps.mono s2 _ _ (q1.cut lo hi)), k⟩
theorem wsl_S (hl : s.length ≤ sizeLine) (k : Φ (.str (cutS s lo hi)) Γ) : WSl K (rSlA K) (.str s) lo hi Γ Φ := fun v F H Θ r1 gm Q q => by
  cases r1
  exact .inr (.inr ⟨s, rfl, hl, q _ H ⟨F, _, Γ, Same.refl F, gm, .str _, k⟩⟩)
end

/-! ### in -/
def rInDc (neg : Bool) : R2 := fun y x H Q => ∃ a o, x = .ref a ∧ DGet H a y o ∧ Q (.bl (if neg then !o.isSome else o.isSome)) H
abbrev rInSg : R2 := fun x y H Q => ∃ (c : Nat) (z : Str), x = .str ⟨#[c]⟩ ∧ y = .str z ∧ Q (.bl (decide (c ∈ z.cps.toList))) H
abbrev rNotInSg : R2 := fun x y H Q => ∃ (c : Nat) (z : Str), x = .str ⟨#[c]⟩ ∧ y = .str z ∧ Q (.bl (!decide (c ∈ z.cps.toList))) H
def rInA (K : PySem.W.Frag) : R2 := fun x y H Q => rInSg x y H Q ∨ (rIn K false x y H Q ∨ (rInDc false x y H Q ∨ rInD K x y H Q))
def rNotInA (K : PySem.W.Frag) : R2 := fun x y H Q => rNotInSg x y H Q ∨ (rIn K true x y H Q ∨ (rInDc true x y H Q ∨ rNotInD K x y H Q))
section
variable {X : Cx}
theorem op_inDc (hu : X.A.units + 1 < cLine) : OpR X (compareOp .In) (rInDc false) := by
  intro pins s σ H y x u v Q I ry rx h
  obtain ⟨a, o, rfl, g, q⟩ := h
  cases rx
  exact d_in hu I g ry fun s' I' => ⟨.bl o.isSome, H, I', rfl, q⟩
theorem op_notInDc (hu : X.A.units + 1 < cLine) : OpR X (compareOp .NotIn) (rInDc true) := by
  intro pins s σ H y x u v Q I ry rx h
  obtain ⟨a, o, rfl, g, q⟩ := h
  cases rx
  exact d_notIn hu I g ry fun s' I' => ⟨.bl (!o.isSome), H, I', rfl, q⟩
theorem op_inA (h1 : X.A.units + 65 < cLine) : OpR X (compareOp .In) (rInA X.K) := op_in_sign.or (op_in_seq.or ((op_inDc (by omega)).or (op_inD h1)))
theorem op_notInA (h1 : X.A.units + 65 < cLine) : OpR X (compareOp .NotIn) (rNotInA X.K) := op_notIn_sign.or (op_notIn_seq.or ((op_notInDc (by omega)).or (op_notInD h1)))
end
section
variable {K : PySem.W.Frag} {δ : Del} {Γ : Gam} {Φ : AV → Gam → Prop} {x y z : AV} {xs : List AV} {c : Nat} {s : Str}
theorem wr_inSg (k : Φ (.bl (decide (c ∈ s.cps.toList))) Γ) : WR K (rInA K) (.str ⟨#[c]⟩) (.str s) Γ Φ := wr_l fun v u F H Θ r1 r2 gm Q q => by
  cases r1; cases r2
  exact ⟨c, s, rfl, rfl, q _ H ⟨F, _, Γ, Same.refl F, gm, .bl _, k⟩⟩
theorem wr_notInSg (k : Φ (.bl (!decide (c ∈ s.cps.toList))) Γ) : WR K (rNotInA K) (.str ⟨#[c]⟩) (.str s) Γ Φ := wr_l fun v u F H Θ r1 r2 gm Q q => by
  cases r1; cases r2
  exact ⟨c, s, rfl, rfl, q _ H ⟨F, _, Γ, Same.refl F, gm, .bl _, k⟩⟩
/-- flat things -/
def flA : AV → Option V
  | .non => some .non
  | .bl b => some (.bl b)
  | .int i => some (.int i)
  | .str s => some (.str s)
  | _ => none
theorem rp_fl {F : Hp} {v w : V} (r : Rp K F v x) (h : flA x = some w) : v = w ∧ flatV w = true := by
  cases r <;> first | (cases h; exact ⟨rfl, rfl⟩) | (exact absurd h (by intro z; cases z))
theorem rps_fl {F : Hp} : ∀ {vs : List V} {xs : List AV} {ws : List V}, Rps K F vs xs → xs.map flA = ws.map some → vs = ws ∧ ws.all flatV = true
  | _, [], ws, r, h => by
    cases r
    cases ws with
    | nil => exact ⟨rfl, rfl⟩
    | cons _ _ => exact absurd h (by simp)
  | _, x :: xs, ws, r, h => by
    cases r with
    | cons r1 r2 =>
      cases ws with
      | nil => exact absurd h (by simp)
      | cons w ws =>
        rw [List.map_cons, List.map_cons] at h
        injection h with h1 h2
        obtain ⟨e1, f1⟩ := rp_fl r1 h1
        obtain ⟨e2, f2⟩ := rps_fl r2 h2
        exact ⟨by rw [e1, e2], by rw [List.all_cons, f1, f2]; rfl⟩
inductive SeA (Γ : Gam) : AV → List AV → Prop
  | l {x : AV} {xs : List AV} : LsR Γ x xs → SeA Γ x xs
  | t {xs : List AV} : SeA Γ (.tup xs) xs
theorem SeA.get {F H : Hp} {Θ : Gam} {v : V} (h : SeA Γ x xs) (g : Gm K F H (Γ ++ Θ)) (r : Rp K F v x) : ∃ q vs, v = .ref q ∧ (SqL K H q vs ∨ SqT K H q vs) ∧ Rps K F vs xs := by
  cases h with
  | l h =>
    obtain ⟨q, vs, e, h1, h2⟩ := h.get g r
    exact ⟨q, vs, e, .inl h1, h2⟩
  | t => cases r with
    | tup e q => exact ⟨_, _, rfl, .inr (SqT.of (g.sub _ _ e)), q⟩
theorem wr_inF {neg : Bool} {w : V} {ws : List V} (h : SeA Γ y xs) (hx : flA x = some w) (hs : xs.map flA = ws.map some) (k : Φ (.bl (if neg then !inV w ws else inV w ws)) Γ) : WR K (rIn K neg) x y Γ Φ := fun v u F H Θ r1 r2 gm Q q => by
  obtain ⟨p, vs, rfl, e1, q1⟩ := h.get gm r2
  obtain ⟨rfl, f1⟩ := rp_fl r1 hx
  obtain ⟨rfl, f2⟩ := rps_fl q1 hs
  exact ⟨p, _, rfl, e1, f1, f2, q _ H ⟨F, _, Γ, Same.refl F, gm, .bl _, k⟩⟩
theorem inV_str (s : Str) (ss : List Str) : inV (.str s) (ss.map V.str) = decide (s ∈ ss) := by
  unfold inV
  rw [List.any_map]
  induction ss with
  | nil => rfl
  | cons t ts ih =>
    rw [List.any_cons, ih]
    show (eqV (.str t) (.str s) || _) = _
    have e : eqV (.str t) (.str s) = decide (s = t) := by
      show (t == s) = decide (s = t)
      by_cases q : s = t
      · subst q; simp
      · rw [decide_eq_false q, beq_eq_false_iff_ne]; exact fun z => q z.symm
    rw [e]
    simp [List.mem_cons]
theorem inV_int (s : Int) (ss : List Int) : inV (.int s) (ss.map V.int) = decide (s ∈ ss) := by
  unfold inV
  rw [List.any_map]
  induction ss with
  | nil => rfl
  | cons t ts ih =>
    rw [List.any_cons, ih]
    show (eqV (.int t) (.int s) || _) = _
    have e : eqV (.int t) (.int s) = decide (s = t) := by
      show (t == s) = decide (s = t)
      by_cases q : s = t
      · subst q; simp
      · rw [decide_eq_false q, beq_eq_false_iff_ne]; exact fun z => q z.symm
    rw [e]
    simp [List.mem_cons]
theorem fl_strs (ss : List Str) : (ss.map AV.str).map flA = (ss.map V.str).map some := by
  rw [List.map_map, List.map_map]; rfl
theorem wr_inS {ss : List Str} (h : SeA Γ y (ss.map AV.str)) (k : Φ (.bl (decide (s ∈ ss))) Γ) : WR K (rInA K) (.str s) y Γ Φ :=
  wr_r (wr_l (wr_inF (neg := false) h (w := .str s) rfl (fl_strs ss) (by rw [if_neg Bool.false_ne_true, inV_str]; exact k)))
theorem wr_notInS {ss : List Str} (h : SeA Γ y (ss.map AV.str)) (k : Φ (.bl (!decide (s ∈ ss))) Γ) : WR K (rNotInA K) (.str s) y Γ Φ :=
  wr_r (wr_l (wr_inF (neg := true) h (w := .str s) rfl (fl_strs ss) (by rw [if_pos rfl, inV_str]; exact k)))
theorem wr_inDc {o : Option AV} (h : DgA Γ y x o) (k : Φ (.bl o.isSome) Γ) : WR K (rInA K) x y Γ Φ := wr_r (wr_r (wr_l fun v u F H Θ r1 r2 gm Q q => by
  obtain ⟨p, o', rfl, g, ro⟩ := h.get gm r2 r1
  refine ⟨p, o', rfl, g, q _ H ⟨F, _, Γ, Same.refl F, gm, .bl _, ?_⟩⟩
  rw [if_neg Bool.false_ne_true, ro.isSome]; exact k))
theorem wr_notInDc {o : Option AV} (h : DgA Γ y x o) (k : Φ (.bl (!o.isSome)) Γ) : WR K (rNotInA K) x y Γ Φ := wr_r (wr_r (wr_l fun v u F H Θ r1 r2 gm Q q => by
  obtain ⟨p, o', rfl, g, ro⟩ := h.get gm r2 r1
  refine ⟨p, o', rfl, g, q _ H ⟨F, _, Γ, Same.refl F, gm, .bl _, ?_⟩⟩
  rw [if_pos rfl, ro.isSome]; exact k))
theorem wr_inDp {d : PyData} {ds : List PyData} (h1 : Dn Γ x d) (h2 : Dn Γ y (.list ds)) (s1 : SeqAt.shaped d = true) (s2 : SeqAt.shaped (.list ds) = true) (k : Φ (.bl (ds.any fun z => PyData.eqv z d)) Γ) : WR K (rInA K) x y Γ Φ :=
  wr_r (wr_r (wr_r fun v u F H Θ r1 r2 gm Q q => ⟨d, ds, h1.dp gm _ _ _ r1, h2.dp gm _ _ _ r2, s1, s2, q _ H ⟨F, _, Γ, Same.refl F, gm, .bl _, k⟩⟩))
theorem wr_notInDp {d : PyData} {ds : List PyData} (h1 : Dn Γ x d) (h2 : Dn Γ y (.list ds)) (s1 : SeqAt.shaped d = true) (s2 : SeqAt.shaped (.list ds) = true) (k : Φ (.bl (!ds.any fun z => PyData.eqv z d)) Γ) : WR K (rNotInA K) x y Γ Φ :=
  wr_r (wr_r (wr_r fun v u F H Θ r1 r2 gm Q q => ⟨d, ds, h1.dp gm _ _ _ r1, h2.dp gm _ _ _ r2, s1, s2, q _ H ⟨F, _, Γ, Same.refl F, gm, .bl _, k⟩⟩))
end

/-! ### stores -/
def rSetDc : V → V → V → Hp → (Hp → Prop) → Prop := fun o i v H Q => ∃ a H', o = .ref a ∧ DPut H a i v H' ∧ Q H'
def rSetA : V → V → V → Hp → (Hp → Prop) → Prop := fun o i v H Q => rSetL o i v H Q ∨ rSetDc o i v H Q
theorem set_any {X : Cx} (hu : X.A.units + 1 < cLine) : PSet X rSetA := by
  intro pins s σ H o i v ov iv u Q I ro ri rv h
  rcases h with h | h
  · exact set_list pins s σ H o i v ov iv u Q I ro ri rv h
  · obtain ⟨a, H', rfl, g, q⟩ := h
    cases ro
    exact d_setItem hu I g ri rv fun s' I' => ⟨H', I', q⟩
def WSet (K : PySem.W.Frag) (t : V → V → V → Hp → (Hp → Prop) → Prop) (o i v : AV) (Γ : Gam) (Ψ : Gam → Prop) : Prop := ∀ o' i' v' F H Θ, Rp K F o' o → Rp K F i' i → Rp K F v' v → Gm K F H (Γ ++ Θ) → ∀ Q : Hp → Prop, (∀ H' Γ', Gm K F H' (Γ' ++ Θ) → Ψ Γ' → Q H') → t o' i' v' H Q
section
variable {K : PySem.W.Frag} {δ : Del} {Γ : Gam} {x y z : AV} {xs : List AV} {Ψ : Gam → Prop}
theorem wg_sub {to ti : TE} {t : V → V → V → Hp → (Hp → Prop) → Prop} {av : AV} {Ψ : Del → Gam → Prop} (h : WE K to δ Γ fun o Γ1 => WE K ti δ Γ1 fun i Γ2 => WSet K t o i av Γ2 fun Γ3 => Ψ δ Γ3) : WG K (gSub to ti t) av δ Γ Ψ := fun v σ F H Θ r en gm Q q =>
  h σ F H Θ en gm _ fun o H1 ⟨F1, ao, Γ1, s1, g1, r1, h1⟩ => h1 σ F1 H1 Θ (en.mono s1) g1 _ fun i H2 ⟨F2, ai, Γ2, s2, g2, r2, h2⟩ =>
    h2 o i v F2 H2 Θ (Rp.mono s2 _ _ r1) r2 (Rp.mono (s1.trans s2) _ _ r) g2 _ fun H3 Γ3 g3 k => q σ H3 ⟨F2, δ, Γ3, s1.trans s2, en.mono (s1.trans s2), g3, k⟩
theorem wset_L {j : Nat} {i : Int} {n : Nat} {p : Addr} (h : Γ[j]? = some (p, .lst xs)) (hi : ixN xs.length i = some n) {Γ' : Gam} (eΓ : Γ.set j (p, .lst (xs.set n z)) = Γ') (k : Ψ Γ') : WSet K rSetA (.ptr p) (.int i) z Γ Ψ := fun o' i' v' F H Θ r1 r2 r3 gm Q q => by
  obtain ⟨_, vs, e0, rfl, _, e, rs⟩ := LiA.get (⟨p, rfl, h⟩ : LiA Γ j (.ptr p) xs) gm r1
  cases e0; cases r2
  subst eΓ
  exact .inl ⟨p, vs, i, n, rfl, rfl, e, by rw [rs.length]; exact hi, q _ _ (gm.wr h (.lst (rs.set r3 n))) k⟩
theorem wset_D {p : Addr} {Γ' : Gam} (h : DpA Γ (.ptr p) y z Γ') (kk : Ψ Γ') : WSet K rSetA (.ptr p) y z Γ Ψ := fun o' i' v' F H Θ r1 r2 r3 gm Q q => by
  cases h with
  | @k i kvs _ k _ _ _ h e hl eΓ =>
    subst eΓ
    obtain ⟨_, vs, e0, rfl, _, e2, rk⟩ := DkA.get (⟨p, rfl, h⟩ : DkA Γ i (.ptr p) kvs) gm r1
    cases e0
    subst e
    rw [rp_key r2]
    exact .inr ⟨p, _, rfl, DPut.k e2 (by rw [rk.length]; exact hl), q _ _ (gm.wr h (.dK (rk.put k r3))) kk⟩
  | @t i kvs _ k _ _ _ h e hl eΓ =>
    subst eΓ
    obtain ⟨_, vs, e0, rfl, _, e2, rk⟩ := DtA.get (⟨p, rfl, h⟩ : DtA Γ i (.ptr p) kvs) gm r1
    cases e0
    subst e
    cases r2 with
    | tup e3 r4 =>
      have e4 := rps_keys r4
      subst e4
      exact .inr ⟨p, _, rfl, DPut.t e2 (gm.sub _ _ e3) (by rw [rk.length]; exact hl), q _ _ (gm.wr h (.dT (rk.put k r3))) kk⟩
end
end Ab

namespace Ab
open PySem L2 PyProof.Rows

/-! ### promises over abstract states -/
abbrev ASp := List AV → Gam → (AV → Gam → Prop) → Prop
def toSp (K : PySem.W.Frag) (s : ASp) : Sp := fun vs H Q _ => ∃ F avs objs Θ Φ, Gm K F H (objs ++ Θ) ∧ Rps K F vs avs ∧ s avs objs Φ ∧ ∀ v H', PoE K F Θ Φ v H' → Q v H'
def restA : List AV → Del
  | [] => []
  | a :: avs => some a :: restA avs
theorem restA_eq : ∀ avs : List AV, restA avs = avs.map some
  | [] => rfl
  | a :: avs => by rw [restA, restA_eq avs, List.map_cons]
def startA : List Str → List AV → Del
  | [], avs => restA avs
  | _ :: N, a :: avs => some a :: startA N avs
  | _ :: N, [] => none :: startA N []
theorem startA_eq : ∀ (N : List Str) (avs : List AV), startA N avs = avs.map some ++ List.replicate (N.length - avs.length) none
  | [], avs => by simp [startA, restA_eq]
  | _ :: N, a :: avs => by
    rw [startA, startA_eq N avs]
    simp
  | _ :: N, [] => by
    rw [startA, startA_eq N []]
    simp [List.replicate_succ]
section
variable {K : PySem.W.Frag} {δ : Del} {Γ : Gam} {Φ : AV → Gam → Prop} {te ta tb : TE} {t : TA} {x y z : AV} {E : XK} {s : ASp} {dvs : List V}
theorem en_start {F : Hp} {N : List Str} {vs : List V} {avs : List AV} (r : Rps K F vs avs) : En K F (L2.start N vs) (startA N avs) := by
  have hl := r.length
  refine ⟨by simp [L2.start, startA_eq, hl], fun i av h => ?_⟩
  rw [startA_eq] at h
  unfold L2.start
  by_cases hi : i < avs.length
  · rw [List.getElem?_append_left (by simpa using hi), List.getElem?_map] at h
    rw [List.getElem?_append_left (by simpa [hl] using hi), List.getElem?_map]
    cases e : avs[i]? with
    | none => rw [e] at h; cases h
    | some d =>
      rw [e] at h
      cases h
      obtain ⟨v, e2, r2⟩ := r.get e
      exact ⟨v, by rw [e2]; rfl, r2⟩
  · rw [List.getElem?_append_right (by simpa using hi), List.getElem?_replicate] at h
    split at h <;> cases h
/-- a body keeps its promise -/
theorem run_body {N : List Str} {ts : TS} {vs : List V} {H : Hp} {Q : VK} {E : XK} (h : toSp K s vs H Q E) (hb : ∀ avs objs Φ, s avs objs Φ → WS K ts { nx := fun _ Γ => Φ .non Γ, rt := Φ } (startA N avs) objs) :
    ts { nx := fun _ H' => Q .non H', rt := Q } (L2.start N vs) H := by
  obtain ⟨F, avs, objs, Θ, Φ, gm, r, hs, q⟩ := h
  refine hb avs objs Φ hs (L2.start N vs) F H Θ (en_start r) gm _ (fun σ' H' ⟨F', δ', Γ', s1, en', g', k⟩ => q _ _ ⟨F', _, Γ', s1, g', .non, k⟩) q (fun σ' H' ⟨F', δ', Γ', s1, en', g', k⟩ => k.elim) (fun σ' H' ⟨F', δ', Γ', s1, en', g', k⟩ => k.elim)
theorem toSp_len {n : Nat} (h : ∀ avs objs Φ, s avs objs Φ → avs.length = n) : ∀ vs H Q E, toSp K s vs H Q E → vs.length = n := fun vs H Q E ⟨F, avs, objs, Θ, Φ, gm, r, hs, q⟩ => r.length.trans (h _ _ _ hs)
/-- the call, the objects that it may change said by their places -/
theorem call_core {vs : List V} {avs : List AV} {F H : Hp} {Θ : Gam} {objs rest : Gam} (gm : Gm K F H (Γ ++ Θ)) (r : Rps K F vs avs) (hp : Γ.Perm (objs ++ rest)) (h : s avs objs fun v objs' => ∃ Γ', (objs' ++ rest).Perm Γ' ∧ Φ v Γ') {Q : VK} (q : ∀ v H', PoE K F Θ Φ v H' → Q v H') :
    toSp K s vs H Q E := by
  refine ⟨F, avs, objs, rest ++ Θ, _, ?_, r, h, fun v H' ⟨F', av, objs', s1, g1, r1, Γ', hp', k⟩ => q v H' ⟨F', av, Γ', s1, ?_, r1, k⟩⟩
  · rw [← List.append_assoc]; exact gm.perm (hp.append_right Θ)
  · rw [← List.append_assoc] at g1; exact g1.perm (hp'.append_right Θ)
theorem we_call (h : WA K t δ Γ fun avs Γ1 => ∃ objs rest, Γ1.Perm (objs ++ rest) ∧ s avs objs fun v objs' => ∃ Γ', (objs' ++ rest).Perm Γ' ∧ Φ v Γ') : WE K (tCall (toSp K s) [] E t) δ Γ Φ := fun σ F H Θ en gm Q q =>
  h σ F H Θ en gm _ fun vs H1 ⟨F1, as, Γ1, s1, g1, r1, objs, rest, hp, h1⟩ => by
    rw [List.append_nil]
    exact call_core g1 r1 hp h1 fun v H' p => q v H' (p.back s1)
theorem perm_set {α : Type} : ∀ {l : List α} {i : Nat} {x y : α}, l[i]? = some x → (y :: l.eraseIdx i).Perm (l.set i y)
  | [], _, _, _, h => by simp at h
  | a :: l, 0, x, y, h => by simp
  | a :: l, i + 1, x, y, h => by
    have h' : l[i]? = some x := by simpa using h
    exact (List.Perm.swap a y _).trans ((perm_set h').cons a)
/-- no object of the caller's is changed; news: what it hands over -/
theorem we_call0 (h : WA K t δ Γ fun avs Γ1 => s avs [] fun v objs' => ∃ Γ', (objs' ++ Γ1).Perm Γ' ∧ Φ v Γ') : WE K (tCall (toSp K s) [] E t) δ Γ Φ := we_call fun σ F H Θ en gm Q q => h σ F H Θ en gm Q fun vs H1 ⟨F1, as, Γ1, s1, g1, r1, h1⟩ =>
  q vs H1 ⟨F1, as, Γ1, s1, g1, r1, [], Γ1, .refl _, h1⟩
/-- one object, the i-th -/
theorem we_call1 (i : Nat) (h : WA K t δ Γ fun avs Γ1 => ∃ x, Γ1[i]? = some x ∧ s avs [x] fun v objs' => ∃ Γ', (objs' ++ Γ1.eraseIdx i).Perm Γ' ∧ Φ v Γ') : WE K (tCall (toSp K s) [] E t) δ Γ Φ := we_call fun σ F H Θ en gm Q q => h σ F H Θ en gm Q fun vs H1 ⟨F1, as, Γ1, s1, g1, r1, x, hx, h1⟩ =>
  q vs H1 ⟨F1, as, Γ1, s1, g1, r1, [x], Γ1.eraseIdx i, erase_perm hx, h1⟩
/-- two -/
theorem we_call2 (i j : Nat) (h : WA K t δ Γ fun avs Γ1 => ∃ x y, Γ1[i]? = some x ∧ (Γ1.eraseIdx i)[j]? = some y ∧ s avs [x, y] fun v objs' => ∃ Γ', (objs' ++ (Γ1.eraseIdx i).eraseIdx j).Perm Γ' ∧ Φ v Γ') : WE K (tCall (toSp K s) [] E t) δ Γ Φ := we_call fun σ F H Θ en gm Q q => h σ F H Θ en gm Q fun vs H1 ⟨F1, as, Γ1, s1, g1, r1, x, y, hx, hy, h1⟩ =>
  q vs H1 ⟨F1, as, Γ1, s1, g1, r1, [x, y], (Γ1.eraseIdx i).eraseIdx j, (erase_perm hx).trans ((erase_perm hy).cons x), h1⟩
theorem pm0 {news Γ' : Gam} (e : news ++ Γ = Γ') : (news ++ Γ).Perm Γ' := by rw [e]
theorem pm1 {i : Nat} {a b : Addr × AO} {news Γ' : Gam} (h : Γ[i]? = some a) (e : news ++ Γ.set i b = Γ') : ((b :: news) ++ Γ.eraseIdx i).Perm Γ' := by
  rw [← e]
  have h1 : ((b :: news) ++ Γ.eraseIdx i).Perm (news ++ b :: Γ.eraseIdx i) := (List.perm_middle).symm
  exact h1.trans ((perm_set h).append_left news)
theorem pm2 {i j : Nat} {a b a' b' : Addr × AO} {news Γ' : Gam} (h : Γ[i]? = some a) (h' : (Γ.eraseIdx i)[j]? = some a') (e : news ++ ((b :: (Γ.eraseIdx i).set j b')) = Γ') : ((b :: b' :: news) ++ (Γ.eraseIdx i).eraseIdx j).Perm Γ' := by
  rw [← e]
  have h1 : ((b :: b' :: news) ++ (Γ.eraseIdx i).eraseIdx j).Perm (news ++ b :: b' :: (Γ.eraseIdx i).eraseIdx j) := by
    have e1 : (b :: b' :: news) ++ (Γ.eraseIdx i).eraseIdx j = [b, b'] ++ (news ++ (Γ.eraseIdx i).eraseIdx j) := rfl
    have e2 : news ++ b :: b' :: (Γ.eraseIdx i).eraseIdx j = news ++ ([b, b'] ++ (Γ.eraseIdx i).eraseIdx j) := rfl
    rw [e1, e2, ← List.append_assoc, ← List.append_assoc]
    exact (List.perm_append_comm).append_right _
  exact h1.trans (((perm_set h').cons b).append_left news)

/-! ### fields -/
theorem KVr.lookup {F : Hp} {l : List (Str × V)} {m : List (Str × AV)} (r : KVr K F l m) (f : Str) : RpOp K F (l.lookup f) (m.lookup f) := by
  unfold KVr at r
  induction r with
  | nil => trivial
  | @cons p q ps qs h tl ih =>
    obtain ⟨p1, p2⟩ := p
    obtain ⟨q1, q2⟩ := q
    obtain ⟨h1, h2⟩ := h
    have h1' : p1 = q1 := h1
    subst h1'
    rw [List.lookup_cons, List.lookup_cons]
    cases f == p1 with
    | true => exact h2
    | false => exact ih
def putFA (f : Str) (v : AV) : List (Str × AV) → List (Str × AV)
  | [] => [(f, v)]
  | (g, u) :: r => if g = f then (g, v) :: r else (g, u) :: putFA f v r
theorem putF_eq (f : Str) (v : V) : ∀ l : List (Str × V), putF f v l = match l with
    | [] => [(f, v)]
    | (g, u) :: r => if g = f then (g, v) :: r else (g, u) :: putF f v r
  | [] => rfl
  | (g, u) :: r => rfl
theorem KVr.putF {F : Hp} {l : List (Str × V)} {m : List (Str × AV)} (r : KVr K F l m) (f : Str) {v : V} {a : AV} (ra : Rp K F v a) : KVr K F (L2.putF f v l) (putFA f a m) := by
  unfold KVr at r ⊢
  induction r with
  | nil => exact .cons ⟨rfl, ra⟩ .nil
  | @cons p q ps qs h tl ih =>
    obtain ⟨p1, p2⟩ := p
    obtain ⟨q1, q2⟩ := q
    obtain ⟨h1, h2⟩ := h
    have h1' : p1 = q1 := h1
    subst h1'
    rw [putF_eq]
    show Paired _ (if p1 = f then (p1, v) :: ps else (p1, p2) :: L2.putF f v ps) (if p1 = f then (p1, a) :: qs else (p1, q2) :: putFA f a qs)
    by_cases e : p1 = f
    · rw [if_pos e, if_pos e]; exact .cons ⟨rfl, ra⟩ tl
    · rw [if_neg e, if_neg e]; exact .cons ⟨rfl, h2⟩ ih
/-- what the classes' facts say: a class with these plain fields -/
theorem we_fld {f : Str} (h : WE K ta δ Γ fun x Γ1 => ∃ i C fs v, InA Γ1 i x C fs ∧ Cls K C ∧ NoAttr K C f ∧ fs.lookup f = some v ∧ Φ v Γ1) : WE K (tFld K ta f) δ Γ Φ := fun σ F H Θ en gm Q q =>
  h σ F H Θ en gm _ fun v H1 ⟨F1, av, Γ1, s1, g1, r1, i, C, fs, a, hi, hc, hn, hl, k⟩ => by
    obtain ⟨p, dx, vs, rfl, rfl, _, e, rk⟩ := hi.get g1 r1
    have ro := rk.lookup f
    rw [hl] at ro
    obtain ⟨u, e2, r2⟩ := ro.some
    exact ⟨p, C, dx, vs, u, rfl, e, hc, hn, e2, q u H1 ⟨F1, a, Γ1, s1, g1, r2, k⟩⟩
theorem ws_fld {f : Str} {D : AEnds} (h : WE K tb δ Γ fun y Γ1 => WE K ta δ Γ1 fun x Γ2 => ∃ (i : Nat) (C : Addr) (fs : List (Str × AV)) (p : Addr) (Γ3 : Gam), x = .ptr p ∧ Γ2[i]? = some (p, .ins C fs) ∧ Cls K C ∧ NoAttr K C f ∧ fs.length < 1000 ∧ Γ2.set i (p, .ins C (putFA f y fs)) = Γ3 ∧ D.nx δ Γ3) : WS K (sFld K ta tb f) D δ Γ := fun σ F H Θ en gm D' n r b c =>
  h σ F H Θ en gm _ fun u H1 ⟨F1, au, Γ1, s1, g1, r1, h1⟩ => h1 σ F1 H1 Θ (en.mono s1) g1 _ fun v H2 ⟨F2, av, Γ2, s2, g2, r2, i, C, fs, p, Γ3, e0, hi, hc, hn, hl, e3, k⟩ => by
    obtain ⟨_, dx, vs, e1, rfl, _, e, rk⟩ := InA.get (⟨p, e0, hi⟩ : InA Γ2 i av C fs) g2 r2
    subst e0
    cases e1
    refine ⟨p, C, dx, vs, rfl, e, hc, hn, by rw [rk.length]; exact hl, n σ _ ⟨F2, δ, Γ3, s1.trans s2, en.mono (s1.trans s2), ?_, k⟩⟩
    rw [← e3]
    exact g2.wr hi (.ins (rk.putF f (Rp.mono s2 _ _ r1)))
theorem ws_fldAug {f : Str} {D : AEnds} (h : WE K ta δ Γ fun x Γ1 => ∃ i C fs a, InA Γ1 i x C fs ∧ Cls K C ∧ NoAttr K C f ∧ fs.lookup f = some (.int a) ∧ WE K tb δ Γ1 fun y Γ2 => ∃ (j : Nat) (fs' : List (Str × AV)) (p : Addr) (b : Int) (Γ3 : Gam), x = .ptr p ∧ y = .int b ∧ Γ2[j]? = some (p, .ins C fs') ∧ fs'.length < 1000 ∧ Γ2.set j (p, .ins C (putFA f (.int (a + b)) fs')) = Γ3 ∧ D.nx δ Γ3) : WS K (sFldAug K ta tb rAdd f) D δ Γ := fun σ F H Θ en gm D' n r b c =>
  h σ F H Θ en gm _ fun v H1 ⟨F1, av, Γ1, s1, g1, r1, i, C, fs, a, hi, hc, hn, hl, h1⟩ => by
    obtain ⟨p, dx, vs, rfl, rfl, _, e, rk⟩ := hi.get g1 r1
    have ro := rk.lookup f
    rw [hl] at ro
    obtain ⟨u, e2, r2⟩ := ro.some
    refine ⟨p, C, dx, vs, u, rfl, e, hc, hn, e2, ?_⟩
    refine h1 σ F1 H1 Θ (en.mono s1) g1 _ fun w H2 ⟨F2, aw, Γ2, s2, g2, r3, j, fs', p', b', Γ3, e4, e5, hj, hl', e6, k⟩ => ?_
    cases e4
    subst e5
    cases r2; cases r3
    obtain ⟨_, dx', vs', e7, e8, _, e9, rk'⟩ := InA.get (⟨p, rfl, hj⟩ : InA Γ2 j (.ptr p) C fs') g2 (.ptr p)
    cases e7
    cases e8
    refine ⟨a, b', rfl, rfl, dx', vs', e9, by rw [rk'.length]; exact hl', n σ _ ⟨F2, δ, Γ3, s1.trans s2, en.mono (s1.trans s2), ?_, k⟩⟩
    rw [← e6]
    exact g2.wr hj (.ins (rk'.putF f (.int _)))

/-! ### methods of own classes; new instances -/
theorem we_meth {C : Addr} {m : Str} (h : WE K ta δ Γ fun x Γ1 => ∃ i fs, InA Γ1 i x C fs ∧ fs.lookup m = none ∧ WA K t δ Γ1 fun avs Γ2 => ∃ objs rest, Γ2.Perm (objs ++ rest) ∧ s (x :: avs) objs fun v objs' => ∃ Γ', (objs' ++ rest).Perm Γ' ∧ Φ v Γ') : WE K (tMeth C m (toSp K s) [] E ta t) δ Γ Φ := fun σ F H Θ en gm Q q =>
  h σ F H Θ en gm _ fun v H1 ⟨F1, av, Γ1, s1, g1, r1, i, fs, hi, hl, h1⟩ => by
    obtain ⟨p, dx, vs, rfl, rfl, _, e, rk⟩ := hi.get g1 r1
    have ro := rk.lookup m
    rw [hl] at ro
    refine ⟨p, dx, vs, rfl, e, ro.none, ?_⟩
    refine h1 σ F1 H1 Θ (en.mono s1) g1 _ fun ws H2 ⟨F2, as, Γ2, s2, g2, r2, objs, rest, hp, h2⟩ => ?_
    rw [List.append_nil]
    exact call_core g2 (.cons (Rp.mono s2 _ _ r1) r2) hp h2 fun v H' p => q v H' (p.back (s1.trans s2))
theorem we_meth1 {C : Addr} {m : Str} (i : Nat) (h : WE K ta δ Γ fun x Γ1 => ∃ j fs, InA Γ1 j x C fs ∧ fs.lookup m = none ∧ WA K t δ Γ1 fun avs Γ2 => ∃ z, Γ2[i]? = some z ∧ s (x :: avs) [z] fun v objs' => ∃ Γ', (objs' ++ Γ2.eraseIdx i).Perm Γ' ∧ Φ v Γ') : WE K (tMeth C m (toSp K s) [] E ta t) δ Γ Φ :=
  we_meth (we_mono h fun x Γ1 ⟨j, fs, h1, h2, h3⟩ => ⟨j, fs, h1, h2, fun σ F H Θ en gm Q q => h3 σ F H Θ en gm Q fun vs H1 ⟨F1, as, Γ1, s1, g1, r1, z, hz, h4⟩ => q vs H1 ⟨F1, as, Γ1, s1, g1, r1, [z], Γ1.eraseIdx i, erase_perm hz, h4⟩⟩)
/-- C(..): x is new, then __init__ -/
theorem we_make {C : Addr} (h : WA K t δ Γ fun avs Γ1 => ∀ p, ∃ objs rest, ((p, AO.ins C []) :: Γ1).Perm (objs ++ rest) ∧ s (.ptr p :: avs) objs fun v objs' => v = .non ∧ ∃ Γ', (objs' ++ rest).Perm Γ' ∧ Φ (.ptr p) Γ') : WE K (tMake C (toSp K s) [] E t) δ Γ Φ := fun σ F H Θ en gm Q q =>
  h σ F H Θ en gm _ fun vs H1 ⟨F1, as, Γ1, s1, g1, r1, h1⟩ p dx hp hdx hne => by
    obtain ⟨objs, rest, hpm, h2⟩ := h1 p
    rw [List.append_nil]
    have sD : Same F1 (upd F1 dx (.own p)) := (g1.froz (o := .own p) hdx).1
    have gD := (g1.froz (o := .own p) hdx).2
    have gP : Gm K (upd F1 dx (.own p)) (upd (upd H1 dx (.own p)) p (.ins C dx [])) ((p, .ins C []) :: (Γ1 ++ Θ)) := gD.new (by rw [upd_ne (Ne.symm hne)]; exact hp) (.ins .nil)
    refine ⟨_, .ptr p :: as, objs, rest ++ Θ, _, ?_, .cons (.ptr p) (Rps.mono sD _ _ r1), h2, fun v H' ⟨F', av, objs', s3, g3, r3, e, Γ', hp', k⟩ => ?_⟩
    · rw [← List.append_assoc]
      exact gP.perm (hpm.append_right Θ)
    · subst e
      cases r3
      rw [← List.append_assoc] at g3
      exact ⟨rfl, q _ H' ⟨F', _, Γ', (s1.trans sD).trans s3, g3.perm (hp'.append_right Θ), .ptr p, k⟩⟩

/-! ### built-ins -/
theorem we_cb {r : List V → Hp → VK → Prop} (h : WA K t δ Γ fun avs Γ1 => WC K r avs Γ1 Φ) : WE K (tCB r t) δ Γ Φ := fun σ F H Θ en gm Q q =>
  h σ F H Θ en gm _ fun vs H1 ⟨F1, as, Γ1, s1, g1, r1, h1⟩ => h1 vs F1 H1 Θ r1 g1 Q fun v H' p => q v H' (p.back s1)
/-- the built-in type of what a method is asked of -/
inductive TyOk (Γ : Gam) : AV → String → Prop
  | str {s : Str} : TyOk Γ (.str s) "str"
  | lst {x : AV} {xs : List AV} : LsR Γ x xs → TyOk Γ x "list"
  | dK {i : Nat} {x : AV} {kvs : List (Key × AV)} : DkA Γ i x kvs → TyOk Γ x "dict"
  | dT {i : Nat} {x : AV} {kvs : List (List Key × AV)} : DtA Γ i x kvs → TyOk Γ x "dict"
theorem TyOk.get {F H : Hp} {Θ : Gam} {v : V} {T : String} (h : TyOk Γ x T) (g : Gm K F H (Γ ++ Θ)) (r : Rp K F v x) : tyV K T v H := by
  cases h with
  | str => cases r; exact rfl
  | lst h =>
    obtain ⟨q, vs, rfl, h1, _⟩ := h.get g r
    exact .inl ⟨rfl, vs, h1⟩
  | dK h =>
    obtain ⟨q, vs, _, rfl, _, e, _⟩ := h.get g r
    exact .inr (.inr (.inl ⟨rfl, .inl ⟨vs, e⟩⟩))
  | dT h =>
    obtain ⟨q, vs, _, rfl, _, e, _⟩ := h.get g r
    exact .inr (.inr (.inl ⟨rfl, .inr ⟨vs, e⟩⟩))
theorem we_bm {T : String} {r : V → List V → Hp → VK → Prop} (h : WE K ta δ Γ fun x Γ1 => TyOk Γ1 x T ∧ WA K t δ Γ1 fun avs Γ2 => WM K r x avs Γ2 Φ) : WE K (tBM K T r ta t) δ Γ Φ := fun σ F H Θ en gm Q q =>
  h σ F H Θ en gm _ fun v H1 ⟨F1, av, Γ1, s1, g1, r1, hT, h1⟩ => ⟨hT.get g1 r1, h1 σ F1 H1 Θ (en.mono s1) g1 _ fun vs H2 ⟨F2, as, Γ2, s2, g2, r2, h2⟩ => h2 v vs F2 H2 Θ (Rp.mono s2 _ _ r1) r2 g2 Q fun v H' p => q v H' (p.back (s1.trans s2))⟩
theorem we_bm0 {T : String} {r : V → List V → Hp → VK → Prop} (h : WE K ta δ Γ fun x Γ1 => TyOk Γ1 x T ∧ WM K r x [] Γ1 Φ) : WE K (tBM0 K T r ta) δ Γ Φ := fun σ F H Θ en gm Q q =>
  h σ F H Θ en gm _ fun v H1 ⟨F1, av, Γ1, s1, g1, r1, hT, h1⟩ => ⟨hT.get g1 r1, h1 v [] F1 H1 Θ r1 .nil g1 Q fun v H' p => q v H' (p.back s1)⟩
theorem we_m1 {r : V → List V → Hp → VK → Prop} (h : WE K ta δ Γ fun x Γ1 => (∃ z, x = .str z) ∧ WE K tb δ Γ1 fun y Γ2 => WM K r x [y] Γ2 Φ) : WE K (tM1 r ta tb) δ Γ Φ := fun σ F H Θ en gm Q q =>
  h σ F H Θ en gm _ fun v H1 ⟨F1, av, Γ1, s1, g1, r1, ⟨z, e⟩, h1⟩ => ⟨by subst e; cases r1; exact ⟨z, rfl⟩, h1 σ F1 H1 Θ (en.mono s1) g1 _ fun u H2 ⟨F2, au, Γ2, s2, g2, r2, h2⟩ => h2 v [u] F2 H2 Θ (Rp.mono s2 _ _ r1) (.cons r2 .nil) g2 Q fun v H' p => q v H' (p.back (s1.trans s2))⟩
theorem we_m0 {r : V → List V → Hp → VK → Prop} (h : WE K ta δ Γ fun x Γ1 => (∃ z, x = .str z) ∧ WM K r x [] Γ1 Φ) : WE K (tM0 r ta) δ Γ Φ := fun σ F H Θ en gm Q q =>
  h σ F H Θ en gm _ fun v H1 ⟨F1, av, Γ1, s1, g1, r1, ⟨z, e⟩, h1⟩ => ⟨by subst e; cases r1; exact ⟨z, rfl⟩, h1 v [] F1 H1 Θ r1 .nil g1 Q fun v H' p => q v H' (p.back s1)⟩
end
end Ab

namespace Ab
open PySem L2 PyProof.Rows

structure AIt (K : PySem.W.Frag) (F : Hp) (J : It) (items : List AV) (G : Gam → Prop) : Prop where
  goes : ∀ i F' H' Γ Θ, i < items.length → Same F F' → Gm K F' H' (Γ ++ Θ) → G Γ → J.go i H'
  stops : ∀ F' H' Γ Θ, Same F F' → Gm K F' H' (Γ ++ Θ) → G Γ → J.stop items.length H'
  yields : ∀ i F' H' Γ Θ x H'', i < items.length → Same F F' → Gm K F' H' (Γ ++ Θ) → G Γ → J.yld i H' x H'' → ∃ F'' d, Same F' F'' ∧ Gm K F'' H'' (Γ ++ Θ) ∧ items[i]? = some d ∧ Rp K F'' x d
def WI (K : PySem.W.Frag) (wi : TI) (δ : Del) (Γ : Gam) (R : List AV → (Gam → Prop) → Gam → Prop) : Prop := ∀ σ F H Θ, En K F σ δ → Gm K F H (Γ ++ Θ) → ∀ Q : It → Hp → Prop,
  (∀ J H' F' Γ' items G, Same F F' → Gm K F' H' (Γ' ++ Θ) → AIt K F' J items G → R items G Γ' → Q J H') → wi σ H Q
section
variable {K : PySem.W.Frag} {δ : Del} {Γ : Gam} {Φ : AV → Gam → Prop} {te ta tb tl : TE} {t : TA} {tt : TT} {x y z : AV} {D : AEnds} {wi : TI} {g : TG} {ts : TS} {R : List AV → (Gam → Prop) → Gam → Prop}
theorem ait_list {F : Hp} {a : Addr} {vs : List V} {xs : List AV} (hs : SqL K F a vs) (r : Rps K F vs xs) : AIt K F (Itl K a) xs (fun _ => True) where
  goes := fun i F' H' Γ Θ hi s gm _ => by
    have hi' : i < vs.length := by rw [r.length]; exact hi
    exact ⟨vs, vs[i], gm.sub.seq (s.seq hs), List.getElem?_eq_getElem hi'⟩
  stops := fun F' H' Γ Θ s gm _ => ⟨vs, gm.sub.seq (s.seq hs), by rw [r.length]; exact Nat.le_refl _⟩
  yields := fun i F' H' Γ Θ x H'' hi s gm _ y => by
    obtain ⟨e, y⟩ := y
    subst e
    obtain ⟨d, e2, r2⟩ := r.get2 (y vs (gm.sub.seq (s.seq hs)))
    exact ⟨F', d, Same.refl _, gm, e2, Rp.mono s _ _ r2⟩
/-- over data -/
theorem wi_list (h : WE K tl δ Γ fun x Γ1 => ∃ xs, (x = .lst xs ∨ x = .rol xs) ∧ R xs (fun _ => True) Γ1) : WI K (iList K tl) δ Γ R := fun σ F H Θ en gm Q q =>
  h σ F H Θ en gm _ fun v H1 ⟨F1, av, Γ1, s1, g1, r1, xs, e, k⟩ => by
    rcases e with rfl | rfl
    · cases r1 with
      | @lst a vs _ e r => exact ⟨a, rfl, ⟨vs, SqL.of (g1.sub _ _ e)⟩, q _ H1 F1 Γ1 xs _ s1 g1 (ait_list (SqL.of e) r) k⟩
    · cases r1 with
      | @rol a vs _ e r => exact ⟨a, rfl, ⟨vs, g1.sub.seq e⟩, q _ H1 F1 Γ1 xs _ s1 g1 (ait_list e r) k⟩
/-- over a list that stands live, and stays as it is -/
theorem wi_live (h : WE K tl δ Γ fun x Γ1 => ∃ p xs, x = .ptr p ∧ (∃ i : Nat, Γ1[i]? = some (p, .lst xs)) ∧ R xs (fun Γ' => ∃ i : Nat, Γ'[i]? = some (p, .lst xs)) Γ1) : WI K (iList K tl) δ Γ R := fun σ F H Θ en gm Q q =>
  h σ F H Θ en gm _ fun v H1 ⟨F1, av, Γ1, s1, g1, r1, p, xs, e, ⟨i, hi⟩, k⟩ => by
    subst e
    cases r1
    obtain ⟨_, o, e0, ro⟩ := g1.at_ (ix_left (Θ := Θ) hi)
    cases ro with
    | @lst vs _ ro =>
      refine ⟨p, rfl, ⟨vs, SqL.of e0⟩, q _ H1 F1 Γ1 xs _ s1 g1 ⟨fun i F' H' Γ Θ hi s gm ⟨j, hj⟩ => ?_, fun F' H' Γ Θ s gm ⟨j, hj⟩ => ?_, fun i F' H' Γ Θ x H'' hi s gm ⟨j, hj⟩ y => ?_⟩ k⟩
      · obtain ⟨_, o, e0, ro⟩ := gm.at_ (ix_left (Θ := Θ) hj)
        cases ro with
        | @lst ws _ ro =>
          have hi' : i < ws.length := by rw [ro.length]; exact hi
          exact ⟨ws, ws[i], SqL.of e0, List.getElem?_eq_getElem hi'⟩
      · obtain ⟨_, o, e0, ro⟩ := gm.at_ (ix_left (Θ := Θ) hj)
        cases ro with
        | @lst ws _ ro => exact ⟨ws, SqL.of e0, by rw [ro.length]; exact Nat.le_refl _⟩
      · obtain ⟨e, y⟩ := y
        subst e
        obtain ⟨_, o, e0, ro⟩ := gm.at_ (ix_left (Θ := Θ) hj)
        cases ro with
        | @lst ws _ ro =>
          obtain ⟨d, e2, r2⟩ := ro.get2 (y ws (SqL.of e0))
          exact ⟨F', d, Same.refl _, gm, e2, r2⟩
def rangeA (lo : Int) (n : Nat) : List AV := (List.range n).map fun i => .int (lo + (i : Nat))
theorem rangeA_len (lo : Int) (n : Nat) : (rangeA lo n).length = n := by simp [rangeA]
theorem rangeA_get {lo : Int} {n i : Nat} {d : AV} (h : (rangeA lo n)[i]? = some d) : i < n ∧ d = .int (lo + (i : Nat)) := by
  unfold rangeA at h
  rw [List.getElem?_map] at h
  by_cases hi : i < n
  · rw [List.getElem?_range hi] at h
    exact ⟨hi, (Option.some.inj h).symm⟩
  · rw [List.getElem?_eq_none (by simpa using hi)] at h; cases h
theorem ait_range {F : Hp} {lo : Int} {n : Nat} : AIt K F (Itr lo n) (rangeA lo n) (fun _ => True) where
  goes := fun i F' H' Γ Θ hi s gm _ => by rw [rangeA_len] at hi; exact hi
  stops := fun F' H' Γ Θ s gm _ => by rw [rangeA_len]; exact Nat.le_refl _
  yields := fun i F' H' Γ Θ x H'' hi s gm _ y => by
    obtain ⟨e, y⟩ := y
    subst e y
    rw [rangeA_len] at hi
    refine ⟨F', .int (lo + (i : Nat)), Same.refl _, gm, ?_, .int _⟩
    unfold rangeA
    rw [List.getElem?_map, List.getElem?_range hi]
    rfl
theorem wi_range1 (h : WA K t δ Γ fun xs Γ1 => ∃ j : Int, xs = [.int j] ∧ (-(2 ^ 62) ≤ j ∧ j < 2 ^ 62) ∧ R (rangeA 0 j.toNat) (fun _ => True) Γ1) : WI K (iRng1 t) δ Γ R := fun σ F H Θ en gm Q q =>
  h σ F H Θ en gm _ fun v H1 ⟨F1, as, Γ1, s1, g1, r1, j, e, hj, k⟩ => by
    subst e
    cases r1 with
    | cons a1 r1 =>
      cases a1; cases r1
      exact ⟨j, rfl, hj.1, hj.2, q _ H1 F1 Γ1 _ _ s1 g1 ait_range k⟩
theorem wi_range2 (h : WA K t δ Γ fun xs Γ1 => ∃ i j : Int, xs = [.int i, .int j] ∧ (-(2 ^ 62) ≤ i ∧ i < 2 ^ 62 ∧ -(2 ^ 62) ≤ j ∧ j < 2 ^ 62) ∧ R (rangeA i (j - i).toNat) (fun _ => True) Γ1) : WI K (iRng2 t) δ Γ R := fun σ F H Θ en gm Q q =>
  h σ F H Θ en gm _ fun v H1 ⟨F1, as, Γ1, s1, g1, r1, i, j, e, hj, k⟩ => by
    subst e
    cases r1 with
    | cons a1 r1 =>
      cases r1 with
      | cons a2 r1 =>
        cases a1; cases a2; cases r1
        exact ⟨i, j, rfl, hj, q _ H1 F1 Γ1 _ _ s1 g1 ait_range k⟩
def signsA (z : Str) : List AV := z.cps.toList.map fun c => .str ⟨#[c]⟩
theorem wi_str (h : WE K tl δ Γ fun x Γ1 => ∃ z, x = .str z ∧ R (signsA z) (fun _ => True) Γ1) : WI K (iStr tl) δ Γ R := fun σ F H Θ en gm Q q =>
  h σ F H Θ en gm _ fun v H1 ⟨F1, av, Γ1, s1, g1, r1, z, e, k⟩ => by
    subst e
    cases r1
    refine ⟨z, rfl, q _ H1 F1 Γ1 _ _ s1 g1 ⟨fun i F' H' Γ Θ hi s gm _ => ?_, fun F' H' Γ Θ s gm _ => ?_, fun i F' H' Γ Θ x H'' hi s gm _ y => ?_⟩ k⟩
    · have hi' : i < z.cps.size := by simpa [signsA] using hi
      exact hi'
    · show z.cps.size ≤ _; simp [signsA]
    · obtain ⟨e, c, hc, e2⟩ := y
      subst e e2
      exact ⟨F', .str ⟨#[c]⟩, Same.refl _, gm, by simp [signsA, hc], .str _⟩
theorem ws_for (h : WI K wi δ Γ fun items G Γ1 => ∃ P : Nat → Del → Gam → Prop, P 0 δ Γ1 ∧ (∀ i δ' Γ', P i δ' Γ' → G Γ') ∧
    (∀ i d δ' Γ', items[i]? = some d → P i δ' Γ' → WG K g d δ' Γ' fun δ2 Γ2 => WS K ts { D with nx := P (i + 1), ct := P (i + 1), bk := D.nx } δ2 Γ2) ∧ ∀ δ' Γ', P items.length δ' Γ' → D.nx δ' Γ') : WS K (tFor wi g ts) D δ Γ := fun σ F H Θ en gm D' n r b c =>
  h σ F H Θ en gm _ fun J H1 F1 Γ1 items G s1 g1 ai ⟨P, p0, pG, pT, pD⟩ => by
    refine ⟨fun i m σ' H' => m = items.length - i ∧ i ≤ items.length ∧ PoS K F1 Θ (P i) σ' H', ⟨_, rfl, Nat.zero_le _, F1, δ, Γ1, Same.refl _, en.mono s1, g1, p0⟩, ?_⟩
    rintro i m σ2 H2 ⟨rfl, hi, F2, δ2, Γ2, s2, en2, g2, p2⟩
    have hG := pG i _ _ p2
    by_cases hlt : i < items.length
    · refine .inr ⟨ai.goes i F2 H2 Γ2 Θ hlt s2 g2 hG, PoS K F1 Θ (P (i + 1)), fun σ' H' p' => ⟨items.length - (i + 1), by omega, rfl, hlt, p'⟩, fun v H3 y => ?_⟩
      obtain ⟨F3, d, s3, g3, hd, r3⟩ := ai.yields i F2 H2 Γ2 Θ v H3 hlt s2 g2 hG y
      have s13 := s2.trans s3
      have s03 := s1.trans s13
      exact pT i d δ2 Γ2 hd p2 v σ2 F3 H3 Θ r3 (en2.mono s3) g3 _ fun σ4 H4 ⟨F4, δ4, Γ4, s4, en4, g4, k⟩ =>
        k σ4 F4 H4 Θ en4 g4 _ (fun _ _ p => p.back (s13.trans s4)) (fun _ _ p => r _ _ (p.back (s03.trans s4))) (fun _ _ p => n _ _ (p.back (s03.trans s4))) (fun _ _ p => p.back (s13.trans s4))
    · have e : i = items.length := by omega
      subst e
      exact .inl ⟨ai.stops F2 H2 Γ2 Θ s2 g2 hG, n σ2 H2 ⟨F2, δ2, Γ2, s1.trans s2, en2, g2, pD _ _ p2⟩⟩
theorem ws_while (P : Nat → Del → Gam → Prop) (m0 : Nat) (h0 : P m0 δ Γ) (h : ∀ m δ' Γ', P m δ' Γ' → WT K tt δ' Γ' fun b Γ1 => (b = true → WS K ts { D with nx := fun δ2 Γ2 => ∃ m', m' < m ∧ P m' δ2 Γ2, ct := fun δ2 Γ2 => ∃ m', m' < m ∧ P m' δ2 Γ2, bk := D.nx } δ' Γ1) ∧ (b = false → D.nx δ' Γ1)) :
    WS K (tWhile tt ts) D δ Γ := fun σ F H Θ en gm D' n r b c => by
  refine ⟨fun m σ' H' => PoS K F Θ (P m) σ' H', ⟨m0, F, δ, Γ, Same.refl _, en, gm, h0⟩, ?_⟩
  rintro m σ2 H2 ⟨F2, δ2, Γ2, s2, en2, g2, p2⟩
  refine h m δ2 Γ2 p2 σ2 F2 H2 Θ en2 g2 _ fun b H3 ⟨F3, Γ3, s3, g3, k1, k2⟩ => ?_
  have s03 := s2.trans s3
  cases b with
  | true =>
    rw [if_pos rfl]
    refine ⟨fun σ' H' => ∃ m', m' < m ∧ PoS K F Θ (P m') σ' H', fun σ' H' z => z, ?_⟩
    have fin : ∀ σ' H', PoS K F3 Θ (fun δ2 Γ2 => ∃ m', m' < m ∧ P m' δ2 Γ2) σ' H' → ∃ m', m' < m ∧ PoS K F Θ (P m') σ' H' := fun σ' H' ⟨F4, δ4, Γ4, s4, en4, g4, m', hm, k⟩ => ⟨m', hm, F4, δ4, Γ4, s03.trans s4, en4, g4, k⟩
    exact k1 rfl σ2 F3 H3 Θ (en2.mono s3) g3 _ fin (fun _ _ p => r _ _ (p.back s03)) (fun _ _ p => n _ _ (p.back s03)) fin
  | false =>
    rw [if_neg Bool.false_ne_true]
    exact n σ2 H3 ⟨F3, δ2, Γ3, s03, en2.mono s3, g3, k2 rfl⟩

/-! ### comprehensions -/
def OwnG (g : TG) (vs : List Nat) : Prop := ∀ v σ H (Q Q' : L2.St → Hp → Prop), g v σ H Q' → (∀ σ' H', wipe σ' vs = wipe σ vs → Q' σ' H' → Q σ' H') → g v σ H Q
def OwnGs (g : TGs) (vs : List Nat) : Prop := ∀ v σ H (Q Q' : L2.St → Hp → Prop), g v σ H Q' → (∀ σ' H', wipe σ' vs = wipe σ vs → Q' σ' H' → Q σ' H') → g v σ H Q
theorem wipe_get : ∀ (σ : L2.St) (vs : List Nat) (i : Nat), (wipe σ vs)[i]? = if i ∈ vs ∧ i < σ.length then some none else σ[i]?
  | σ, [], i => by simp [wipe]
  | σ, v :: vs, i => by
    unfold wipe
    rw [List.getElem?_set, wipe_get σ vs i]
    by_cases h : v = i
    · subst h
      rw [if_pos rfl, wipe_length]
      by_cases hl : v < σ.length
      · rw [if_pos hl, if_pos ⟨List.mem_cons_self, hl⟩]
      · rw [if_neg hl, if_neg (fun z => hl z.2), List.getElem?_eq_none (by omega)]
    · rw [if_neg h]
      by_cases hm : i ∈ vs ∧ i < σ.length
      · rw [if_pos hm, if_pos ⟨List.mem_cons_of_mem _ hm.1, hm.2⟩]
      · rw [if_neg hm, if_neg (fun z => hm ⟨(List.mem_cons.mp z.1).resolve_left (Ne.symm h), z.2⟩)]
theorem wipe_set {σ : L2.St} {vs : List Nat} {j : Nat} {x : Option V} (h : j ∈ vs) : wipe (σ.set j x) vs = wipe σ vs := by
  apply List.ext_getElem?
  intro i
  rw [wipe_get, wipe_get, List.length_set, List.getElem?_set]
  by_cases hm : i ∈ vs ∧ i < σ.length
  · rw [if_pos hm, if_pos hm]
  · rw [if_neg hm, if_neg hm]
    by_cases e : j = i
    · subst e
      rw [if_pos rfl]
      have hl : ¬ j < σ.length := fun z => hm ⟨h, z⟩
      rw [if_neg hl, List.getElem?_eq_none (by omega)]
    · rw [if_neg e]
theorem wipe_wipe (σ : L2.St) (vs : List Nat) : wipe (wipe σ vs) vs = wipe σ vs := by
  apply List.ext_getElem?
  intro i
  rw [wipe_get, wipe_get, wipe_length]
  by_cases hm : i ∈ vs ∧ i < σ.length
  · rw [if_pos hm, if_pos hm]
  · rw [if_neg hm]
theorem own_name {j : Nat} {vs : List Nat} (h : j ∈ vs) : OwnG (gName j) vs := fun v σ H Q Q' q k => k _ H (wipe_set h) q
theorem own_tup {n : Nat} {u : TGs} {vs : List Nat} (h : OwnGs u vs) : OwnG (gTup K n u) vs := fun v σ H Q Q' ⟨a, xs, e, hs, hl, q⟩ k => ⟨a, xs, e, hs, hl, h xs σ H Q Q' q k⟩
theorem owns_nil {vs : List Nat} : OwnGs gNil vs := fun v σ H Q Q' ⟨e, q⟩ k => ⟨e, k σ H rfl q⟩
theorem owns_cons {g : TG} {u : TGs} {vs : List Nat} (h : OwnG g vs) (h' : OwnGs u vs) : OwnGs (gCons g u) vs := fun v σ H Q Q' ⟨a, r, e, q⟩ k => ⟨a, r, e, h a σ H _ _ q fun σ1 H1 e1 q1 => h' r σ1 H1 Q Q' q1 fun σ2 H2 e2 q2 => k σ2 H2 (e2.trans e1) q2⟩
theorem we_lcL {vs : List Nat} (ow : OwnG g vs) (h : WI K wi δ Γ fun items G Γ1 => ∃ P : Nat → List AV → Gam → Prop, P 0 [] Γ1 ∧ (∀ i acc Γ', P i acc Γ' → G Γ') ∧
    (∀ i d acc Γ', items[i]? = some d → P i acc Γ' → WG K g d (wipeA δ vs) Γ' fun δ2 Γ2 => WT K tt δ2 Γ2 fun b Γ3 => (b = true → WE K te δ2 Γ3 fun y Γ4 => acc.length < sizeLine ∧ P (i + 1) (acc ++ [y]) Γ4) ∧ (b = false → P (i + 1) acc Γ3)) ∧
    ∀ acc Γ', P items.length acc Γ' → ∀ p, Φ (.ptr p) ((p, .lst acc) :: Γ')) : WE K (tLc wi g tt te vs) δ Γ Φ := fun σ F H Θ en gm Q q =>
  h σ F H Θ en gm _ fun J H1 F1 Γ1 items G s1 g1 ai ⟨P, p0, pG, pT, pD⟩ => fun Dl hD => by
    have g1' : Gm K F1 (upd H1 Dl (.lst [])) (Γ1 ++ (Dl, .lst []) :: Θ) := (g1.new hD (.lst .nil)).perm List.perm_middle.symm
    refine ⟨fun i m H' => m = items.length - i ∧ i ≤ items.length ∧ ∃ F2 Γ2 acc, Same F1 F2 ∧ Gm K F2 H' (Γ2 ++ (Dl, .lst acc) :: Θ) ∧ P i acc Γ2, ⟨_, rfl, Nat.zero_le _, F1, Γ1, [], Same.refl _, g1', p0⟩, ?_⟩
    rintro i m H2 ⟨rfl, hi, F2, Γ2, acc, s2, g2, p2⟩
    have hG := pG i _ _ p2
    by_cases hlt : i < items.length
    · refine .inr ⟨ai.goes i F2 H2 Γ2 _ hlt s2 g2 hG, fun H' => ∃ F2 Γ2 acc, Same F1 F2 ∧ Gm K F2 H' (Γ2 ++ (Dl, .lst acc) :: Θ) ∧ P (i + 1) acc Γ2, fun H' p' => ⟨items.length - (i + 1), by omega, rfl, hlt, p'⟩, fun v H3 y => ?_⟩
      obtain ⟨F3, d, s3, g3, hd, r3⟩ := ai.yields i F2 H2 Γ2 _ v H3 hlt s2 g2 hG y
      have s13 := s2.trans s3
      have enw : En K F3 (wipe σ vs) (wipeA δ vs) := (en.mono (s1.trans s13)).wipe vs
      refine ow _ _ _ _ _ (pT i d acc Γ2 hd p2 v (wipe σ vs) F3 H3 _ r3 enw g3 (PoS K F3 ((Dl, .lst acc) :: Θ) _) fun σ4 H4 p => p) fun σ4 H4 hw ⟨F4, δ4, Γ4, s4, en4, g4, k⟩ => ⟨hw.trans (wipe_wipe σ vs), ?_⟩
      refine k σ4 F4 H4 _ en4 g4 _ fun b H5 ⟨F5, Γ5, s5, g5, k1, k2⟩ => ?_
      have s15 := (s13.trans s4).trans s5
      cases b with
      | true =>
        rw [if_pos rfl]
        refine k1 rfl σ4 F5 H5 _ (en4.mono s5) g5 _ fun u H6 ⟨F6, au, Γ6, s6, g6, r6, hl, k3⟩ => ?_
        obtain ⟨_, o, e0, ro⟩ := g6.obj Dl (.lst acc) (List.mem_append_right _ List.mem_cons_self)
        cases ro with
        | @lst ws _ ro =>
          refine ⟨ws, e0, by rw [ro.length]; exact hl, F6, Γ6, acc ++ [au], s15.trans s6, ?_, k3⟩
          have g7 : Gm K F6 H6 ((Dl, .lst acc) :: (Γ6 ++ Θ)) := g6.perm List.perm_middle
          have g8 := g7.write (i := 0) (o' := .lst (ws ++ [u])) (ao' := .lst (acc ++ [au])) rfl (.lst (ro.append (.cons r6 .nil)))
          exact g8.perm List.perm_middle.symm
      | false =>
        rw [if_neg Bool.false_ne_true]
        exact ⟨F5, Γ5, acc, s15, g5, k2 rfl⟩
    · have e : i = items.length := by omega
      subst e
      refine .inl ⟨ai.stops F2 H2 Γ2 _ s2 g2 hG, q _ H2 ⟨F2, .ptr Dl, (Dl, .lst acc) :: Γ2, s1.trans s2, ?_, .ptr Dl, pD acc Γ2 p2 Dl⟩⟩
      exact g2.perm List.perm_middle
theorem we_lc {vs : List Nat} (ow : OwnG g vs) (h : WI K wi δ Γ fun items G Γ1 => ∃ P : Nat → List AV → Gam → Prop, P 0 [] Γ1 ∧ (∀ i acc Γ', P i acc Γ' → G Γ') ∧
    (∀ i d acc Γ', items[i]? = some d → P i acc Γ' → WG K g d (wipeA δ vs) Γ' fun δ2 Γ2 => WT K tt δ2 Γ2 fun b Γ3 => (b = true → WE K te δ2 Γ3 fun y Γ4 => acc.length < sizeLine ∧ P (i + 1) (acc ++ [y]) Γ4) ∧ (b = false → P (i + 1) acc Γ3)) ∧
    ∀ acc Γ', P items.length acc Γ' → Φ (.lst acc) Γ') : WE K (tLc wi g tt te vs) δ Γ Φ := we_post (we_lcL ow fun σ F H Θ en gm Q q => h σ F H Θ en gm Q fun J H1 F1 Γ1 items G s1 g1 ai ⟨P, p0, pG, pT, pD⟩ =>
  q J H1 F1 Γ1 items G s1 g1 ai ⟨P, p0, pG, pT, fun acc Γ' p a => ⟨_, _, Wv.freeze, pD acc Γ' p⟩⟩)
end
end Ab

namespace Ab
open PySem L2 PyProof.Rows
/-! ### built-in functions by values -/
abbrev rLen0 (K : PySem.W.Frag) : List V → Hp → VK → Prop := fun xs H Q => ∃ x n, xs = [x] ∧ LenV K x H n ∧ Q (.int n) H
abbrev rLenDK : List V → Hp → VK → Prop := fun xs H Q => ∃ a kvs, xs = [V.ref a] ∧ H a = some (.dK kvs) ∧ Q (.int kvs.length) H
def rLenA (K : PySem.W.Frag) : List V → Hp → VK → Prop := fun xs H Q => rLen0 K xs H Q ∨ (rLenDK xs H Q ∨ rLenT xs H Q)
theorem CallR.or {X : Cx} {f : Value} {r r' : List V → Hp → VK → Prop} (h : CallR X f r) (h' : CallR X f r') : CallR X f (fun xs H Q => r xs H Q ∨ r' xs H Q) := by
  intro pins s σ H xs us Q I rx q
  rcases q with q | q
  · exact h pins s σ H xs us Q I rx q
  · exact h' pins s σ H xs us Q I rx q
abbrev rList0 (K : PySem.W.Frag) : List V → Hp → VK → Prop := fun xs H Q => ∃ p ys, xs = [.ref p] ∧ (SqL K H p ys ∨ SqT K H p ys) ∧ ∀ l, H l = none → Q (.ref l) (upd H l (.lst ys))
abbrev rListT : List V → Hp → VK → Prop := fun xs H Q => ∃ d kvs, xs = [V.ref d] ∧ Rd H d (.dT kvs) ∧ ∀ p bs, H p = none → IsKeys H kvs bs → Q (.ref p) (upd H p (.lst (bs.map V.ref)))
def rListA (K : PySem.W.Frag) : List V → Hp → VK → Prop := fun xs H Q => rList0 K xs H Q ∨ (rListD xs H Q ∨ rListT xs H Q)
abbrev rTup0 (K : PySem.W.Frag) : List V → Hp → VK → Prop := fun xs H Q => ∃ p ys, xs = [.ref p] ∧ ((SqL K H p ys ∧ ∀ l, H l = none → Q (.ref l) (upd H l (.tup ys))) ∨ (SqT K H p ys ∧ Q (.ref p) H))
abbrev rDictP (K : PySem.W.Frag) : List V → Hp → VK → Prop := fun xs H Q => ∃ (a : Addr) (ps : List Addr) (kvs : List (Key × V)), xs = [.ref a] ∧ SqL K H a (ps.map V.ref) ∧ Paired (fun p kv => SqT K H p [kV kv.1, kv.2]) ps kvs ∧ ∀ p, H p = none → Q (.ref p) (upd H p (.dK (mergeK [] kvs)))
abbrev rDictD : List V → Hp → VK → Prop := fun xs H Q => ∃ (a : Addr) (kvs : List (Key × V)), xs = [.ref a] ∧ Rd H a (.dK kvs) ∧ ∀ p, H p = none → Q (.ref p) (upd H p (.dK kvs))
def rDictA (K : PySem.W.Frag) : List V → Hp → VK → Prop := fun xs H Q => rDictP K xs H Q ∨ rDictD xs H Q
def rMaxA : List V → Hp → VK → Prop := fun xs H Q => ∃ i j, xs = [.int i, .int j] ∧ Q (.int (if j > i then j else i)) H
def rMinA : List V → Hp → VK → Prop := fun xs H Q => ∃ i j, xs = [.int i, .int j] ∧ Q (.int (if j < i then j else i)) H
abbrev rIntS : List V → Hp → VK → Prop := fun xs H Q => ∃ a n, xs = [.str a] ∧ PySem.intText? a = some n ∧ a.length ≤ 640 ∧ Q (.int n) H
def rIntA : List V → Hp → VK → Prop := fun xs H Q => ((∃ i, xs = [.int i] ∧ Q (.int i) H) ∨ ∃ k, xs = [.bl k] ∧ Q (.int (if k then 1 else 0)) H) ∨ rIntS xs H Q
def rStrA : List V → Hp → VK → Prop := fun xs H Q => ∃ i, xs = [.int i] ∧ i.natAbs.log2 < 1920 ∧ Q (.str (toString i)) H
section
variable {X : Cx}
theorem c_len : CallR X (.builtin "len") (rLenA X.K) := CallR.or call_len (CallR.or call_lenD call_len_dT)
theorem c_list (hc : X.calm = true) : CallR X (.type "list") (rListA X.K) := CallR.or call_list_of (CallR.or (call_list_dK hc) (call_list_dT hc))
theorem c_tuple : CallR X (.type "tuple") (rTup0 X.K) := call_tuple_of
theorem c_dict (hc : X.calm = true) : CallR X (.type "dict") (rDictA X.K) := CallR.or (call_dictP hc) call_dictD
theorem c_max (hc : X.calm = true) : CallR X (.builtin "max") rMaxA := call_max2 hc
theorem c_min (hc : X.calm = true) : CallR X (.builtin "min") rMinA := call_min2 hc
theorem c_int : CallR X (.type "int") rIntA := CallR.or call_int1 call_int_str
theorem c_str : CallR X (.type "str") rStrA := call_str_int
theorem c_isi : CallR X (.builtin "isinstance") (rIsi X.K) := call_isi
end
section
variable {K : PySem.W.Frag} {δ : Del} {Γ : Gam} {Φ : AV → Gam → Prop} {x y z : AV} {xs : List AV} {i j : Int} {s t : Str}
theorem wc_lenL (h : SeA Γ x xs) (k : Φ (.int (xs.length : Int)) Γ) : WC K (rLenA K) [x] Γ Φ := wc_l fun v F H Θ r gm Q q => by
  cases r with
  | cons r1 r2 =>
    cases r2
    obtain ⟨p, vs, rfl, e1, q1⟩ := h.get gm r1
    rw [← q1.length] at k
    refine ⟨.ref p, vs.length, rfl, ?_, q _ H ⟨F, _, Γ, Same.refl F, gm, .int _, k⟩⟩
    rcases e1 with e1 | e1
    · exact .inl ⟨vs, e1, rfl⟩
    · exact .inr ⟨vs, e1, rfl⟩
theorem wc_lenS (hl : s.length ≤ sizeLine) (k : Φ (.int (s.length : Int)) Γ) : WC K (rLenA K) [.str s] Γ Φ := wc_l fun v F H Θ r gm Q q => by
  cases r with
  | cons r1 r2 =>
    cases r2; cases r1
    exact ⟨.str s, s.length, rfl, ⟨hl, rfl⟩, q _ H ⟨F, _, Γ, Same.refl F, gm, .int _, k⟩⟩
theorem wc_lenD {n : Nat} {kvs : List (Key × AV)} (h : DkA Γ n x kvs) (k : Φ (.int (kvs.length : Int)) Γ) : WC K (rLenA K) [x] Γ Φ := wc_r (wc_l fun v F H Θ r gm Q q => by
  cases r with
  | cons r1 r2 =>
    cases r2
    obtain ⟨p, vs, _, rfl, _, e, rk⟩ := h.get gm r1
    rw [← rk.length] at k
    exact ⟨p, vs, rfl, e, q _ H ⟨F, _, Γ, Same.refl F, gm, .int _, k⟩⟩)
theorem wc_lenDt {n : Nat} {kvs : List (List Key × AV)} (h : DtA Γ n x kvs) (k : Φ (.int (kvs.length : Int)) Γ) : WC K (rLenA K) [x] Γ Φ := wc_r (wc_r fun v F H Θ r gm Q q => by
  cases r with
  | cons r1 r2 =>
    cases r2
    obtain ⟨p, vs, _, rfl, _, e, rk⟩ := h.get gm r1
    rw [← rk.length] at k
    exact ⟨p, vs, rfl, e, q _ H ⟨F, _, Γ, Same.refl F, gm, .int _, k⟩⟩)
theorem wc_listL (h : SeA Γ x xs) (k : Φ (.lst xs) Γ) : WC K (rListA K) [x] Γ Φ := wc_l fun v F H Θ r gm Q q => by
  cases r with
  | cons r1 r2 =>
    cases r2
    obtain ⟨p, vs, rfl, e1, q1⟩ := h.get gm r1
    refine ⟨p, vs, rfl, e1, fun n hn => ?_⟩
    obtain ⟨s2, g2⟩ := gm.froz (o := .lst vs) hn
    exact q _ _ ⟨_, _, Γ, s2, g2, .lst upd_same (Rps.mono s2 _ _ q1), k⟩
theorem wc_listLL (h : SeA Γ x xs) (k : ∀ p, Φ (.ptr p) ((p, .lst xs) :: Γ)) : WC K (rListA K) [x] Γ Φ := wc_l fun v F H Θ r gm Q q => by
  cases r with
  | cons r1 r2 =>
    cases r2
    obtain ⟨p, vs, rfl, e1, q1⟩ := h.get gm r1
    refine ⟨p, vs, rfl, e1, fun n hn => ?_⟩
    exact q _ _ ⟨F, _, _, Same.refl F, gm.new hn (.lst q1), .ptr n, k n⟩
theorem rps_kV {F : Hp} : ∀ ks : List Key, Rps K F (ks.map kV) (ks.map kA)
  | [] => .nil
  | .inl i :: r => .cons (.int i) (rps_kV r)
  | .inr i :: r => .cons (.str i) (rps_kV r)
theorem wc_listD {n : Nat} {kvs : List (Key × AV)} (h : DkA Γ n x kvs) (k : Φ (.lst (kvs.map fun kv => kA kv.1)) Γ) : WC K (rListA K) [x] Γ Φ := wc_r (wc_l fun v F H Θ r gm Q q => by
  cases r with
  | cons r1 r2 =>
    cases r2
    obtain ⟨p, vs, _, rfl, _, e, rk⟩ := h.get gm r1
    refine ⟨p, vs, rfl, e, fun n hn => ?_⟩
    have e2 : (vs.map fun kv => kV kv.1) = (vs.map (·.1)).map kV := by rw [List.map_map]; rfl
    have e3 : (kvs.map fun kv => kA kv.1) = (vs.map (·.1)).map kA := by rw [rk.keys, List.map_map]; rfl
    rw [e3] at k
    obtain ⟨s2, g2⟩ := gm.froz (o := .lst (vs.map fun kv => kV kv.1)) hn
    exact q _ _ ⟨_, _, Γ, s2, g2, .lst upd_same (by rw [e2]; exact rps_kV _), k⟩)
theorem wc_listDt {n : Nat} {kvs : List (List Key × AV)} (h : DtA Γ n x kvs) (k : Φ (.lst (kvs.map fun kv => .tup (kv.1.map kA))) Γ) : WC K (rListA K) [x] Γ Φ := wc_r (wc_r fun v F H Θ r gm Q q => by
  cases r with
  | cons r1 r2 =>
    cases r2
    obtain ⟨p, vs, _, rfl, _, e, rk⟩ := h.get gm r1
    refine ⟨p, vs, rfl, .inl e, fun n bs hn hb => ?_⟩
    obtain ⟨s2, g2⟩ := gm.froz (o := .lst (bs.map V.ref)) hn
    refine q _ _ ⟨_, _, Γ, s2, g2, .lst upd_same ?_, k⟩
    generalize upd F n (HO.lst (bs.map V.ref)) = F2 at s2
    clear g2
    have e3 : (kvs.map fun kv => AV.tup (kv.1.map kA)) = (vs.map (·.1)).map (fun ks => AV.tup (ks.map kA)) := by rw [rk.keys, List.map_map]; rfl
    rw [e3]
    clear k e3 rk e
    unfold IsKeys at hb
    induction hb with
    | nil => exact .nil
    | @cons p b ps bs h1 h2 ih => exact .cons (.tup (s2 _ _ (gm.tups _ _ h1)) (rps_kV _)) ih)
theorem wc_tupL (h : LsR Γ x xs) (k : Φ (.tup xs) Γ) : WC K (rTup0 K) [x] Γ Φ := fun v F H Θ r gm Q q => by
  cases r with
  | cons r1 r2 =>
    cases r2
    obtain ⟨p, vs, rfl, e1, q1⟩ := h.get gm r1
    refine ⟨p, vs, rfl, .inl ⟨e1, fun n hn => ?_⟩⟩
    obtain ⟨s2, g2⟩ := gm.froz (o := .tup vs) hn
    exact q _ _ ⟨_, _, Γ, s2, g2, .tup upd_same (Rps.mono s2 _ _ q1), k⟩
theorem wc_tupT (k : Φ (.tup xs) Γ) : WC K (rTup0 K) [.tup xs] Γ Φ := fun v F H Θ r gm Q q => by
  cases r with
  | cons r1 r2 =>
    cases r2
    cases r1 with
    | tup e r => exact ⟨_, _, rfl, .inr ⟨SqT.of (gm.sub _ _ e), q _ H ⟨F, _, Γ, Same.refl F, gm, .tup e r, k⟩⟩⟩
theorem wc_max (k : Φ (.int (if j > i then j else i)) Γ) : WC K rMaxA [.int i, .int j] Γ Φ := fun v F H Θ r gm Q q => by
  cases r with
  | cons r1 r2 => cases r2 with
    | cons r2 r3 =>
      cases r1; cases r2; cases r3
      exact ⟨i, j, rfl, q _ H ⟨F, _, Γ, Same.refl F, gm, .int _, k⟩⟩
theorem wc_min (k : Φ (.int (if j < i then j else i)) Γ) : WC K rMinA [.int i, .int j] Γ Φ := fun v F H Θ r gm Q q => by
  cases r with
  | cons r1 r2 => cases r2 with
    | cons r2 r3 =>
      cases r1; cases r2; cases r3
      exact ⟨i, j, rfl, q _ H ⟨F, _, Γ, Same.refl F, gm, .int _, k⟩⟩
theorem wc_intI (k : Φ (.int i) Γ) : WC K rIntA [.int i] Γ Φ := fun v F H Θ r gm Q q => by
  cases r with
  | cons r1 r2 =>
    cases r1; cases r2
    exact .inl (.inl ⟨i, rfl, q _ H ⟨F, _, Γ, Same.refl F, gm, .int _, k⟩⟩)
theorem wc_intB {b : Bool} (k : Φ (.int (if b then 1 else 0)) Γ) : WC K rIntA [.bl b] Γ Φ := fun v F H Θ r gm Q q => by
  cases r with
  | cons r1 r2 =>
    cases r1; cases r2
    exact .inl (.inr ⟨b, rfl, q _ H ⟨F, _, Γ, Same.refl F, gm, .int _, k⟩⟩)
theorem wc_intS (h : PySem.intText? s = some i) (hl : s.length ≤ 640) (k : Φ (.int i) Γ) : WC K rIntA [.str s] Γ Φ := fun v F H Θ r gm Q q => by
  cases r with
  | cons r1 r2 =>
    cases r1; cases r2
    exact .inr ⟨s, i, rfl, h, hl, q _ H ⟨F, _, Γ, Same.refl F, gm, .int _, k⟩⟩
theorem wc_str (h : i.natAbs.log2 < 1920) (k : Φ (.str (toString i)) Γ) : WC K rStrA [.int i] Γ Φ := fun v F H Θ r gm Q q => by
  cases r with
  | cons r1 r2 =>
    cases r1; cases r2
    exact ⟨i, rfl, h, q _ H ⟨F, _, Γ, Same.refl F, gm, .str _, k⟩⟩
/-- the built-in class of a thing -/
inductive TnA (Γ : Gam) : AV → String → Prop
  | non : TnA Γ .non "NoneType"
  | bl (b : Bool) : TnA Γ (.bl b) "bool"
  | int (i : Int) : TnA Γ (.int i) "int"
  | str (s : Str) : TnA Γ (.str s) "str"
  | tup (xs : List AV) : TnA Γ (.tup xs) "tuple"
  | lst {x : AV} {xs : List AV} : LsA Γ x xs → TnA Γ x "list"
  | dK {i : Nat} {x : AV} {kvs : List (Key × AV)} : DkA Γ i x kvs → TnA Γ x "dict"
  | dT {i : Nat} {x : AV} {kvs : List (List Key × AV)} : DtA Γ i x kvs → TnA Γ x "dict"
theorem TnA.get {F H : Hp} {Θ : Gam} {v : V} {T : String} (h : TnA Γ x T) (gm : Gm K F H (Γ ++ Θ)) (r : Rp K F v x) : TyX K H v (.type T) := by
  cases h with
  | non => cases r; exact .base .non
  | bl => cases r; exact .base (.bl _)
  | int => cases r; exact .base (.int _)
  | str => cases r; exact .base (.str _)
  | tup => cases r with
    | tup e _ => exact .base (.tup (gm.sub _ _ e))
  | lst h =>
    obtain ⟨p, vs, rfl, e, _⟩ := h.get gm r
    exact .base (.lst e)
  | dK h =>
    obtain ⟨p, vs, _, rfl, _, e, _⟩ := h.get gm r
    exact .base (.dK e)
  | dT h =>
    obtain ⟨p, vs, _, rfl, _, e, _⟩ := h.get gm r
    exact .base (.dT e)
theorem wc_isi {T U : String} {b : Bool} (h : TnA Γ x T) (hk : kitB T U = some b) (k : Φ (.bl b) Γ) : WC K (rIsi K) [x, .ty U] Γ Φ := fun v F H Θ r gm Q q => by
  cases r with
  | cons r1 r2 => cases r2 with
    | cons r2 r3 =>
      cases r2; cases r3
      exact ⟨_, .ty U, .type T, .type U, b, rfl, .ty U, h.get gm r1, kit_ty hk, q _ H ⟨F, _, Γ, Same.refl F, gm, .bl _, k⟩⟩
theorem wc_any {bs : List Bool} (h : LsR Γ x (bs.map AV.bl)) (k : Φ (.bl (bs.any id)) Γ) : WC K (rAny K) [x] Γ Φ := fun v F H Θ r gm Q q => by
  cases r with
  | cons r1 r2 =>
    cases r2
    obtain ⟨p, vs, rfl, e1, q1⟩ := h.get gm r1
    have e2 : vs = bs.map V.bl := by
      clear k h e1 r1
      induction bs generalizing vs with
      | nil => cases q1; rfl
      | cons b bs ih => cases q1 with
        | cons r1 r2 => cases r1; rw [ih _ r2]; rfl
    subst e2
    exact ⟨p, bs, rfl, e1, q _ H ⟨F, _, Γ, Same.refl F, gm, .bl _, k⟩⟩
theorem wc_all {bs : List Bool} (h : LsR Γ x (bs.map AV.bl)) (k : Φ (.bl (bs.all id)) Γ) : WC K (rAll K) [x] Γ Φ := fun v F H Θ r gm Q q => by
  cases r with
  | cons r1 r2 =>
    cases r2
    obtain ⟨p, vs, rfl, e1, q1⟩ := h.get gm r1
    have e2 : vs = bs.map V.bl := by
      clear k h e1 r1
      induction bs generalizing vs with
      | nil => cases q1; rfl
      | cons b bs ih => cases q1 with
        | cons r1 r2 => cases r1; rw [ih _ r2]; rfl
    subst e2
    exact ⟨p, bs, rfl, e1, q _ H ⟨F, _, Γ, Same.refl F, gm, .bl _, k⟩⟩

/-! ### methods -/
abbrev rInsert : V → List V → Hp → VK → Prop := fun x vs H Q => ∃ (l : Addr) (xs : List V) (i : Int) (y : V), x = .ref l ∧ vs = [.int i, y] ∧ H l = some (.lst xs) ∧ xs.length < sizeLine ∧ 0 ≤ i ∧ i < 2 ^ 63 ∧ Q .non (upd H l (.lst (xs.take i.toNat ++ [y] ++ xs.drop i.toNat)))
variable {p : Addr} {n : Nat} {Γ' : Gam}
theorem wm_append (h : Γ[n]? = some (p, .lst xs)) (hl : xs.length < sizeLine) (eΓ : Γ.set n (p, .lst (xs ++ [y])) = Γ') (k : Φ .non Γ') : WM K rAppend (.ptr p) [y] Γ Φ := fun u v F H Θ r0 r gm Q q => by
  obtain ⟨_, vs, e0, rfl, _, e, rs⟩ := LiA.get (⟨p, rfl, h⟩ : LiA Γ n (.ptr p) xs) gm r0
  cases e0
  cases r with
  | cons r1 r2 =>
    cases r2
    subst eΓ
    exact ⟨p, vs, _, rfl, rfl, e, by rw [rs.length]; exact hl, q _ _ ⟨F, _, _, Same.refl F, gm.wr h (.lst (rs.append (.cons r1 .nil))), .non, k⟩⟩
theorem wm_extend {ys : List AV} (h : Γ[n]? = some (p, .lst xs)) (h2 : LsA Γ y ys) (hl : xs.length + ys.length ≤ sizeLine) (eΓ : Γ.set n (p, .lst (xs ++ ys)) = Γ') (k : Φ .non Γ') : WM K rExtend (.ptr p) [y] Γ Φ := fun u v F H Θ r0 r gm Q q => by
  obtain ⟨_, vs, e0, rfl, _, e, rs⟩ := LiA.get (⟨p, rfl, h⟩ : LiA Γ n (.ptr p) xs) gm r0
  cases e0
  cases r with
  | cons r1 r2 =>
    cases r2
    obtain ⟨b, us, rfl, e2, q2⟩ := h2.get gm r1
    subst eΓ
    exact ⟨p, b, vs, us, rfl, rfl, e, e2, by rw [rs.length, q2.length]; exact hl, q _ _ ⟨F, _, _, Same.refl F, gm.wr h (.lst (rs.append q2)), .non, k⟩⟩
theorem wm_insert (h : Γ[n]? = some (p, .lst xs)) (hl : xs.length < sizeLine) (h0 : 0 ≤ i) (h1 : i < 2 ^ 63) (eΓ : Γ.set n (p, .lst (xs.take i.toNat ++ [y] ++ xs.drop i.toNat)) = Γ') (k : Φ .non Γ') : WM K rInsert (.ptr p) [.int i, y] Γ Φ := fun u v F H Θ r0 r gm Q q => by
  obtain ⟨_, vs, e0, rfl, _, e, rs⟩ := LiA.get (⟨p, rfl, h⟩ : LiA Γ n (.ptr p) xs) gm r0
  cases e0
  cases r with
  | cons r1 r2 => cases r2 with
    | cons r2 r3 =>
      cases r1; cases r3
      subst eΓ
      exact ⟨p, vs, i, _, rfl, rfl, e, by rw [rs.length]; exact hl, h0, h1, q _ _ ⟨F, _, _, Same.refl F, gm.wr h (.lst (((rs.take _).append (.cons r2 .nil)).append (rs.drop _))), .non, k⟩⟩
theorem wm_pop (h : Γ[n]? = some (p, .lst xs)) (hx : xs[xs.length - 1]? = some y) (eΓ : Γ.set n (p, .lst xs.dropLast) = Γ') (k : Φ y Γ') : WM K rPop (.ptr p) [] Γ Φ := fun u v F H Θ r0 r gm Q q => by
  obtain ⟨_, vs, e0, rfl, _, e, rs⟩ := LiA.get (⟨p, rfl, h⟩ : LiA Γ n (.ptr p) xs) gm r0
  cases e0
  cases r
  obtain ⟨w, e2, rw'⟩ := rs.get hx
  subst eΓ
  exact ⟨p, vs, w, rfl, rfl, e, by rw [rs.length]; exact e2, q _ _ ⟨F, _, _, Same.refl F, gm.wr h (.lst rs.dropLast), rw', k⟩⟩
theorem wm_clear (h : Γ[n]? = some (p, .lst xs)) (eΓ : Γ.set n (p, .lst []) = Γ') (k : Φ .non Γ') : WM K rClear (.ptr p) [] Γ Φ := fun u v F H Θ r0 r gm Q q => by
  obtain ⟨_, vs, e0, rfl, _, e, rs⟩ := LiA.get (⟨p, rfl, h⟩ : LiA Γ n (.ptr p) xs) gm r0
  cases e0
  cases r
  subst eΓ
  exact ⟨p, vs, rfl, rfl, e, q _ _ ⟨F, _, _, Same.refl F, gm.wr h (.lst .nil), .non, k⟩⟩
abbrev rJoin (K : PySem.W.Frag) : V → List V → Hp → VK → Prop := fun x xs H Q => ∃ a p, ∃ ys : List Str, x = .str a ∧ xs = [.ref p] ∧ (SqL K H p (ys.map V.str) ∨ SqT K H p (ys.map V.str)) ∧ (ys.map (·.length)).sum + ys.length * a.length ≤ 16777216 ∧ Q (.str (Txt.join a ys)) H
theorem rps_strs {F : Hp} : ∀ {ss : List Str} {vs : List V}, Rps K F vs (ss.map AV.str) → vs = ss.map V.str
  | [], _, r => by cases r; rfl
  | s :: ss, _, r => by
    cases r with
    | cons r1 r2 => cases r1; rw [rps_strs r2]; rfl
theorem wm_join {ss : List Str} (h : SeA Γ y (ss.map AV.str)) (hl : (ss.map (·.length)).sum + ss.length * s.length ≤ 16777216) (k : Φ (.str (Txt.join s ss)) Γ) : WM K (rJoin K) (.str s) [y] Γ Φ := fun u v F H Θ r0 r gm Q q => by
  cases r0
  cases r with
  | cons r1 r2 =>
    cases r2
    obtain ⟨b, us, rfl, e2, q2⟩ := h.get gm r1
    obtain rfl := rps_strs q2
    exact ⟨s, b, ss, rfl, rfl, e2, hl, q _ _ ⟨F, _, _, Same.refl F, gm, .str _, k⟩⟩
/-- d.get -/
theorem we_dget1 {td ty : TE} (h : WE K td δ Γ fun x Γ1 => (∃ i kvs, DkA Γ1 i x kvs) ∧ WE K ty δ Γ1 fun y Γ2 => ∃ o : Option AV, DgA Γ2 x y o ∧ Φ (o.getD .non) Γ2) : WE K (tDGet1 td ty) δ Γ Φ := fun σ F H Θ en gm Q q =>
  h σ F H Θ en gm _ fun v H1 ⟨F1, av, Γ1, s1, g1, r1, ⟨i, kvs, hd⟩, h1⟩ => by
    obtain ⟨p, vs, e0, rfl, _, e, rk⟩ := hd.get g1 r1
    subst e0
    refine ⟨p, rfl, .inl ⟨vs, .inl e⟩, h1 σ F1 H1 Θ (en.mono s1) g1 _ fun u H2 ⟨F2, au, Γ2, s2, g2, r2, o, hg, k⟩ => ?_⟩
    obtain ⟨p', o', e', g, ro⟩ := hg.get g2 (.ptr p) r2
    cases e'
    refine ⟨o', g, ?_⟩
    cases o with
    | none => rw [ro.none]; exact q _ H2 ⟨F2, _, Γ2, s1.trans s2, g2, .non, k⟩
    | some a =>
      obtain ⟨w, e2, rw'⟩ := ro.some
      subst e2
      exact q _ H2 ⟨F2, _, Γ2, s1.trans s2, g2, rw', k⟩
theorem we_dnewK (k : ∀ p, Φ (.ptr p) ((p, .dK []) :: Γ)) : WE K tDNewK δ Γ Φ := fun σ F H Θ en gm Q q p hp => q _ _ ⟨F, _, _, Same.refl F, gm.new hp (.dK .nil), .ptr p, k p⟩
theorem we_dnewT (k : ∀ p, Φ (.ptr p) ((p, .dT []) :: Γ)) : WE K tDNewT δ Γ Φ := fun σ F H Θ en gm Q q p hp => q _ _ ⟨F, _, _, Same.refl F, gm.new hp (.dT .nil), .ptr p, k p⟩
/-- {k: v}, one pair -/
theorem we_disp1 {tk tv : TE} (h : ∀ p, WE K tk δ ((p, .dK []) :: Γ) fun a Γ1 => WE K tv δ Γ1 fun b Γ2 => ∃ (k : Key) (Γ3 : Gam), a = kA k ∧ Γ2 = (p, .dK []) :: Γ3 ∧ Φ (.ptr p) ((p, .dK [(k, b)]) :: Γ3)) : WE K (tDisp [(tk, tv)]) δ Γ Φ := fun σ F H Θ en gm Q q p hp => by
  refine h p σ F _ Θ en (gm.new hp (.dK .nil)) _ fun v H1 ⟨F1, av, Γ1, s1, g1, r1, h1⟩ => ?_
  refine h1 σ F1 H1 Θ (en.mono s1) g1 _ fun u H2 ⟨F2, au, Γ2, s2, g2, r2, k, Γ3, e1, e2, kk⟩ => ?_
  subst e1 e2
  obtain ⟨_, o, e0, ro⟩ := g2.at_ (i := 0) rfl
  cases ro with
  | dK rk =>
    cases rk
    rw [rp_key r1]
    refine ⟨e0, [(k, u)], rfl, (by show 1 ≤ 15; decide), q _ _ ⟨F2, _, (p, .dK [(k, au)]) :: Γ3, s1.trans s2, ?_, .ptr p, kk⟩⟩
    exact g2.write (i := 0) rfl (.dK (.cons ⟨rfl, r2⟩ .nil))
end
end Ab

namespace Ab
open PySem L2 PyProof.Rows

/-- what the top has left: the defs, the names -/
structure Tx (fa : List He.Fa) (fn : List He.DefD) (K : PySem.W.Frag) (mg : Str → Option Value) : Prop where
  says : He.SaysD fa fn K
  glo : ∀ (i : Nat) (x : Str), fa[i]? = some (.glo x) → mg x = some (.ref (He.ga K x))
  free : ∀ (i : Nat) (x : Str), fa[i]? = some (.free x) → mg x = none
theorem Tx.mk' {fa : List He.Fa} {fn : List He.DefD} {K : PySem.W.Frag} {h : Heap} {mg : Str → Option Value} (X : K.In h) (G : h.Ns mainGlobals mg) (c : He.SaysD fa fn K) : Tx fa fn K mg :=
  ⟨c, fun i x e => He.glo_ok X G (c.fact i e), fun i x e => He.free_ok X G (c.fact i e)⟩
/-- a def of the text keeps a promise -/
structure Ok (P : Program) (w : World) (K : PySem.W.Frag) (mg : Str → Option Value) (base : Heap) (k : Nat) (x : Str) (ps : List Str) (sp : Sp) : Prop where
  ex : ∃ fd, FnOk P w K mg base CX0 k (He.ga K x) fd ps sp ∧ Binds K fd ps [] ∧ ∀ (s : Shared) (us : List Value), us.length = ps.length → BindsTo s fd ⟨us, []⟩ (ps.zip us)
  g : mg x = some (.ref (He.ga K x))
  kp : PySem.W.keepIn K (.ref (He.ga K x)) = true
section
variable {P : Program} {w : World} {K : PySem.W.Frag} {mg : Str → Option Value} {base : Heap}
theorem Ok.of {x : Str} {pa : Arguments} {bd : List Stmt} {sc : Scope} {fd : FuncData} {N ps : List Str} {k : Nat} {s : ASp} (F : FunD K x x pa bd sc [] [] (He.ga K x) fd) (g : mg x = some (.ref (He.ga K x))) (S : FnScope N ps sc)
    (hb : ∀ (kV doc pm : Value) (an : Option Addr) (cdv ct : Value) (us : List Value), us.length = ps.length → bindArgs (PySem.W.fnOf x x pa bd sc .none kV doc pm an cdv ct) ⟨us, []⟩ = pure (ps.zip us))
    (len : ∀ avs objs Φ, s avs objs Φ → avs.length = ps.length)
    (body : ∀ (cdv : Value) (A : Around) (outer : List Env) (st : Shared) (H : Hp) (E : XK), Room k (A.deeper (envOfC x sc st.heap.objs.size (He.ga K x) cdv)) →
      ∃ t, PSs (cxOf CX0 P w K mg base N x sc (He.ga K x) cdv A outer st H E).nox bd t ∧ ∀ avs objs Φ, s avs objs Φ → WS K t { nx := fun _ Γ => Φ .non Γ, rt := Φ } (startA N avs) objs) : Ok P w K mg base (k + 1) x ps (toSp K s) where
  ex := ⟨fd, F.ok S (toSp_len len) fun cdv A outer st H vs Q E hr h => by
    obtain ⟨t, h1, h2⟩ := body cdv A outer st H E hr
    exact ⟨t, h1.nox, run_body h h2⟩, F.bindsN hb, fun s us hl => F.bindsA hb s us hl⟩
  g := g
  kp := F.kp
theorem pe_callO {X : Cx} {x : Str} {p pos : Pos} {e : Expr} {es : List Expr} {k : Nat} {ps : List Str} {sp : Sp} {t : TA} (o : Ok X.prog X.w X.K X.mg X.base k x ps sp) (hr : Room k X.A) (hg : Gl X x) (ha : PA X (e :: es) t)
    (hdb : (x == ("__debug__" : Str)) = false := by decide) (he : starEach (e :: es) X.env = (false, eval e X.env) :: starEach es X.env := by rfl) (hpl : (backTo pos (starEach es X.env)).any (·.1) = false := by rfl) : PE X (.Call (.Name x p) (e :: es) [] pos) (tCall sp [] E0 t) := by
  refine ⟨fun pins s σ H Q I h => ?_⟩
  obtain ⟨fd, F, b, _⟩ := o.ex
  exact (pe_call F hr hg o.g o.kp b .nil pass0 ha hdb he hpl).run pins s σ H Q I h
theorem pe_callO0 {X : Cx} {x : Str} {p pos : Pos} {k : Nat} {ps : List Str} {sp : Sp} (o : Ok X.prog X.w X.K X.mg X.base k x ps sp) (hr : Room k X.A) (hg : Gl X x) 
    (hdb : (x == ("__debug__" : Str)) = false := by decide) : PE X (.Call (.Name x p) [] [] pos) (tCall sp [] E0 tNil) := by
  refine ⟨fun pins s σ H Q I h => ?_⟩
  obtain ⟨fd, F, b, _⟩ := o.ex
  exact (pe_call0 F hr hg o.g o.kp b .nil pass0 hdb).run pins s σ H Q I h
theorem _root_.L2.Room.u65 {k : Nat} {A : Around} (r : Room k A) : A.units + 65 < cLine := by have := r.un; omega
theorem _root_.L2.Room.u1 {k : Nat} {A : Around} (r : Room k A) : A.units + 1 < cLine := by have := r.un; omega
/-- a list display, a copy .. that is to be changed -/
def tLstM : TA → TE := tLst
theorem pe_lstM {X : Cx} {es : List Expr} {t : TA} {pos : Pos} (h : PA X es t) : PE X (.List es pos) (tLstM t) := pe_lst h
theorem we_lstM {δ : Del} {Γ : Gam} {Φ : AV → Gam → Prop} {t : TA} (h : WA K t δ Γ fun xs Γ1 => xs.length ≤ sizeLine ∧ ∀ p, Φ (.ptr p) ((p, .lst xs) :: Γ1)) : WE K (tLstM t) δ Γ Φ := we_lstL h
def tLcM (wi : TI) (g : TG) (tt : TT) (te : TE) (vs : List Nat) : TE := tLc wi g tt te vs
def tMut (te : TE) : TE := te
theorem pe_mut {X : Cx} {e : Expr} {te : TE} (h : PE X e te) : PE X e (tMut te) := h
end
end Ab

namespace Ab
open PySem L2 PyProof.Rows
/-! ### powers -/
def CPowW (i j : Int) : Prop := 0 ≤ j ∧ (Builtin.Int.intBits i : Int) * j ≤ 2 ^ 27
def rPowA : R2 := rI CPowW fun i j => .int (i ^ j.toNat)
theorem op_powA {X : Cx} : OpR X (binaryOp .Pow) rPowA := opI fun _ _ _ _ _ _ _ hc q => pow_int hc.1 hc.2 q
theorem powW {i j : Int} {b : Nat} (hj : 0 ≤ j) (hi : i.natAbs < 2 ^ b) (h : (b : Int) * j ≤ 2 ^ 27) : CPowW i j := by
  refine ⟨hj, Int.le_trans ?_ h⟩
  have h1 : (Builtin.Int.intBits i : Int) ≤ b := by exact_mod_cast intBits_le hi
  exact Int.mul_le_mul_of_nonneg_right h1 hj
section
variable {K : PySem.W.Frag} {δ : Del} {Γ : Gam} {Φ : AV → Gam → Prop} {i j : Int} {ta : TE}
theorem wr_pow (hc : CPowW i j) (k : Φ (.int (i ^ j.toNat)) Γ) : WR K rPowA (.int i) (.int j) Γ Φ := wr_I (fun _ => .int _) hc k
theorem wu_neg (k : Φ (.int (-i)) Γ) : WU K (rU fun i => .int (-i)) (.int i) Γ Φ := fun v F H Θ r gm Q q => by
  cases r
  exact ⟨i, rfl, q _ H ⟨F, _, Γ, Same.refl F, gm, .int _, k⟩⟩
/-- marks of what is to be changed -/
def WRM := @WR
def WCM := @WC
def WSlM := @WSl
theorem we_mutOp {r : R2} {ta tb : TE} (h : WE K ta δ Γ fun x Γ1 => WE K tb δ Γ1 fun y Γ2 => WRM K r x y Γ2 Φ) : WE K (tMut (tOp r ta tb)) δ Γ Φ := we_op h
theorem we_mutCb {r : List V → Hp → VK → Prop} {t : TA} (h : WA K t δ Γ fun xs Γ1 => WCM K r xs Γ1 Φ) : WE K (tMut (tCB r t)) δ Γ Φ := we_cb h
theorem we_mutSl {r : V → Option Int → Option Int → Hp → VK → Prop} {te : TE} {tl th : TO} (h : WE K te δ Γ fun x Γ1 => WO K tl δ Γ1 fun lo Γ2 => WO K th δ Γ2 fun hi Γ3 => WSlM K r x lo hi Γ3 Φ) : WE K (tMut (tSl r te tl th)) δ Γ Φ := we_sl h
theorem we_mutLst {t : TA} (h : WA K t δ Γ fun xs Γ1 => xs.length ≤ sizeLine ∧ ∀ p, Φ (.ptr p) ((p, .lst xs) :: Γ1)) : WE K (tMut (tLst t)) δ Γ Φ := we_lstL h
theorem we_mutLc {wi : TI} {g : TG} {tt : TT} {te : TE} {vs : List Nat} (ow : OwnG g vs) (h : WI K wi δ Γ fun items G Γ1 => ∃ P : Nat → List AV → Gam → Prop, P 0 [] Γ1 ∧ (∀ i acc Γ', P i acc Γ' → G Γ') ∧
    (∀ i d acc Γ', items[i]? = some d → P i acc Γ' → WG K g d (wipeA δ vs) Γ' fun δ2 Γ2 => WT K tt δ2 Γ2 fun b Γ3 => (b = true → WE K te δ2 Γ3 fun y Γ4 => acc.length < sizeLine ∧ P (i + 1) (acc ++ [y]) Γ4) ∧ (b = false → P (i + 1) acc Γ3)) ∧
    ∀ acc Γ', P items.length acc Γ' → ∀ p, Φ (.ptr p) ((p, .lst acc) :: Γ')) : WE K (tMut (tLc wi g tt te vs)) δ Γ Φ := we_lcL ow h
theorem br {a : Bool} {A B : Prop} (h1 : a = true → A) (h2 : a = false → B) : (a = true → A) ∧ (a = false → B) := ⟨h1, h2⟩
theorem brT {a : Bool} {A B : Prop} (h : a = true) (h1 : A) : (a = true → A) ∧ (a = false → B) := ⟨fun _ => h1, fun z => (by rw [h] at z; cases z)⟩
theorem brF {a : Bool} {A B : Prop} (h : a = false) (h1 : B) : (a = true → A) ∧ (a = false → B) := ⟨fun z => (by rw [h] at z; cases z), fun _ => h1⟩
theorem brD {p A B : Prop} [Decidable p] (h1 : p → A) (h2 : ¬ p → B) : (decide p = true → A) ∧ (decide p = false → B) := ⟨fun z => h1 (of_decide_eq_true z), fun z => h2 (of_decide_eq_false z)⟩
theorem brN {p A B : Prop} [Decidable p] (h1 : ¬ p → A) (h2 : p → B) : ((!decide p) = true → A) ∧ ((!decide p) = false → B) := ⟨fun z => h1 (by simpa using z), fun z => h2 (by simpa using z)⟩
theorem wt_yes {Ψ : Bool → Gam → Prop} (k : Ψ true Γ) : WT K tYes δ Γ Ψ := fun σ F H Θ en gm Q q => q true H ⟨F, Γ, Same.refl F, gm, k⟩
/-- literals within the line -/
theorem sz {n : Nat} (h : n ≤ 1000 := by simp) : n ≤ sizeLine := Nat.le_trans h (by decide)

/-! ### the statements' rules, the ends spelt out -/
variable {ts tu : TS} {g : TG} {te tb : TE} {t : TA} {tt : TT} {wi : TI} {n b c : Del → Gam → Prop} {r : AV → Gam → Prop}
theorem sn_seq (h : WS K ts ⟨fun δ' Γ' => WS K tu ⟨n, r, b, c⟩ δ' Γ', r, b, c⟩ δ Γ) : WS K (tSeq ts tu) ⟨n, r, b, c⟩ δ Γ := ws_seq h
theorem sn_next (h : n δ Γ) : WS K tNext ⟨n, r, b, c⟩ δ Γ := ws_next h
theorem sn_break (h : b δ Γ) : WS K tBreak ⟨n, r, b, c⟩ δ Γ := ws_break h
theorem sn_cont (h : c δ Γ) : WS K tCont ⟨n, r, b, c⟩ δ Γ := ws_cont h
theorem sn_drop (h : WE K te δ Γ fun _ Γ1 => n δ Γ1) : WS K (tDrop te) ⟨n, r, b, c⟩ δ Γ := ws_drop h
theorem sn_ret (h : WE K te δ Γ r) : WS K (tRet te) ⟨n, r, b, c⟩ δ Γ := ws_ret h
theorem sn_retN (h : r .non Γ) : WS K tRetN ⟨n, r, b, c⟩ δ Γ := ws_retN h
theorem sn_asg (h : WE K te δ Γ fun x Γ1 => WG K g x δ Γ1 n) : WS K (tAsg te g) ⟨n, r, b, c⟩ δ Γ := ws_asg h
theorem sn_par {i j : Nat} (h : WA K t δ Γ fun xs Γ1 => ∃ x y, xs = [x, y] ∧ n ((δ.set i (some x)).set j (some y)) Γ1) : WS K (tPar i j t) ⟨n, r, b, c⟩ δ Γ := ws_par h
theorem sn_for (h : WI K wi δ Γ fun items G Γ1 => ∃ P : Nat → Del → Gam → Prop, P 0 δ Γ1 ∧ (∀ i δ' Γ', P i δ' Γ' → G Γ') ∧
    (∀ i d δ' Γ', items[i]? = some d → P i δ' Γ' → WG K g d δ' Γ' fun δ2 Γ2 => WS K ts ⟨P (i + 1), r, n, P (i + 1)⟩ δ2 Γ2) ∧ ∀ δ' Γ', P items.length δ' Γ' → n δ' Γ') : WS K (tFor wi g ts) ⟨n, r, b, c⟩ δ Γ := ws_for h
theorem sn_while (P : Nat → Del → Gam → Prop) (m0 : Nat) (h0 : P m0 δ Γ) (h : ∀ m δ' Γ', P m δ' Γ' → WT K tt δ' Γ' fun q Γ1 => (q = true → WS K ts ⟨fun δ2 Γ2 => ∃ m', m' < m ∧ P m' δ2 Γ2, r, n, fun δ2 Γ2 => ∃ m', m' < m ∧ P m' δ2 Γ2⟩ δ' Γ1) ∧ (q = false → n δ' Γ1)) :
    WS K (tWhile tt ts) ⟨n, r, b, c⟩ δ Γ := ws_while P m0 h0 h
theorem sn_fld {f : Str} (h : WE K tb δ Γ fun y Γ1 => WE K te δ Γ1 fun x Γ2 => ∃ (i : Nat) (C : Addr) (fs : List (Str × AV)) (p : Addr) (Γ3 : Gam), x = .ptr p ∧ Γ2[i]? = some (p, .ins C fs) ∧ Cls K C ∧ NoAttr K C f ∧ fs.length < 1000 ∧ Γ2.set i (p, .ins C (putFA f y fs)) = Γ3 ∧ n δ Γ3) : WS K (sFld K te tb f) ⟨n, r, b, c⟩ δ Γ := ws_fld h
theorem sn_aug {i : Nat} {f : Int → Int → Int} {a : Int} {δ' : Int → Del} (hx : δ[i]? = some (some (.int a))) (h : WE K te δ Γ fun y Γ1 => ∃ z, y = .int z ∧ n (δ.set i (some (.int (f a z)))) Γ1) : WS K (tAug i te (ipI f)) ⟨n, r, b, c⟩ δ Γ := ws_aug hx h

section
variable {α : Type} {x a0 a1 a2 a3 a4 a5 : α} {l : List α}
theorem ix0 : (x :: l)[0]? = some x := rfl
theorem ix1 : (a0 :: x :: l)[1]? = some x := rfl
theorem ix2 : (a0 :: a1 :: x :: l)[2]? = some x := rfl
theorem ix3 : (a0 :: a1 :: a2 :: x :: l)[3]? = some x := rfl
theorem ix4 : (a0 :: a1 :: a2 :: a3 :: x :: l)[4]? = some x := rfl
theorem ix5 : (a0 :: a1 :: a2 :: a3 :: a4 :: x :: l)[5]? = some x := rfl
theorem ix6 : (a0 :: a1 :: a2 :: a3 :: a4 :: a5 :: x :: l)[6]? = some x := rfl
end
end

section
variable {K : PySem.W.Frag} {δ : Del} {Γ : Gam} {Φ : AV → Gam → Prop} {i j : Int} {l : Nat}
theorem ixn0 : ixN (l + 1) 0 = some 0 := by simp [ixN]
theorem ixn1 : ixN (l + 2) 1 = some 1 := by
  unfold ixN
  rw [if_pos (by decide), if_pos (by omega)]; rfl
theorem ixn2 : ixN (l + 3) 2 = some 2 := by
  unfold ixN
  rw [if_pos (by decide), if_pos (by omega)]; rfl
theorem ixn3 : ixN (l + 4) 3 = some 3 := by
  unfold ixN
  rw [if_pos (by decide), if_pos (by omega)]; rfl
theorem natAbs_lt {b : Nat} (h1 : -(2 ^ b) < i) (h2 : i < 2 ^ b) : i.natAbs < 2 ^ b := by
  have e : ((2 ^ b : Nat) : Int) = 2 ^ b := by push_cast; rfl
  omega
theorem cdivw (h : 0 < j) (h2 : j < 2 ^ 400) : CDivW i j := wide_div h (natAbs_lt (by omega) h2) (by decide) (by decide)
theorem cmulw (h1 : -(2 ^ 400) < i) (h2 : i < 2 ^ 400) (h3 : -(2 ^ 400) < j) (h4 : j < 2 ^ 400) : CMulW i j := wide_mul (natAbs_lt h1 h2) (natAbs_lt h3 h4) (by decide) (by decide) (by decide)
theorem cpoww (hj : 0 ≤ j) (hj2 : j ≤ 1000) (h1 : -(2 ^ 400) < i) (h2 : i < 2 ^ 400) : CPowW i j := powW hj (natAbs_lt h1 h2) (by omega)
/-- the rest and the whole part as letters -/
theorem wr_modG (hc : 0 < j) (k : ∀ r, 0 ≤ r → r < j → Φ (.int r) Γ) : WR K rModA (.int i) (.int j) Γ Φ := wr_mod hc (k _ (Int.emod_nonneg _ (by omega)) (Int.emod_lt_of_pos _ hc))
theorem wr_divG (hc : CDivW i j) (k : ∀ r, (0 ≤ i → 0 ≤ r) → (0 ≤ i → r ≤ i) → Φ (.int r) Γ) : WR K rDivA (.int i) (.int j) Γ Φ := wr_div hc (k _ (fun h => Int.ediv_nonneg h (Int.le_of_lt hc.1)) (fun h => Int.ediv_le_self _ h))
theorem wr_powG (hc : CPowW i j) (k : ∀ r, Φ (.int r) Γ) : WR K rPowA (.int i) (.int j) Γ Φ := wr_pow hc (k _)
end
end Ab

namespace PySem.SeqAt
open AutoSeq1 (wpAny_loadPart')
open MeetsSeq MeetsSeq2 MeetsSeq3 SeqRoads2
section
theorem lt_loop0 (l b : Addr) (items items2 : Array Value) (n n2 : Nat) (dd dd2 : Option Addr) (sl sl2 : Array (Option Value)) (p q : Value) (k : Bool) (h1 : items[0]? = some p) (h2 : items2[0]? = some q) :
    Meets (Builtin.«list.__eq__.loop» ⟨[.ref l, .ref b, rawInt 0, rawInt 0], []⟩)
      (fun A R s => s.heap.get? l = some { cls := .type "list", dict := dd, data := .seq items n, slots := sl } ∧ s.heap.get? b = some { cls := .type "list", dict := dd2, data := .seq items2 n2, slots := sl2 } ∧
        EqAt A.in1 s p q false ∧ RcLt A.in1 s p q k ∧ R (.ok (.ret (.bool k))) s) := by
  intro prog w A R s h
  obtain ⟨hp, g, d, tk, os⟩ := s; obtain ⟨hl, hb, he, hr, h⟩ := h
  wp_walk using wpAny_loadPart' hl, wpAny_loadPart' hb
  have hi1 : items[((0 : Int)).toNat]? = some p := h1
  have hi2 : items2[((0 : Int)).toNat]? = some q := h2
  rw [hi1, hi2]
  refine wpAny_bind (he prog w _ _ ?_)
  unfold RcLt at hr
  generalize hRC : richCompare = RC at hr ⊢
  wp_walk using wpAny_loadPart' hl, wpAny_loadPart' hb
  rw [hi1, hi2]
  wp_walk
  refine hr prog w _ _ ?_
  wp_walk
  exact h
theorem list_lt0 (l b : Addr) (items items2 : Array Value) (n n2 : Nat) (dd dd2 : Option Addr) (sl sl2 : Array (Option Value)) (p q : Value) (k : Bool) (h1 : items[0]? = some p) (h2 : items2[0]? = some q) :
    Meets (Builtin.«list.__lt__» ⟨[.ref l, .ref b], []⟩)
      (fun A R s => s.heap.get? l = some { cls := .type "list", dict := dd, data := .seq items n, slots := sl } ∧ s.heap.get? b = some { cls := .type "list", dict := dd2, data := .seq items2 n2, slots := sl2 } ∧
        EqAt A.in1 s p q false ∧ RcLt A.in1 s p q k ∧ R (.ok (.ret (.bool k))) s) := by
  intro prog w A R s h
  obtain ⟨hp, g, d, tk, os⟩ := s; obtain ⟨hl, hb, he, hr, h⟩ := h
  have f3 := AutoSeq1.sub_list_list
  wp_walk using wpAny_loadPart' hl, wpAny_loadPart' hb
  exact ⟨plainId_quiet plain_eq_loop _, codeAny_builtin entry_eq_loop (by
    rw [Around.under_plainId plain_eq_loop _]
    exact lt_loop0 l b items items2 n n2 dd dd2 sl sl2 p q k h1 h2 prog w A R _ ⟨hl, hb, he, hr, by simpa using h⟩)⟩
end
end PySem.SeqAt
namespace PySem.W
open PySem PySem.Calls PyProof.Rows SeqAt

/-- lists, tuples by their first items, which are unlike -/
structure FirstOk (h : Heap) (tup : Bool) (vs : List Value) (fs : List PyData) : Prop where
  each : EachIs (fun v f => ∃ a o items n w r as, v = .ref a ∧ h.get? a = some o ∧ o.cls = .type (if tup = true then "tuple" else "list") ∧ o.data = .seq items n ∧ items.toList = w :: r ∧ Reads h w f as) vs fs
  nodup : (fs.map keyToks).Nodup
  alike : AllAlike fs
  flat : (∀ f ∈ fs, ∃ i, f = .int i) ∨ ∀ f ∈ fs, ∃ x, f = .str x

def FirstIs (h : Heap) (vs : List Value) (fs : List PyData) (v : Value) (f : PyData) : Prop := ∃ i : Nat, vs[i]? = some v ∧ fs[i]? = some f
noncomputable def firstKind (h : Heap) (vs : List Value) (fs : List PyData) : PyProof.Rows.KeyKind where
  toKeyOrd := listOrd itemOrd
  keyOf v := open Classical in if q : ∃ f, FirstIs h vs fs v f then some (keyToks q.choose) else none
  dflt := ([] : List (Int ⊕ List Nat))

theorem each_at {α β : Type} {R : α → β → Prop} : ∀ {as : List α} {bs : List β}, EachIs R as bs → ∀ {i : Nat} {a : α} {b : β}, as[i]? = some a → bs[i]? = some b → R a b
  | _, _, .cons h t, 0, a, b, e1, e2 => by
    cases e1; cases e2; exact h
  | _, _, .cons h t, i + 1, a, b, e1, e2 => each_at t (i := i) (by simpa using e1) (by simpa using e2)
  | _, _, .nil, i, a, b, e1, e2 => by simp at e1
variable {h : Heap} {tup : Bool} {vs : List Value} {fs : List PyData}
theorem FirstOk.one (F : FirstOk h tup vs fs) {v : Value} {f g : PyData} (h1 : FirstIs h vs fs v f) (h2 : FirstIs h vs fs v g) : f = g := by
  obtain ⟨i, a1, b1⟩ := h1
  obtain ⟨j, a2, b2⟩ := h2
  obtain ⟨a, o, items, n, w, r, as, rfl, e1, -, e2, e3, e4⟩ := each_at F.each a1 b1
  obtain ⟨a', o', items', n', w', r', as', q0, q1, -, q2, q3, q4⟩ := each_at F.each a2 b2
  cases q0
  rw [e1] at q1
  cases q1
  rw [e2] at q2
  cases q2
  rw [e3] at q3
  cases q3
  exact alike_unique _ _ _ _ _ (F.alike _ (List.mem_of_getElem? b1) _ (List.mem_of_getElem? b2)) e4 q4
theorem FirstOk.key (F : FirstOk h tup vs fs) {v : Value} {f : PyData} (h1 : FirstIs h vs fs v f) : (firstKind h vs fs).keyOf v = some (keyToks f) := by
  have q : ∃ f, FirstIs h vs fs v f := ⟨f, h1⟩
  have e : (firstKind h vs fs).keyOf v = Option.some (keyToks q.choose) := by
    show (open Classical in if q : ∃ f, FirstIs h vs fs v f then Option.some (keyToks q.choose) else none) = _
    rw [dif_pos q]
  rw [e, F.one q.choose_spec h1]
theorem first_inv {v : Value} {k : List (Int ⊕ List Nat)} (e : (firstKind h vs fs).keyOf v = some k) : ∃ f, FirstIs h vs fs v f ∧ k = keyToks f := by
  by_cases q : ∃ f, FirstIs h vs fs v f
  · have e' : (firstKind h vs fs).keyOf v = some (keyToks q.choose) := by
      show (open Classical in if q : ∃ f, FirstIs h vs fs v f then some (keyToks q.choose) else none) = _
      rw [dif_pos q]
    rw [e'] at e
    exact ⟨_, q.choose_spec, (Option.some.inj e).symm⟩
  · have e' : (firstKind h vs fs).keyOf v = none := by
      show (open Classical in if q : ∃ f, FirstIs h vs fs v f then some (keyToks q.choose) else none) = _
      rw [dif_neg q]
      rfl
    rw [e'] at e
    exact absurd e (by simp)
theorem each_ix {α β : Type} {R : α → β → Prop} (S : α → β → Prop) : ∀ {as : List α} {bs : List β}, EachIs R as bs → (∀ (i : Nat) a b, as[i]? = some a → bs[i]? = some b → S a b) → EachIs S as bs
  | _, _, .nil, _ => .nil
  | _, _, .cons h t, q => .cons (q 0 _ _ rfl rfl) (each_ix S t fun i a b e1 e2 => q (i + 1) a b (by simpa using e1) (by simpa using e2))
theorem FirstOk.keys (F : FirstOk h tup vs fs) : EachIs (fun v f => (firstKind h vs fs).keyOf v = some (keyToks f)) vs fs :=
  each_ix _ F.each fun i a b e1 e2 => F.key ⟨i, e1, e2⟩
theorem alike_not_dict {f : PyData} : True := trivial

section
variable {prog : Program} {w : World} {A : Around} {s : Shared}
theorem depth_flat {f : PyData} (h : (∃ i, f = .int i) ∨ ∃ x, f = .str x) : f.depth = 0 := by
  rcases h with ⟨i, rfl⟩ | ⟨x, rfl⟩ <;> simp [PyData.depth]
theorem FirstOk.fl (F : FirstOk h tup vs fs) {f : PyData} (hf : f ∈ fs) : (∃ i, f = .int i) ∨ ∃ x, f = .str x := F.flat.imp (fun h => h f hf) fun h => h f hf
theorem FirstOk.same (F : FirstOk h tup vs fs) {x y : Value} {f g : PyData} (h1 : FirstIs h vs fs x f) (h2 : FirstIs h vs fs y g) (e : keyToks f = keyToks g) : x = y := by
  obtain ⟨i, a1, b1⟩ := h1
  obtain ⟨j, a2, b2⟩ := h2
  have hi : (fs.map keyToks)[i]? = Option.some (keyToks f) := by rw [List.getElem?_map, b1]; rfl
  have hj : (fs.map keyToks)[j]? = Option.some (keyToks f) := by rw [List.getElem?_map, b2, e]; rfl
  obtain ⟨hi1, hi2⟩ := List.getElem?_eq_some_iff.mp hi
  have : i = j := (List.getElem?_inj hi1 F.nodup).mp (hi.trans hj.symm)
  subst this
  rw [a1] at a2
  exact Option.some.inj a2
theorem katSame {b : Bool} {Q : Bool → Shared → Prop} : ∀ (xs : List Value) (i : Nat), Q false s → KatLex prog w A b false Q (xs.zip xs) i s
  | [], _, h => kat_nil h
  | x :: xs, i, h => kat_cons (EqAt.same x prog w _ _ (kat_yes (katSame xs (i + 1) h)))
theorem each_tups {h : Heap} : ∀ {vs : List Value} {fs : List PyData}, EachIs (fun v f => ∃ a o items n w r as, v = .ref a ∧ h.get? a = some o ∧ o.cls = .type "tuple" ∧ o.data = .seq items n ∧ items.toList = w :: r ∧ Reads h w f as) vs fs →
    ∃ ws, KatTups h vs ws ∧ ws.length = vs.length ∧ ∀ z, z ∈ ws → ∃ f as, f ∈ fs ∧ Reads h z f as
  | _, _, .nil => ⟨[], KatTups.nil, rfl, fun f hf => absurd hf (by simp)⟩
  | _, _, .cons (b := f) ⟨a, o, items, n, w, r, as, e0, e1, e2, e3, e4, e5⟩ t => by
    subst e0
    obtain ⟨ws, h1, h2, h3⟩ := each_tups t
    have hf : items[0]? = some w := by rw [← Array.getElem?_toList, e4]; rfl
    refine ⟨w :: ws, KatTups.cons e1 e2 e3 hf h1, by rw [List.length_cons, List.length_cons, h2], fun g hg => ?_⟩
    rcases List.mem_cons.mp hg with rfl | hg
    · exact ⟨f, as, List.mem_cons_self .., e5⟩
    · obtain ⟨f', as', m1, m2⟩ := h3 g hg
      exact ⟨f', as', List.mem_cons_of_mem _ m1, m2⟩
theorem each_lenE {α β : Type} {R : α → β → Prop} {as : List α} {bs : List β} (h : EachIs R as bs) : as.length = bs.length := by
  induction h with
  | nil => rfl
  | cons _ _ ih => simp [ih]
theorem looks_cls {M : Model} {h : Heap} {a : Addr} {o : Obj} (h1 : h.get? a = some o) : Looks M h (typeOf (Value.ref a)) o.cls := (Looks.ld h1).andThen .now
theorem dataLt_irr (f : PyData) : dataLt f f = false := lex_irrefl _

theorem SortsAt.first {vs : List Value} {fs : List PyData} {tup : Bool} (Fz : FirstOk s.heap tup vs fs) (hu : A.units + 4 < cLine) : SortsAt prog w A s (firstKind s.heap vs fs) vs := by
  refine ⟨fun v hv => ?_, ?_⟩
  · obtain ⟨i, hi⟩ := List.getElem?_of_mem hv
    obtain ⟨f, hf⟩ : ∃ f, fs[i]? = some f := by
      have := each_lenE Fz.each
      exact ⟨_, List.getElem?_eq_getElem (by have := (List.getElem?_eq_some_iff.mp hi).1; omega)⟩
    exact ⟨_, Fz.key ⟨i, hi, hf⟩⟩
  have eqF : ∀ {w1 w2 : Value} {f g : PyData} {as bs : List Addr} {A' : Around}, A'.units + 1 < cLine → f ∈ fs → g ∈ fs → Reads s.heap w1 f as → Reads s.heap w2 g bs → keyToks f ≠ keyToks g → EqAt A' s w1 w2 false := by
    intro w1 w2 f g as bs A' hA hf hg r1 r2 hne
    have hal := Fz.alike f hf g hg
    have he := eqAt_alike f g A' s w1 w2 as bs r1 r2 hal (by rw [depth_flat (Fz.fl hf)]; simp; omega)
    cases hx : PyData.eqv f g with
    | false => rw [hx] at he; exact he
    | true => exact absurd ((toks_eqv f g hal).1 hx) hne
  have nn : ∀ {f : PyData}, f ∈ fs → f ≠ .none := fun hf e => by
    rcases Fz.fl hf with ⟨i, rfl⟩ | ⟨x, rfl⟩ <;> cases e
  cases tup with
  | true =>
    obtain ⟨ws, t1, t2, t3⟩ := each_tups (by simpa using Fz.each)
    obtain ⟨T, hT, hT2, hT3⟩ : ∃ T : Value, (∀ f ∈ fs, dataType f = T) ∧ (T != Value.type "tuple") = true ∧ (T == T) = true := by
      rcases Fz.flat with h | h
      · exact ⟨.type "int", fun f hf => by obtain ⟨i, rfl⟩ := h f hf; rfl, by first | rfl | decide, beq_self_eq_true _⟩
      · exact ⟨.type "str", fun f hf => by obtain ⟨i, rfl⟩ := h f hf; rfl, by first | rfl | decide, beq_self_eq_true _⟩
    refine ⟨tuples' true, ?_, fun h2 E Q hq => ?_⟩
    · intro E x y a b Q ha hb hq
      obtain ⟨f, hf, rfl⟩ := first_inv ha
      obtain ⟨g, hg, rfl⟩ := first_inv hb
      have hq' : Q (dataLt f g) s := hq
      obtain ⟨i, a1, b1⟩ := hf
      obtain ⟨j, a2, b2⟩ := hg
      obtain ⟨p, o, items, n, w1, r, as, rfl, e1, ec, e2, e3, e4⟩ := each_at Fz.each a1 b1
      obtain ⟨p', o', items', n', w2, r', as', rfl, q1, qc, q2, q3, q4⟩ := each_at Fz.each a2 b2
      by_cases hk : keyToks f = keyToks g
      · have e := Fz.same ⟨i, a1, b1⟩ ⟨j, a2, b2⟩ hk
        cases e
        rw [e1] at q1; cases q1
        rw [e2] at q2; cases q2
        refine kat_lt e1 e2 e1 e2 ?_
        rw [decide_eq_false (Nat.lt_irrefl _)]
        refine katSame _ 0 ?_
        have : dataLt f g = false := by
          show PyProof.Rows.lexLt itemOrd _ _ = false
          rw [hk]
          exact lex_irrefl _
        rw [this] at hq'
        exact hq'
      · refine kat_lt e1 e2 q1 q2 ?_
        rw [e3, q3]
        refine kat_cons (eqF (A' := A) (by omega) (List.mem_of_getElem? b1) (List.mem_of_getElem? b2) e4 q4 hk prog w _ _ (kat_no ?_))
        exact oneLt_alike (fun _ xs e => by rcases Fz.fl (List.mem_of_getElem? b1) with ⟨i, rfl⟩ | ⟨x, rfl⟩ <;> cases e) e4 q4 (Fz.alike _ (List.mem_of_getElem? b1) _ (List.mem_of_getElem? b2)) (nn (List.mem_of_getElem? b1)) (by rw [depth_flat (Fz.fl (List.mem_of_getElem? b1))]; simp; omega) hq'
    · have := kat_kind (M := model prog w) (A := A) (E := E) (T := T) (Q := Q) t1 (by omega) (fun z hz => by
        obtain ⟨f, as, m1, m2⟩ := t3 z hz
        rw [← hT f m1]
        exact looks_reads m2) hT3 (by rw [hT2]; exact hq)
      exact this
  | false =>
    refine ⟨oneType', ?_, fun h2 E Q hq => ?_⟩
    · intro E x y a b Q ha hb hq
      obtain ⟨f, hf, rfl⟩ := first_inv ha
      obtain ⟨g, hg, rfl⟩ := first_inv hb
      have hq' : Q (dataLt f g) s := hq
      obtain ⟨i, a1, b1⟩ := hf
      obtain ⟨j, a2, b2⟩ := hg
      obtain ⟨p, o, items, n, w1, r, as, rfl, e1, ec, e2, e3, e4⟩ := each_at Fz.each a1 b1
      obtain ⟨p', o', items', n', w2, r', as', rfl, q1, qc, q2, q3, q4⟩ := each_at Fz.each a2 b2
      have ec' : o.cls = .type "list" := by simpa using ec
      have qc' : o'.cls = .type "list" := by simpa using qc
      rw [keyLt'_oneType, oneLt'_eq]
      simp only [if_true]
      refine wpAny_bind (wpAny_cRoomFor (by omega) ?_)
      by_cases hk : keyToks f = keyToks g
      · have e := Fz.same ⟨i, a1, b1⟩ ⟨j, a2, b2⟩ hk
        cases e
        rw [e1] at q1; cases q1
        rw [e2] at q2; cases q2
        have hff : dataLt f g = false := by
          show PyProof.Rows.lexLt itemOrd _ _ = false
          rw [hk]
          exact lex_irrefl _
        rw [hff] at hq'
        refine wpAny_bind (wpAny_callSpecialIfBound?_slot (T := "list") ⟨_, e1, ec'⟩ F.slot_list_lt (call_list_lt (e := fun _ => true) (r := fun _ => false) ⟨_, e1, ec', _, e2⟩ ⟨_, e1, ec', _, e2⟩ (fun j j1 j2 => EqAt.same _) (fun j j1 j2 hj => by cases hj) ?_))
        have hz : ∀ l : List Nat, firstLt (fun _ => true) (fun _ => false) (decide (items.size < items.size)) l = false := by
          intro l
          induction l with
          | nil => exact decide_eq_false (Nat.lt_irrefl _)
          | cons a l ih => exact ih
        rw [hz]
        exact wpAny_truthy_bool hq'
      · refine wpAny_bind (wpAny_callSpecialIfBound?_slot (T := "list") ⟨_, e1, ec'⟩ F.slot_list_lt ?_)
        have hw1 : items[0]? = some w1 := by rw [← Array.getElem?_toList, e3]; rfl
        have hw2 : items'[0]? = some w2 := by rw [← Array.getElem?_toList, q3]; rfl
        obtain ⟨cls, dd, data, sl⟩ := o
        obtain ⟨cls2, dd2, data2, sl2⟩ := o'
        simp only at ec' qc' e2 q2
        subst ec' qc' e2 q2
        refine call_meets F.slot_list_lt ⟨_, e1, rfl⟩ F.entry_list_lt (F.args_list_lt_2 _ _) (list_lt0 p p' items items' n n' dd dd2 sl sl2 w1 w2 (dataLt f g) hw1 hw2) ⟨e1, q1, ?_, ?_, ?_⟩
        · exact eqF (by have := A.in1_units; simp at this ⊢; omega) (List.mem_of_getElem? b1) (List.mem_of_getElem? b2) e4 q4 hk
        · exact rcLt_alike f g _ s w1 w2 _ _ e4 q4 (Fz.alike _ (List.mem_of_getElem? b1) _ (List.mem_of_getElem? b2)) (nn (List.mem_of_getElem? b1)) (by rw [depth_flat (Fz.fl (List.mem_of_getElem? b1))]; simp; omega)
        · exact wpAny_truthy_bool hq'
    · refine kas_kind (T := Value.type "list") h2 (fun v hv => ?_) (by first | rfl | decide) (beq_self_eq_true _) hq
      obtain ⟨f, _, a, o, items, n, w, r, as, rfl, e1, e2, _⟩ := Fz.each.left v hv
      have e2' : o.cls = .type "list" := by simpa using e2
      rw [← e2']
      exact looks_cls e1
end
end PySem.W
namespace Ab
open PySem L2 PyProof.Rows

/-- items sorted by keys (stable) -/
def sortK {α : Type} (xs : List α) (ks : List PyData) : List α := ((xs.zip ks).mergeSort (PySem.W.dataLe false Prod.snd)).map Prod.fst
theorem sortK_each {α β : Type} {R : α → β → Prop} {as : List α} {bs : List β} {ks : List PyData} (h : PySem.W.EachIs R as bs) : PySem.W.EachIs R (sortK as ks) (sortK bs ks) := by
  have hz : ∀ {as : List α} {bs : List β} {ks : List PyData}, PySem.W.EachIs R as bs → PySem.W.EachIs (fun (p : α × PyData) (q : β × PyData) => R p.1 q.1 ∧ p.2 = q.2) (as.zip ks) (bs.zip ks) := by
    intro as bs ks h
    induction h generalizing ks with
    | nil => exact .nil
    | cons h1 _ ih =>
      cases ks with
      | nil => exact .nil
      | cons k ks => exact .cons ⟨h1, rfl⟩ ih
  have s := PySem.W.sort_each (r := PySem.W.dataLe false Prod.snd) (s := PySem.W.dataLe false Prod.snd) (hz (ks := ks) h) fun p hp q hq => by
    have a1 := ((hz (ks := ks) h).zip p hp).2
    have a2 := ((hz (ks := ks) h).zip q hq).2
    unfold PySem.W.dataLe PySem.W.sortLe
    dsimp only
    rw [a1, a2]
  have m : ∀ {zs : List (α × PyData)} {ys : List (β × PyData)}, PySem.W.EachIs (fun (p : α × PyData) (q : β × PyData) => R p.1 q.1 ∧ p.2 = q.2) zs ys → PySem.W.EachIs R (zs.map Prod.fst) (ys.map Prod.fst) := by
    intro zs bs h
    induction h with
    | nil => exact .nil
    | cons h1 _ ih => exact .cons h1.1 ih
  exact m s
theorem rps_each {K : PySem.W.Frag} {F : Hp} : ∀ {vs : List V} {xs : List AV}, Rps K F vs xs → PySem.W.EachIs (Rp K F) vs xs
  | _, _, .nil => .nil
  | _, _, .cons h t => .cons h (rps_each t)
theorem each_rps {K : PySem.W.Frag} {F : Hp} : ∀ {vs : List V} {xs : List AV}, PySem.W.EachIs (Rp K F) vs xs → Rps K F vs xs
  | _, _, .nil => .nil
  | _, _, .cons h t => .cons h (each_rps t)
theorem vals_each : ∀ {xs : List V} {vs : List Value}, Vals xs vs → PySem.W.EachIs (fun v x => RelV x v) vs xs
  | _, _, .nil => .nil
  | _, _, .cons h t => .cons h (vals_each t)
theorem each_vals : ∀ {vs : List Value} {xs : List V}, PySem.W.EachIs (fun v x => RelV x v) vs xs → Vals xs vs
  | _, _, .nil => .nil
  | _, _, .cons h t => .cons h (each_vals t)

/-- the first item of a list, a tuple -/
def FstV (K : PySem.W.Frag) (H : Hp) (tup : Bool) (x : V) (f : PyData) : Prop := ∃ a y ys, x = .ref a ∧ (if tup = true then SqT K H a (y :: ys) else SqL K H a (y :: ys)) ∧ Dp K H y f
def KeysV (K : PySem.W.Frag) (H : Hp) (xs : List V) (ks : List PyData) : Prop :=
  (DpAll K H xs ks ∧ PySem.W.AllAlike ks ∧ PySem.W.Sortable ks ∧ ∀ d ∈ ks, d.depth ≤ 30) ∨
  ∃ tup, PySem.W.EachIs (FstV K H tup) xs ks ∧ (ks.map PySem.W.keyToks).Nodup ∧ PySem.W.AllAlike ks ∧ ((∀ f ∈ ks, ∃ i, f = .int i) ∨ ∀ f ∈ ks, ∃ x, f = .str x)
def rSortA (K : PySem.W.Frag) : List V → Hp → VK → Prop := fun vs H Q => ∃ (a : Addr) (xs : List V) (ks : List PyData), vs = [.ref a] ∧ (SqL K H a xs) ∧ KeysV K H xs ks ∧
  ∀ p, H p = none → Q (.ref p) (upd H p (.lst (sortK xs ks)))
theorem readsAll_each' {h : Heap} : ∀ {vs : List Value} {ds : List PyData} {as : List Addr}, ReadsAll h vs ds as → PySem.W.EachIs (fun v b => ∃ as, Reads h v b as) vs ds
  | _, _, _, .nil => .nil
  | _, _, _, .cons h1 h2 => .cons ⟨_, h1⟩ (readsAll_each' h2)
theorem each_comp {α β γ : Type} {R : α → β → Prop} {S : γ → β → Prop} {T : γ → α → Prop} (h : ∀ a b c, R a b → T c a → S c b) : ∀ {as : List α} {bs : List β} {cs : List γ}, PySem.W.EachIs R as bs → PySem.W.EachIs T cs as → PySem.W.EachIs S cs bs
  | _, _, _, .nil, .nil => .nil
  | _, _, _, .cons h1 t1, .cons h2 t2 => .cons (h _ _ _ h1 h2) (each_comp h t1 t2)
section
variable {X : Cx}
theorem keysV_sorts {xs : List V} {ks : List PyData} {its : List Value} {pins : List (Addr × Obj)} {s : Shared} {σ : L2.St} {H : Hp} (hu : X.A.units + 65 < cLine) (I : Inv X pins σ H s) (kv : KeysV X.K H xs ks) (rv : Vals xs its) :
    ∃ κ : PyProof.Rows.KeyKind, ∃ k : PyData → κ.α, PySem.W.SortsAt X.prog X.w X.A.in1.in1 s κ its ∧ PySem.W.EachIs (fun v b => κ.keyOf v = some (k b)) its ks ∧ (fun a b => PySem.W.sortLe κ.toKeyOrd false k a b) = PySem.W.dataLe false id := by
  have hu2 : X.A.in1.in1.units + 40 < cLine := by
    have a1 := X.A.in1_units
    have a2 := X.A.in1.in1_units
    simp at a1 a2 ⊢
    omega
  rcases kv with ⟨h1, h2, h3, h4⟩ | ⟨tup, h1, h2, h3, h4⟩
  · obtain ⟨as, hr⟩ := Dp.readsAll I ks _ its h1 rv
    have e := readsAll_each' hr
    exact ⟨PySem.W.dataKind s.heap ks, PySem.W.keyToks, PySem.W.SortsAt.data e h2 h3 (fun d hd => by have := h4 d hd; omega), PySem.W.each_keys h2 e, rfl⟩
  · have F : PySem.W.FirstOk s.heap tup its ks := by
      refine ⟨?_, h2, h3, h4⟩
      refine each_comp (fun x f v hf hv => ?_) h1 (vals_each rv)
      obtain ⟨a, y, ys, rfl, hs, hd⟩ := hf
      obtain rfl : v = .ref a := by cases hv; rfl
      cases tup with
      | true =>
        obtain ⟨its, r, ⟨o, ho, hc, n, hd2⟩, _⟩ := I.tuple (by simpa using hs)
        cases r with
        | cons r1 r2 =>
          obtain ⟨as, q⟩ := Dp.reads I f y _ hd r1
          exact ⟨a, o, _, n, _, _, as, rfl, ho, by simpa using hc, hd2, rfl, q⟩
      | false =>
        obtain ⟨its, r, ⟨o, n, ho, hc, _, hd2⟩, _⟩ := I.list (by simpa using hs)
        cases r with
        | cons r1 r2 =>
          obtain ⟨as, q⟩ := Dp.reads I f y _ hd r1
          exact ⟨a, o, _, n, _, _, as, rfl, ho, by simpa using hc, hd2, rfl, q⟩
    exact ⟨PySem.W.firstKind s.heap its ks, PySem.W.keyToks, PySem.W.SortsAt.first F (by omega), F.keys, rfl⟩
theorem c_sorted (hu : X.A.units + 65 < cLine) : CallR X (.builtin "sorted") (rSortA X.K) := by
  intro pins s σ H vs us Q I r h
  obtain ⟨a, xs, ks, rfl, hs, kv, q⟩ := h
  obtain ⟨its, rv, hl, hz⟩ := I.list hs
  rw [Vals.ref1 r]
  have I1 : Inv X pins σ H { s with heap := PySem.W.sortingHeap (PySem.W.copyHeap s.heap its) (s.heap.objs.size + 1) its, toks := s.toks } := I.kept (t' := s.toks) fun b u e => PySem.W.sorting_copy_old e
  obtain ⟨κ, k, S, hk, hle⟩ := keysV_sorts hu I1 kv rv
  have hlen : xs.length = its.length := rv.length
  refine PySem.W.sorted_vals hl.isList S (by omega) ?_
  obtain ⟨ep, he'⟩ := PyProof.Rows.sortedAll_at s.heap its (PySem.W.sortVals κ false its its).toArray
  have hks : xs.length = ks.length := hlen.trans (PySem.W.each_lenE hk)
  have e1 : PySem.W.EachIs (fun v (b : V × PyData) => RelV b.1 v) its (xs.zip ks) := by
    refine PySem.W.each_of_map (R := fun v (b : V) => L2.RelV b v) Prod.fst ?_
    rw [List.map_fst_zip (Nat.le_of_eq hks)]
    exact vals_each rv
  have e2 : PySem.W.EachIs (fun v (b : V × PyData) => κ.keyOf v = some (k b.2)) its (xs.zip ks) := by
    refine PySem.W.each_of_map (R := fun v (b : PyData) => κ.keyOf v = some (k b)) Prod.snd ?_
    rw [List.map_snd_zip (Nat.le_of_eq hks.symm)]
    exact hk
  have e3 := PySem.W.sortVals_each (κ := κ) (rev := false) (fun b : V × PyData => k b.2) e1 e2
  have e4 : PySem.W.sortLe κ.toKeyOrd false (fun b : V × PyData => k b.2) = PySem.W.dataLe false Prod.snd := by
    funext p q
    have := congrFun (congrFun hle p.2) q.2
    exact this
  rw [e4] at e3
  have e5 : Vals (sortK xs ks) (PySem.W.sortVals κ false its its) := by
    refine each_vals ?_
    have m : ∀ {zs : List Value} {ys : List (V × PyData)}, PySem.W.EachIs (fun v (b : V × PyData) => RelV b.1 v) zs ys → PySem.W.EachIs (fun v x => RelV x v) zs (ys.map Prod.fst) := by
      intro zs bs h
      induction h with
      | nil => exact .nil
      | cons h1 _ ih => exact .cons h1 ih
    exact m e3
  have hl2 : (sortK xs ks).length ≤ sizeLine := by
    unfold sortK
    rw [List.length_map, (List.mergeSort_perm _ _).length_eq, List.length_zip]
    omega
  exact ⟨.ref _, upd H (s.heap.objs.size + 1) (.lst (sortK xs ks)), I.laid (t' := s.toks) (fun _ _ => PyProof.Rows.sortedAll_old) (Nat.le_succ _) ⟨hl2, _, ep, e5, he'⟩, rfl, q _ (I.hok.fresh (Nat.le_succ _))⟩
end

/-! ### by trees -/
def FstA (Γ : Gam) (tup : Bool) (x : AV) (f : PyData) : Prop := ∃ y ys, (if tup = true then x = .tup (y :: ys) else LsR Γ x (y :: ys)) ∧ Dn Γ y f
def KeysA (Γ : Gam) (xs : List AV) (ks : List PyData) : Prop :=
  (Dns Γ xs ks ∧ PySem.W.AllAlike ks ∧ PySem.W.Sortable ks ∧ ∀ d ∈ ks, d.depth ≤ 30) ∨
  ∃ tup, PySem.W.EachIs (FstA Γ tup) xs ks ∧ (ks.map PySem.W.keyToks).Nodup ∧ PySem.W.AllAlike ks ∧ ((∀ f ∈ ks, ∃ i, f = .int i) ∨ ∀ f ∈ ks, ∃ x, f = .str x)
section
variable {K : PySem.W.Frag} {Γ : Gam} {x : AV} {xs : List AV} {ks : List PyData} {Φ : AV → Gam → Prop}
theorem KeysA.v {F H : Hp} {Θ : Gam} {vs : List V} (kv : KeysA Γ xs ks) (gm : Gm K F H (Γ ++ Θ)) (r : Rps K F vs xs) : KeysV K H vs ks := by
  rcases kv with ⟨h1, h2, h3, h4⟩ | ⟨tup, h1, h2, h3, h4⟩
  · exact .inl ⟨Dns.dp gm _ _ _ h1 r, h2, h3, h4⟩
  · refine .inr ⟨tup, ?_, h2, h3, h4⟩
    refine each_comp (fun x f v hf hv => ?_) h1 (rps_each r)
    obtain ⟨y, ys, hs, hd⟩ := hf
    cases tup with
    | true =>
      obtain rfl : x = .tup (y :: ys) := by simpa using hs
      cases hv with
      | tup e q =>
        cases q with
        | cons q1 q2 => exact ⟨_, _, _, rfl, by simpa using SqT.of (gm.sub _ _ e), Dn.dp gm f y _ hd q1⟩
    | false =>
      have hs' : LsR Γ x (y :: ys) := by simpa using hs
      obtain ⟨q, vs, rfl, hq, rr⟩ := hs'.get gm hv
      cases rr with
      | cons q1 q2 => exact ⟨_, _, _, rfl, by simpa using hq, Dn.dp gm f y _ hd q1⟩
theorem wc_sort (h : LsR Γ x xs) (kv : KeysA Γ xs ks) (k : Φ (.lst (sortK xs ks)) Γ) : WC K (rSortA K) [x] Γ Φ := fun v F H Θ r gm Q q => by
  cases r with
  | cons r1 r2 =>
    cases r2
    obtain ⟨p, vs, rfl, e1, q1⟩ := h.get gm r1
    refine ⟨p, vs, ks, rfl, e1, kv.v gm q1, fun n hn => ?_⟩
    obtain ⟨s2, g2⟩ := gm.froz (o := .lst (sortK vs ks)) hn
    exact q _ _ ⟨_, _, Γ, s2, g2, .lst upd_same (Rps.mono s2 _ _ (each_rps (sortK_each (rps_each q1)))), k⟩
theorem wc_sortL (h : LsR Γ x xs) (kv : KeysA Γ xs ks) (k : ∀ p, Φ (.ptr p) ((p, .lst (sortK xs ks)) :: Γ)) : WC K (rSortA K) [x] Γ Φ := fun v F H Θ r gm Q q => by
  cases r with
  | cons r1 r2 =>
    cases r2
    obtain ⟨p, vs, rfl, e1, q1⟩ := h.get gm r1
    refine ⟨p, vs, ks, rfl, e1, kv.v gm q1, fun n hn => ?_⟩
    exact q _ _ ⟨F, _, _, Same.refl F, gm.new hn (.lst (each_rps (sortK_each (rps_each q1)))), .ptr n, k n⟩
end
end Ab

/-! sets of texts: made of a list, gathered. -/
namespace TX
open PySem PySem.Spec PyProof.Rows L2
def keyOf (e : Int × Value) : Str := match e.2 with | .str k _ => k | _ => Str.empty
def GoodE (w : World) (e : Int × Value) : Prop := ∃ k tk, e.2 = Value.str k tk ∧ e.1 = hashStr w k

/-- the set of texts at a: S its members, n their number; its table rises and can be walked -/
def TSet (w : World) (h : Heap) (a : Addr) (S : Str → Bool) (n : Nat) : Prop :=
  ∃ o es ep t, h.get? a = some o ∧ o.ExactSet ∧ o.data = .set es ep t ∧ (∀ e ∈ es.toList, GoodE w e) ∧ (es.toList.map keyOf).Nodup ∧ (∀ k, S k = true ↔ k ∈ es.toList.map keyOf) ∧
    es.size < scanBound ∧ t.fits es.size = true ∧ es.size = n ∧ Ris t.place.toList ∧ (w.params.followText "set-order" = true ∨ t.led = true)

section
variable {P : Program} {w : World} {h h' : Heap} {a : Addr} {S : Str → Bool} {n : Nat}

theorem TSet.at (R : TSet w h a S n) (k : ∀ o, h.get? a = some o → h'.get? a = some o) : TSet w h' a S n := by
  obtain ⟨o, es, ep, t, ho, r⟩ := R
  exact ⟨o, es, ep, t, k o ho, r⟩
theorem TSet.lt (R : TSet w h a S n) : a < h.objs.size := by
  obtain ⟨o, es, ep, t, ho, r⟩ := R
  exact Heap.lt_size ho
theorem TSet.congr {S' : Str → Bool} (R : TSet w h a S n) (e : ∀ k, S' k = S k) : TSet w h a S' n := by
  have q : S' = S := funext e
  rw [q]; exact R
theorem good_elems {l : List (Int × Value)} (g : ∀ e ∈ l, GoodE w e) : ElemsOf (PySem.strKind P w) l := fun e he => by
  obtain ⟨k, tk, h1, h2⟩ := g e he
  exact ⟨⟨k, by rw [h1]; exact strKind_is P w k tk, h2⟩, by rw [h1] <;> rfl⟩
theorem good_is {e : Int × Value} (g : GoodE w e) (k : Str) : (PySem.strKind P w).is k e.2 = true ↔ keyOf e = k := by
  obtain ⟨k0, tk, h1, _⟩ := g
  unfold keyOf
  rw [h1]
  show ((k0 == k) = true) ↔ k0 = k
  exact beq_iff_eq
theorem good_mem {l : List (Int × Value)} (g : ∀ e ∈ l, GoodE w e) (k : Str) : k ∈ l.map keyOf ↔ ∃ e ∈ l, (PySem.strKind P w).is k e.2 = true := by
  rw [List.mem_map]
  constructor
  · rintro ⟨e, he, q⟩
    exact ⟨e, he, (good_is (g e he) k).2 q⟩
  · rintro ⟨e, he, q⟩
    exact ⟨e, he, (good_is (g e he) k).1 q⟩
theorem TSet.setOf (R : TSet w h a S n) : h.SetOf (PySem.strKind P w) a S n := by
  obtain ⟨o, es, ep, t, ho, hx, hd, g, nd, hm, hb, hf, hn, _⟩ := R
  exact ⟨o, es, ep, t, ho, hx, hd, good_elems g, fun k => (hm k).trans (good_mem g k), hb, hf, hn⟩
end

section
variable {P : Program} {w : World} {A : Around} {E : Value → Shared → Prop} {s : Shared} {a : Addr} {S : Str → Bool} {n : Nat}

theorem tset_add_tail {g : Bool → Sem Unit} (hg : ∀ (b : Bool) (s₁ : Shared) (Q' : Unit → Shared → Prop), Q' () s₁ → wpAny (model P w) A (g b) Q' E s₁)
    {o : Obj} {es : Array (Int × Value)} {ep : Nat} {t : SetTable} (ho : s.heap.get? a = some o) (hex : o.ExactSet) (hd : o.data = .set es ep t)
    {es1 : Array (Int × Value)} {t2 : SetTable} {S' : Str → Bool} (g1 : ∀ e ∈ es1.toList, GoodE w e) (nd1 : (es1.toList.map keyOf).Nodup) (m1 : ∀ k, S' k = true ↔ k ∈ es1.toList.map keyOf)
    (hb1 : es1.size < scanBound) (hf2 : t2.fits es1.size = true) (hr : Ris t2.place.toList) (hl : w.params.followText "set-order" = true ∨ t2.led = true) {wasDummy : Bool} {R : Option Bool → Shared → Prop}
    (hR : ∀ h', Heap.SameBut a s.heap h' → TSet w h' a S' es1.size → R (some true) { s with heap := h' }) :
    wpAny (model P w) A (do
        storeSet a es1 t2
        if (!wasDummy && t2.tooFull) = true then do
            g (relayAll t2 es1 (SetTable.grown es1.size)).2.2
            storeSet a (relayAll t2 es1 (SetTable.grown es1.size)).1 (relayAll t2 es1 (SetTable.grown es1.size)).2.1
            pure (some true)
          else pure (some true)) R E s := by
  refine wpAny_bind (wpAny_storeSet_of ho hd ?_ (fits_of_scanBound hb1))
  have ho1 := store_at (es' := es1) (t' := t2) ho hd
  have sb1 := Heap.SameBut.update s.heap a (Obj.putSet es1 t2)
  split
  · have pm := relayAll_perm t2 es1 (SetTable.grown es1.size)
    have hf3 := relayAll_fits t2 es1 (SetTable.grown es1.size)
    have hr3 := relayAll_ris t2 es1 (SetTable.grown es1.size)
    have hl3 := relayAll_led t2 es1 (SetTable.grown es1.size)
    generalize relayAll t2 es1 (SetTable.grown es1.size) = Z at pm hf3 hr3 hl3 ⊢
    obtain ⟨es2, t3, gave⟩ := Z
    dsimp only at pm hf3 hr3 hl3 ⊢
    have hsz : es2.size = es1.size := by rw [← Array.length_toList, pm.length_eq, Array.length_toList]
    have hb2 : es2.size < scanBound := by rw [hsz]; exact hb1
    refine wpAny_bind (hg _ _ _ ?_)
    refine wpAny_bind (wpAny_storeSet_of ho1 rfl ?_ (fits_of_scanBound hb2))
    have ho2 := store_at (es' := es2) (t' := t3) ho1 rfl
    refine wpAny_pure (hR _ (sb1.trans (Heap.SameBut.update _ a _)) ?_)
    exact ⟨_, es2, _, t3, ho2, hex, rfl, fun e he => g1 e (pm.mem_iff.mp he), (pm.map keyOf).nodup_iff.mpr nd1, fun k => (m1 k).trans (pm.map keyOf).mem_iff.symm, hb2, hf3, hsz, hr3,
      hl.imp id fun z => by rw [hl3]; exact z⟩
  · exact wpAny_pure (hR _ sb1 ⟨_, es1, _, t2, ho1, hex, rfl, g1, nd1, m1, hb1, hf2, rfl, hr, hl⟩)

theorem tset_add_hashed {k : Str} {tk : Tok} {Q : Bool → Shared → Prop} (R : TSet w s.heap a S n) (room : n + 1 < scanBound)
    (hQ : ∀ h', Heap.SameBut a s.heap h' → TSet w h' a (fun j => S j || decide (j = k)) (if S k = true then n else n + 1) → Q (!S k) { s with heap := h' }) :
    wpAny (model P w) A (setAddHashed a (.str k tk) ((PySem.strKind P w).hash k)) Q E s := by
  obtain ⟨o, es, ep, t, ho, hex, hd, g, nd, hm, hb, hf, hn, hr, hl⟩ := R
  have hkey : (PySem.strKind P w).is k (.str k tk) = true := strKind_is P w k tk
  have hsc : (Value.str k tk).scannable = true := rfl
  have hel : ElemsOf (PySem.strKind P w) es.toList := good_elems g
  unfold setAddHashed setAddHashedIn
  refine wpAny_holding (wpAny_bind (wpAny_setState_of ho hd hf ?_))
  dsimp only
  rw [byScan_of hsc hb hel]
  simp only [↓reduceIte]
  unfold setAddByScan
  refine wpAny_bind ?_
  refine wpAny_bind (wpAny_rule ?_)
  refine wpAny_bind (wpAny_setScan_of hkey ho hd hf hel ?_)
  cases hfi : List.findIdx? (fun e => (PySem.strKind P w).is k e.2) es.toList with
  | some j =>
    dsimp only
    obtain ⟨hj, pj, _⟩ := List.findIdx?_eq_some_iff_getElem.mp hfi
    have hSk : S k = true := (hm k).2 ((good_mem (P := P) (w := w) g k).2 ⟨es.toList[j], List.getElem_mem hj, pj⟩)
    refine wpAny_pure (wpAny_pure ?_)
    have q := hQ s.heap (Heap.SameBut.refl a s.heap) ⟨o, es, ep, t, ho, hex, hd, g, nd, fun i => by
      rw [Bool.or_eq_true, decide_eq_true_eq, ← hm i]
      exact ⟨fun z => z.elim id (fun e => e ▸ hSk), .inl⟩, hb, hf, by rw [if_pos hSk]; exact hn, hr, hl⟩
    rw [hSk] at q
    exact q
  | none =>
    dsimp only
    have hnk : k ∉ es.toList.map keyOf := fun z => by
      obtain ⟨e, he, q⟩ := (good_mem (P := P) (w := w) g k).1 z
      have c := List.findIdx?_eq_none_iff.mp hfi e he
      rw [q] at c
      cases c
    have hSk : S k = false := by
      cases q : S k with
      | false => rfl
      | true => exact absurd ((hm k).1 q) hnk
    have hgw : ∀ (b : Bool) {s₁ : Shared} {Q' : Unit → Shared → Prop}, Q' () s₁ → wpAny (model P w) A (match b with | true => rule "set.scan.the-table-gave-way" | false => pure ()) Q' E s₁ :=
      fun b s₁ Q' q => by cases b <;> first | exact wpAny_pure q | exact wpAny_rule q
    have pm := layNew_perm t es ((PySem.strKind P w).hash k) (.str k tk)
    have hf1 := layNew_fits t es ((PySem.strKind P w).hash k) (.str k tk)
    have hr1 := layNew_ris t es ((PySem.strKind P w).hash k) (.str k tk) hr
    have hl1 := layNew_led t es ((PySem.strKind P w).hash k) (.str k tk)
    generalize layNew t es ((PySem.strKind P w).hash k) (.str k tk) = Z at pm hf1 hr1 hl1 ⊢
    obtain ⟨es1, t1, wasDummy, gave⟩ := Z
    dsimp only at pm hf1 hr1 hl1 ⊢
    rw [Array.toList_push] at pm
    have pc : es1.toList.Perm (((PySem.strKind P w).hash k, Value.str k tk) :: es.toList) := pm.trans (List.perm_append_singleton _ _)
    have pk : (es1.toList.map keyOf).Perm (k :: es.toList.map keyOf) := pc.map keyOf
    have g1 : ∀ e ∈ es1.toList, GoodE w e := fun e he => by
      rcases List.mem_cons.mp (pc.mem_iff.mp he) with z | z
      · rw [z]; exact ⟨k, tk, rfl, rfl⟩
      · exact g e z
    have nd1 : (es1.toList.map keyOf).Nodup := pk.nodup_iff.mpr (List.nodup_cons.mpr ⟨hnk, nd⟩)
    have m1 : ∀ i, (S i || decide (i = k)) = true ↔ i ∈ es1.toList.map keyOf := fun i => by
      rw [Bool.or_eq_true, decide_eq_true_eq, hm i, pk.mem_iff, List.mem_cons]
      exact Or.comm
    have hsz : es1.size = n + 1 := by rw [← Array.length_toList, pc.length_eq, List.length_cons, Array.length_toList, hn]
    have hb1 : es1.size < scanBound := by rw [hsz]; exact room
    have hled : w.params.followText "set-order" = true ∨ t1.led = true := hl.imp id fun z => by rw [hl1]; exact z
    have fin : ∀ h', Heap.SameBut a s.heap h' → TSet w h' a (fun j => S j || decide (j = k)) es1.size → Q true { s with heap := h' } := fun h' sb r => by
      have q := hQ h' sb
      rw [hSk] at q
      rw [hsz] at r
      exact q r
    refine wpAny_bind (hgw _ ?_)
    split
    · refine wpAny_bind ?_
      rw [hashByValue_scannable 8 hsc]
      refine wpAny_pure ?_
      refine tset_add_tail ?_ ho hex hd g1 nd1 m1 hb1 ?_ ?_ ?_ ?_
      · intro b s₁ Q' q; cases b <;> first | exact wpAny_pure q | exact wpAny_rule q
      · first | (split <;> first | exact hf1 | exact SetTable.fits_plain_off hf1) | exact hf1
      · first | (split <;> exact hr1) | exact hr1
      · first | (split <;> exact hled) | exact hled
      · intro h' sb r; dsimp only; exact wpAny_pure (fin h' sb r)
    · refine wpAny_bind (wpAny_pure ?_)
      simp only [↓reduceIte]
      refine tset_add_tail ?_ ho hex hd g1 nd1 m1 hb1 hf1 hr1 hled ?_
      · intro b s₁ Q' q; cases b <;> first | exact wpAny_pure q | exact wpAny_rule q
      · intro h' sb r; dsimp only; exact wpAny_pure (fin h' sb r)


end
theorem tset_new_at {w : World} {h : Heap} {a : Addr} {ns : List Str} (ho : h.get? a = some { cls := .type "set", dict := none, data := .set #[] 0 (.fresh 0 0 (!w.params.followText "set-order")) }) : TSet w h a (fun j => decide (j ∈ ns.take 0)) 0 :=
  ⟨_, #[], 0, _, ho, ⟨rfl, rfl, rfl⟩, rfl, (fun e he => by simp at he), (by simp), (fun k => by simp), (by decide), (by rfl), rfl, List.Pairwise.nil, by
    show _ ∨ (!w.params.followText "set-order") = true
    cases w.params.followText "set-order"
    · exact .inr rfl
    · exact .inl rfl⟩
section
variable {P : Program} {w : World} {A : Around} {E : Value → Shared → Prop} {s : Shared}
theorem set_update_texts {I : Addr} {fp wr : List Addr} {G : Array GenState → Array GenState → Prop} {n : Nat} {Pv : Nat → Value → Prop} {St : Nat → Shared → Prop} {R : Result → Shared → Prop}
    (W : WalksS P w A.in1 I fp wr G n Pv St) (S : Addr) (hSf : S ∉ fp) (ns : List Str) (hn : n = ns.length) (hb : ns.length + 1 < scanBound) (hval : ∀ i v, Pv i v → ∃ k t, ns[i]? = some k ∧ v = .str k t) :
    ∀ (k i : Nat) (s : Shared), n - i = k → i ≤ n → St i s → (∃ c, c ≤ i ∧ TSet w s.heap S (fun j => decide (j ∈ ns.take i)) c) →
      (∀ s' c, Moved (S :: wr) G s s' → c ≤ n → TSet w s'.heap S (fun j => decide (j ∈ ns)) c → R (.ok (.ret .none)) s') →
      codeAny (model P w) A (.builtin "set.update.loop" ⟨[.ref S, .ref I], []⟩) R s := by
  have hSw : S ∉ wr := fun h => hSf (W.sub _ h)
  have hsub : ∀ b ∈ wr, b ∈ S :: wr := fun b hb => List.mem_cons_of_mem _ hb
  intro k
  induction k with
  | zero =>
    intro i s hk' hi hst ⟨c, hc, hS⟩ hR
    have hin : i = n := by omega
    subst hin
    refine codeAny_builtin F.entry_set_update_loop ?_
    rw [Around.under_plainId F.plain_set_update_loop _]
    show wpAny _ A.in1 (pyNext (.ref I) >>= _) _ _ s
    refine wpAny_bind (W.done s _ _ hst fun s' hm => ?_)
    show wpAny _ A.in1 (ret Value.none) _ _ s'
    have e : ns.take i = ns := List.take_of_length_le (by omega)
    rw [e] at hS
    exact wpAny_pure (hR s' c (hm.mono hsub) hc (hS.at fun o e => hm.heap S o hSw e))
  | succ k ih =>
    intro i s hk' hi hst ⟨c, hc, hS⟩ hR
    have hlt : i < n := by omega
    refine codeAny_builtin F.entry_set_update_loop ?_
    rw [Around.under_plainId F.plain_set_update_loop _]
    show wpAny _ A.in1 (pyNext (.ref I) >>= _) _ _ s
    refine wpAny_bind (W.item i s _ _ hlt hst fun v s' hP hst' hm => ?_)
    obtain ⟨z, t, hz, rfl⟩ := hval i v hP
    have hS' : TSet w s'.heap S (fun j => decide (j ∈ ns.take i)) c := hS.at fun o e => hm.heap S o hSw e
    show wpAny _ A.in1 (holding [Value.str z t] (setAdd S (.str z t)) >>= _) _ _ s'
    refine wpAny_bind (wpAny_holding ?_)
    unfold setAdd
    refine wpAny_holding ?_
    refine wpAny_bind ((PySem.strKind P w).pyHash (k := z) (strKind_is _ _ _ _) ?_)
    refine tset_add_hashed (s := { s' with toks := s'.toks + 1 }) hS' (by omega) fun h' hsb hS2 => ?_
    have hS3 : TSet w h' S (fun j => decide (j ∈ ns.take (i + 1))) (if decide (z ∈ ns.take i) = true then c else c + 1) := hS2.congr fun j => by
      rw [List.take_add_one, hz]
      simp [List.mem_append]
    have hc3 : (if decide (z ∈ ns.take i) = true then c else c + 1) ≤ i + 1 := by
      split <;> omega
    refine wpAny_pure ⟨plainId_quiet F.plain_set_update_loop _, ih (i + 1) _ (by omega) hlt (W.frame _ s' _ _ hst' (Nat.le_succ _) fun b hb o e => ?_) ⟨_, hc3, hS3⟩ fun s'' c2 hm'' hc'' hS'' => ?_⟩
    · rw [hsb.2 b (fun h : b = S => hSf (by rw [← h]; exact hb))]; exact e
    · refine hR s'' c2 (Moved.trans W.gtrans ((hm.mono hsub).then_heap (Nat.le_succ _) fun b o hb e => ?_) hm'') hc'' hS''
      rw [hsb.2 b (fun h : b = S => hb (by rw [h]; exact List.mem_cons_self))]; exact e

theorem code_set_led1 (a : Value) {Q₁ : Value → Shared → Prop}
    (h : Q₁ (.ref s.heap.objs.size) { s with heap := s.heap.push { cls := .type "set", dict := none, data := .set #[] 0 (.fresh 0 0 (!w.params.followText "set-order")) } }) :
    codeAny (model P w) A (.call (.builtin "set.__new__") ⟨[.type "set", a], []⟩) (wants Q₁ E) s := by
  refine codeAny_of_tree ?_
  show wpAny _ A.in1 (do checkBuiltinCall "set.__new__" ⟨[.type "set", a], []⟩; again (.builtin "set.__new__" ⟨[.type "set", a], []⟩)) _ _ s
  refine wpAny_bind (wpAny_of_eq (F.newCall_set_1 a) (wpAny_pure ⟨plainId_quiet F.plain_set_new _, codeAny_builtin F.entry_set_new ?_⟩))
  rw [Around.under_plainId F.plain_set_new _]
  unfold Builtin.«set.__new__» Builtin.Frozenset.newClass
  have hsub := sub_set_self
  obtain ⟨hp, g, d, tk, os⟩ := s
  dsimp only
  wp_walk
  refine wpAny_askSetting (wpAny_pure ?_)
  dsimp only
  simp only [newObj]
  refine wpAny_bind (wpAny_alloc (wpAny_pure ?_))
  exact wpAny_pure h

set_option maxRecDepth 100000 in
set_option maxHeartbeats 3200000 in
theorem call_set_texts {l : Addr} {items : Array Value} (ns : List Str) {Q : Value → Shared → Prop} (hh : A.handled = none) (hl : s.heap.IsList l items) (hit : StrsAre items.toList ns) (hb : ns.length + 1 < scanBound)
    (h : ∀ (h' : Heap) (tk c : Nat), TSet w h' s.heap.objs.size (fun j => decide (j ∈ ns)) c → c ≤ ns.length → (∀ b o, s.heap.get? b = some o → h'.get? b = some o) → Q (.ref s.heap.objs.size) { s with heap := h', toks := tk }) :
    wpAny (model P w) A (call (.type "set") [.ref l]) Q E s := by
  have hisz : items.size = ns.length := by
    have q := StrsAre.len_eq hit
    rw [Array.length_toList] at q
    exact q
  obtain ⟨c, tl, hmro⟩ := F.called_set.mro
  have hmade := F.called_set.made
  have hsub := F.called_set.sub
  refine wpAny_call (codeAny_of_tree ?_)
  show wpAny _ _ (callAny (.type "set") _) _ _ _
  refine wpAny_pure ⟨Code.quiet_builtin _ (by decide +kernel), codeAny_builtin F.entry_type_call ?_⟩
  rw [Around.under_plain (weight_type_call_type "set" [.ref l] []) rfl]
  have h1 := F.called_set.notType
  have h2 := F.called_set.canCreate
  have hct := F.typeCall_set_1 (.ref l)
  repeat (any_goals (first | assumption | wp_step))

  refine codeAny_mono (code_set_led1 (.ref l) (E := E) (Q₁ := fun obj s₁ => obj = .ref s.heap.objs.size ∧ s₁ = { s with heap := s.heap.push { cls := .type "set", dict := none, data := .set #[] 0 (.fresh 0 0 (!w.params.followText "set-order")) } }) ⟨rfl, rfl⟩) fun r s₁ hr => ?_
  cases r with
  | error e => exact hr
  | ok fl =>
    cases fl with
    | ret obj =>
      obtain ⟨rfl, rfl⟩ := hr
      have hS : (s.heap.push { cls := .type "set", dict := none, data := .set #[] 0 (.fresh 0 0 (!w.params.followText "set-order")) }).get? s.heap.objs.size = some { cls := .type "set", dict := none, data := .set #[] 0 (.fresh 0 0 (!w.params.followText "set-order")) } := Heap.get?_push_size _ rfl
      have hT : Shared.TypeIs { s with heap := s.heap.push { cls := .type "set", dict := none, data := .set #[] 0 (.fresh 0 0 (!w.params.followText "set-order")) } } (.ref s.heap.objs.size) "set" := ⟨_, hS, rfl⟩
      have hli := F.called_set.init.lookup
      have hbi := F.called_set.init.bind (.ref s.heap.objs.size)
      repeat (any_goals (first | assumption | wp_step))

      refine codeAny_mono (codeAny_call_builtin (R := wants (fun r s₂ => r = .none ∧ ∃ h' tk c, s₂ = { s with heap := h', toks := tk } ∧ TSet w h' s.heap.objs.size (fun j => decide (j ∈ ns)) c ∧ c ≤ ns.length ∧
          (∀ b o, s.heap.get? b = some o → h'.get? b = some o)) E) F.called_set.init.plain F.entry_set_init (check_set_init_1 hT ?_)) fun r₂ s₂ hr₂ => ?_
      · obtain ⟨ol, hol, hcl, nl, hdl⟩ := hl
        obtain ⟨ocls, odict, odata, oslots⟩ := ol
        simp only at hcl hdl
        subst hcl; subst hdl
        have hol' : (s.heap.push { cls := .type "set", dict := none, data := .set #[] 0 (.fresh 0 0 (!w.params.followText "set-order")) }).get? l = some { cls := .type "list", dict := odict, data := .seq items nl, slots := oslots } := Heap.get?_push_of_some _ hol
        have hsls := F.sub_list_set
        have hslf := F.sub_list_frozenset
        have hne : (Value.type "list" == Value.type "dict") = false := by decide
        have hl1 : (s.heap.push { cls := .type "set", dict := none, data := .set #[] 0 (.fresh 0 0 (!w.params.followText "set-order")) }).IsList l items := ⟨_, hol', rfl, nl, rfl⟩
        unfold Builtin.«set.__init__» noKeywords Builtin.Frozenset.updateFrom
        generalize hPI : pyIter = PI
        wp_walk
        subst hPI

        refine wpAny_pyIter_list hl1 ?_
        refine wpAny_bind (wpAny_runValue ?_)
        have hlS : l < s.heap.objs.size := Heap.lt_size hol
        have hh3 : A.in1.in1.in1.handled = none := by simp [hh]
        have hz1 : (s.heap.push { cls := .type "set", dict := none, data := .set #[] 0 (.fresh 0 0 (!w.params.followText "set-order")) }).objs.size = s.heap.objs.size + 1 := Heap.size_push ..
        have hneI : l ≠ (s.heap.push { cls := .type "set", dict := none, data := .set #[] 0 (.fresh 0 0 (!w.params.followText "set-order")) }).objs.size := by
          rw [Heap.size_push]; exact Nat.ne_of_lt (Nat.lt_succ_of_lt hlS)
        have hSf : s.heap.objs.size ∉ [(s.heap.push { cls := .type "set", dict := none, data := .set #[] 0 (.fresh 0 0 (!w.params.followText "set-order")) }).objs.size, l] := by
          rw [Heap.size_push]; simp only [List.mem_cons, List.mem_singleton, List.not_mem_nil, or_false, not_or]
          exact ⟨Nat.ne_of_lt (Nat.lt_succ_self _), Nat.ne_of_gt hlS⟩
        have hval : ∀ (i : Nat) (v : Value), items[i]? = some v → ∃ k t, ns[i]? = some k ∧ v = .str k t := fun i v hv => by
          have hi : i < ns.length := by rw [← hisz]; exact (Array.getElem?_eq_some_iff.mp hv).1
          obtain ⟨t, e⟩ := SS.strs_at hit i v (by rw [Array.getElem?_toList]; exact hv)
          refine ⟨ns[i], t, List.getElem?_eq_getElem hi, ?_⟩
          rw [e, List.getD_eq_getElem?_getD, List.getElem?_eq_getElem hi] <;> rfl
        refine set_update_texts ((Walks.list hh3 _ l hneI items).toS) s.heap.objs.size
          hSf ns hisz hb hval (items.size - 0) 0 _ (by omega) (Nat.zero_le _)
          ⟨⟨_, Heap.get?_push_size _ rfl, rfl, rfl⟩, (hl1.push _)⟩ ?hS0 ?hR
        case hS0 =>
          have hget : ((s.heap.push { cls := .type "set", dict := none, data := .set #[] 0 (.fresh 0 0 (!w.params.followText "set-order")) }).push { cls := .type "list_iterator", data := .fields #[.ref l, .int 0 0] }).get? s.heap.objs.size
              = some { cls := .type "set", dict := none, data := .set #[] 0 (.fresh 0 0 (!w.params.followText "set-order")) } := Heap.get?_push_of_some _ hS
          exact ⟨0, Nat.le_refl 0, tset_new_at hget⟩
        case hR =>
          intro s' c' hm hc' hS'
          obtain ⟨h', g2, d', tk', os'⟩ := s'
          have eg : g2 = s.gens := hm.gens
          have ed : d' = s.drawn := hm.drawn
          have eo : os' = s.os := hm.os
          subst eg; subst ed; subst eo
          show wpAny _ _ _ _ _ _
          refine wpAny_pure ?_
          show wpAny _ _ (ret Value.none) _ _ _
          rw [hisz] at hc'
          refine wpAny_pure ⟨rfl, h', tk', c', rfl, hS', hc', fun b o e => ?_⟩
          have hb0 : b < s.heap.objs.size := Heap.lt_size e
          have hb1 : b ≠ s.heap.objs.size := Nat.ne_of_lt hb0
          have hb2 : b ≠ (s.heap.push { cls := .type "set", dict := none, data := .set #[] 0 (.fresh 0 0 (!w.params.followText "set-order")) }).objs.size := by
            rw [Heap.size_push]; exact Nat.ne_of_lt (Nat.lt_succ_of_lt hb0)
          exact hm.heap b o (by simp only [List.mem_cons, List.mem_singleton, List.not_mem_nil, or_false, not_or]; exact ⟨hb1, hb2⟩) (Heap.get?_push_of_some _ (Heap.get?_push_of_some _ e))

      · cases r₂ with
        | error e => exact hr₂
        | ok fl₂ =>
          cases fl₂ with
          | ret r =>
            obtain ⟨rfl, h', tk, c', rfl, hS', hc', hk'⟩ := hr₂
            repeat (any_goals (first | assumption | wp_step))
            exact h _ _ _ hS' hc' hk'
          | _ => exact hr₂.elim
    | _ => exact hr.elim

end
end TX

namespace Ab
open PySem L2 PyProof.Rows

/-- unlike texts, rising -/
def RisT (ys : List Str) : Prop := ys.Nodup ∧ sortedS ys = true
def rSetX (w : World) (K : PySem.W.Frag) : List V → Hp → VK → Prop := fun vs H Q => ∃ (a : Addr) (xs : List Str), vs = [.ref a] ∧ SqL K H a (xs.map V.str) ∧ xs.length < 64 ∧
  ∀ p n, H p = none → n ≤ xs.length → Q (.ref p) (upd H p (.ext fun h => TX.TSet w h p (fun k => decide (k ∈ xs)) n))
def rSortX (w : World) : List V → Hp → VK → Prop := fun vs H Q => ∃ (a : Addr) (xs : List Str) (n : Nat), vs = [.ref a] ∧ H a = some (.ext fun h => TX.TSet w h a (fun k => decide (k ∈ xs)) n) ∧ n < 64 ∧
  ∀ (ys : List Str) (p : Addr), RisT ys → ys.length = n → (∀ k, k ∈ ys ↔ k ∈ xs) → H p = none → Q (.ref p) (upd H p (.lst (ys.map V.str)))
def rLenX (w : World) : List V → Hp → VK → Prop := fun vs H Q => ∃ (a : Addr) (xs : List Str) (n : Nat), vs = [.ref a] ∧ H a = some (.ext fun h => TX.TSet w h a (fun k => decide (k ∈ xs)) n) ∧ n < 64 ∧
  ∀ (ys : List Str), ys.Nodup → (∀ k, k ∈ ys ↔ k ∈ xs) → Q (.int (ys.length : Int)) H
section
variable {X : Cx}
theorem c_setX (hc : X.calm = true) : CallR X (.type "set") (rSetX X.w X.K) := by
  intro pins s σ H vs us Q I r h
  obtain ⟨a, xs, rfl, hs, h64, q⟩ := h
  obtain ⟨its, rv, hl, hz⟩ := I.list hs
  rw [Vals.ref1 r]
  refine TX.call_set_texts (P := X.prog) (w := X.w) xs (I.ok.hd hc) hl.isList (by rw [List.toList_toArray]; exact rv.strs) (by unfold scanBound; omega) fun h' tk c R hc' hk => ?_
  have hn : H s.heap.objs.size = none := I.hok.fresh (Nat.le_refl _)
  refine ⟨.ref _, upd H s.heap.objs.size (.ext fun h => TX.TSet X.w h s.heap.objs.size (fun k => decide (k ∈ xs)) c), I.laid hk (Nat.le_refl _) ⟨R, ?_, fun h1 h2 R1 k1 => R1.at k1⟩, rfl, q _ _ hn hc'⟩
  obtain ⟨o, es, ep, t, ho, _⟩ := R
  exact ⟨o, ho⟩
theorem strs_of : ∀ (l : List Value), (∀ v ∈ l, ∃ k tk, v = Value.str k tk) → StrsAre l (l.map fun v => match v with | .str k _ => k | _ => Str.empty)
  | [], _ => .nil
  | v :: l, h => by
    obtain ⟨k, tk, rfl⟩ := h v List.mem_cons_self
    exact .cons k tk (strs_of l fun u hu => h u (List.mem_cons_of_mem _ hu))
theorem c_sortX (hc : X.calm = true) : CallR X (.builtin "sorted") (rSortX X.w) := by
  intro pins s σ H vs us Q I r h
  obtain ⟨a, xs, n, rfl, hs, h64, q⟩ := h
  rw [Vals.ref1 r]
  obtain ⟨R, _, _⟩ := I.hok a _ hs
  obtain ⟨o, es, ep, t, ho, hex, hd, g, nd, hm, hb, hf, hn, hr, hl⟩ := R
  refine Calls.call_function_entry kind_sorted plain_sorted entry_sorted (args_sorted1 _) ?_
  unfold Builtin.«sorted»
  refine wpAny_bind (m := checkCount "sorted" 1 1 _) (wpAny_pure ?_)
  refine wpAny_bind (collect_set (A := X.A.in1) (I.ok.hd hc) ⟨o, ho, hex.1, hd⟩ hf hb hr hl fun s1 vs k1 hz g1 o1 pm => ?_)
  have hvl : vs.length = n := by rw [pm.length_eq, List.length_map, Array.length_toList]; exact hn
  have hS := strs_of vs fun v hv => by
    obtain ⟨e, he, q⟩ := List.mem_map.mp (pm.mem_iff.mp hv)
    obtain ⟨k, tk, h1, _⟩ := g e he
    exact ⟨k, tk, by rw [← q]; exact h1⟩
  have pk : (vs.map fun v => match v with | .str k _ => k | _ => Str.empty).Perm (es.toList.map TX.keyOf) := by
    have q := pm.map fun v => match v with | .str k _ => k | _ => Str.empty
    rw [List.map_map] at q
    exact q
  obtain ⟨hp1, gn1, dr1, tk1, os1⟩ := s1
  dsimp only at g1 o1 k1
  have I0 : Inv X pins σ H { s with heap := hp1, toks := tk1 } := I.kept (t' := tk1) k1
  have I1 : Inv X pins σ H { heap := hp1, gens := gn1, drawn := dr1, toks := tk1, os := os1 } := by
    subst g1 o1
    exact ⟨I0.ok, I0.os, I0.bare, I0.base, I0.loc, I0.cell, I0.free, I0.freeC, I0.pin, I0.hok, I0.len⟩
  refine wpAny_bind (wpAny_newList ?_ (by rw [hvl, sizeLine_eq]; omega))
  have hoL : (hp1.push (seqObj "list" vs.toArray 0)).get? hp1.objs.size = some (seqObj "list" vs.toArray 0) := Heap.get?_push_size _ rfl
  refine wpAny_bind (wpAny_holding (wpAny_call_entry PyProof.Rows.slot_list_sort ⟨_, hoL, rfl⟩ PyProof.Rows.entry_list_sort
    (list_sort_treeK strKind_oneLt hoL hS.keysOf (fun v₁ v₂ rest e => keyKind_strs (by rw [← e]; exact hS)) (by rw [hvl]; exact h64) fun st' hp hs => ⟨_, rfl, ?_⟩)
    (PyProof.Rows.args_list_sort _)))
  obtain ⟨ys, g1', g2, g3⟩ := sorted_out_str hS hp hs
  obtain ⟨e', he'⟩ := PyProof.Rows.sortedHeap_at (vs := vs) (out := (arrOf st').map (·.2)) hoL
  have pn : ys.Perm (es.toList.map TX.keyOf) := g2.trans pk
  have hlen : (ys.map V.str).length ≤ sizeLine := by
    rw [List.length_map, pn.length_eq, List.length_map, Array.length_toList, hn, sizeLine_eq]
    omega
  refine wpAny_pure ⟨_, rfl, .ref hp1.objs.size, upd H hp1.objs.size (.lst (ys.map V.str)), I1.laid (t' := tk1) (fun b u e => ?_) (Nat.le_refl _)
    (show ObjOk X.prog X.w _ _ _ (.lst (ys.map V.str)) from ⟨hlen, ((arrOf st').map (·.2)).toList, e', vals_of_strs g1', by rw [Array.toArray_toList]; exact he'⟩), rfl, q ys _ ⟨pn.nodup_iff.mpr nd, g3⟩ (by rw [pn.length_eq, List.length_map, Array.length_toList, hn]) (fun k => ?_) (I1.hok.fresh (Nat.le_refl _))⟩
  · have hb : b < hp1.objs.size := Heap.lt_size e
    show (sortedHeap (hp1.push (seqObj "list" vs.toArray 0)) hp1.objs.size vs _).get? b = some u
    rw [PyProof.Rows.sortedHeap_old (Nat.ne_of_lt hb) (by rw [size_push']; exact Nat.lt_succ_of_lt hb)]
    exact Heap.get?_push_of_some _ e
  · rw [pn.mem_iff, ← hm k, decide_eq_true_eq]
theorem c_lenX : CallR X (.builtin "len") (rLenX X.w) := by
  intro pins s σ H vs us Q I r h
  obtain ⟨a, xs, n, rfl, hs, h64, q⟩ := h
  rw [Vals.ref1 r]
  obtain ⟨R, _, _⟩ := I.hok a _ hs
  obtain ⟨o, es, ep, t, ho, hex, hd, g, nd, hm, hb, hf, hn, hr, hl⟩ := R
  have e : (es.toList.map TX.keyOf).length = es.size := by rw [List.length_map, Array.length_toList]
  have hq := q (es.toList.map TX.keyOf) nd (fun k => by rw [← hm k, decide_eq_true_eq])
  rw [e] at hq
  exact call_len_set ho hex hd hf (by rw [hn] <;> omega) ⟨.int es.size, H, I.tok _, ⟨_, rfl⟩, hq⟩
end
/-- sorted(set(xs)), len(set(xs)) of texts -/
def tSortSet (w : World) (K : PySem.W.Frag) (te : TE) : TE := tCB (rSortX w) (tCons (tCB (rSetX w K) (tCons te tNil)) tNil)
def tLenSet (w : World) (K : PySem.W.Frag) (te : TE) : TE := tCB (rLenX w) (tCons (tCB (rSetX w K) (tCons te tNil)) tNil)
section
variable {X : Cx} {e : Expr} {te : TE}
theorem pe_sortSet {p p2 pos pos2 : Pos} (hc : X.calm = true) (hg : Gl X "sorted") (hm : X.mg "sorted" = none) (hg2 : Gl X "set") (hm2 : X.mg "set" = none) (ha : PE X e te) (hs : starEach [e] X.env = (false, eval e X.env) :: starEach [] X.env := by rfl) :
    PE X (.Call (.Name "sorted" p) [.Call (.Name "set" p2) [e] [] pos2] [] pos) (tSortSet X.w X.K te) :=
  pe_callB (c_sortX hc) hg hm (by kernel_rfl) (pa_cons (pe_callTy (c_setX hc) hg2 hm2 (by kernel_rfl) (pa_cons ha pa_nil hs) (he := hs)) pa_nil)
theorem pe_lenSet {p p2 pos pos2 : Pos} (hc : X.calm = true) (hg : Gl X "len") (hm : X.mg "len" = none) (hg2 : Gl X "set") (hm2 : X.mg "set" = none) (ha : PE X e te) (hs : starEach [e] X.env = (false, eval e X.env) :: starEach [] X.env := by rfl) :
    PE X (.Call (.Name "len" p) [.Call (.Name "set" p2) [e] [] pos2] [] pos) (tLenSet X.w X.K te) :=
  pe_callB c_lenX hg hm (by kernel_rfl) (pa_cons (pe_callTy (c_setX hc) hg2 hm2 (by kernel_rfl) (pa_cons ha pa_nil hs) (he := hs)) pa_nil)
end
section
variable {w : World} {K : PySem.W.Frag} {Γ : Gam} {δ : Del} {te : TE} {x : AV} {xs : List AV} {Φ : AV → Gam → Prop}
theorem strs_rps {F : Hp} : ∀ (ss : List Str), Rps K F (ss.map V.str) (ss.map AV.str)
  | [] => .nil
  | s :: r => .cons (.str s) (strs_rps r)
theorem we_sortSet (h : WE K te δ Γ fun x Γ1 => ∃ ss : List Str, LsR Γ1 x (ss.map AV.str) ∧ ss.length < 64 ∧ ∀ ys, RisT ys → ys.length ≤ ss.length → (∀ k, k ∈ ys ↔ k ∈ ss) → Φ (.lst (ys.map AV.str)) Γ1) : WE K (tSortSet w K te) δ Γ Φ := fun σ F H Θ en gm Q q =>
  h σ F H Θ en gm _ fun v H1 ⟨F1, av, Γ1, s1, g1, r1, ss, hl, h64, hk⟩ => by
    obtain ⟨p, vs, rfl, e1, q1⟩ := hl.get g1 r1
    obtain rfl := rps_strs q1
    refine ⟨p, ss, rfl, e1, h64, fun a n ha hn => ?_⟩
    obtain ⟨s2, g2⟩ := g1.froz (o := .ext fun h => TX.TSet w h a (fun k => decide (k ∈ ss)) n) ha
    refine ⟨a, ss, n, rfl, upd_same, by omega, fun ys b hr hyl hm hb => ?_⟩
    obtain ⟨s3, g3⟩ := g2.froz (o := .lst (ys.map V.str)) hb
    exact q _ _ ⟨_, _, Γ1, (s1.trans s2).trans s3, g3, .lst upd_same (strs_rps ys), hk ys hr (by omega) hm⟩
theorem we_sortSetL (h : WE K te δ Γ fun x Γ1 => ∃ ss : List Str, LsR Γ1 x (ss.map AV.str) ∧ ss.length < 64 ∧ ∀ ys, RisT ys → ys.length ≤ ss.length → (∀ k, k ∈ ys ↔ k ∈ ss) → ∀ p, Φ (.ptr p) ((p, .lst (ys.map AV.str)) :: Γ1)) : WE K (tSortSet w K te) δ Γ Φ := fun σ F H Θ en gm Q q =>
  h σ F H Θ en gm _ fun v H1 ⟨F1, av, Γ1, s1, g1, r1, ss, hl, h64, hk⟩ => by
    obtain ⟨p, vs, rfl, e1, q1⟩ := hl.get g1 r1
    obtain rfl := rps_strs q1
    refine ⟨p, ss, rfl, e1, h64, fun a n ha hn => ?_⟩
    obtain ⟨s2, g2⟩ := g1.froz (o := .ext fun h => TX.TSet w h a (fun k => decide (k ∈ ss)) n) ha
    refine ⟨a, ss, n, rfl, upd_same, by omega, fun ys b hr hyl hm hb => ?_⟩
    exact q _ _ ⟨_, _, _, s1.trans s2, g2.new hb (.lst (strs_rps ys)), .ptr b, hk ys hr (by omega) hm b⟩
theorem we_lenSet (h : WE K te δ Γ fun x Γ1 => ∃ ss : List Str, LsR Γ1 x (ss.map AV.str) ∧ ss.length < 64 ∧ ∀ ys : List Str, ys.Nodup → (∀ k, k ∈ ys ↔ k ∈ ss) → Φ (.int (ys.length : Int)) Γ1) : WE K (tLenSet w K te) δ Γ Φ := fun σ F H Θ en gm Q q =>
  h σ F H Θ en gm _ fun v H1 ⟨F1, av, Γ1, s1, g1, r1, ss, hl, h64, hk⟩ => by
    obtain ⟨p, vs, rfl, e1, q1⟩ := hl.get g1 r1
    obtain rfl := rps_strs q1
    refine ⟨p, ss, rfl, e1, h64, fun a n ha hn => ?_⟩
    obtain ⟨s2, g2⟩ := g1.froz (o := .ext fun h => TX.TSet w h a (fun k => decide (k ∈ ss)) n) ha
    refine ⟨a, ss, n, rfl, upd_same, by omega, fun ys hr hm => ?_⟩
    exact q _ _ ⟨_, _, Γ1, s1.trans s2, g2, .int _, hk ys hr hm⟩
/-- sorted(d), texts -/
def rSortDk : List V → Hp → VK → Prop := fun xs H Q => ∃ (a : Addr) (kvs : List (Key × V)) (ks : List Str), xs = [.ref a] ∧ Rd H a (.dK kvs) ∧ kvs.map (·.1) = ks.map Sum.inr ∧ ks.length < 64 ∧
    ∀ ys p, ys.Perm ks → sortedS ys = true → H p = none → Q (.ref p) (upd H p (.lst (ys.map V.str)))
def rSortB (K : PySem.W.Frag) : List V → Hp → VK → Prop := fun xs H Q => rSortA K xs H Q ∨ rSortDk xs H Q
theorem c_sortB {X : Cx} (hc : X.calm = true) (hu : X.A.units + 65 < cLine) : CallR X (.builtin "sorted") (rSortB X.K) := CallR.or (c_sorted hu) (call_sortedD hc)
theorem wc_sortD {n : Nat} {kvs : List (Key × AV)} {ks : List Str} (h : DkA Γ n x kvs) (hk : kvs.map (·.1) = ks.map Sum.inr) (h64 : ks.length < 64) (k : ∀ ys, ys.Perm ks → sortedS ys = true → Φ (.lst (ys.map AV.str)) Γ) : WC K (rSortB K) [x] Γ Φ := wc_r fun v F H Θ r gm Q q => by
  cases r with
  | cons r1 r2 =>
    cases r2
    obtain ⟨p, vs, _, rfl, _, e, rk⟩ := h.get gm r1
    refine ⟨p, vs, ks, rfl, .inl e, rk.keys.trans hk, h64, fun ys a h1 h2 hn => ?_⟩
    obtain ⟨s2, g2⟩ := gm.froz (o := .lst (ys.map V.str)) hn
    exact q _ _ ⟨_, _, Γ, s2, g2, .lst upd_same (strs_rps ys), k ys h1 h2⟩
theorem wc_sortDL {n : Nat} {kvs : List (Key × AV)} {ks : List Str} (h : DkA Γ n x kvs) (hk : kvs.map (·.1) = ks.map Sum.inr) (h64 : ks.length < 64) (k : ∀ ys, ys.Perm ks → sortedS ys = true → ∀ p, Φ (.ptr p) ((p, .lst (ys.map AV.str)) :: Γ)) : WC K (rSortB K) [x] Γ Φ := wc_r fun v F H Θ r gm Q q => by
  cases r with
  | cons r1 r2 =>
    cases r2
    obtain ⟨p, vs, _, rfl, _, e, rk⟩ := h.get gm r1
    refine ⟨p, vs, ks, rfl, .inl e, rk.keys.trans hk, h64, fun ys a h1 h2 hn => ?_⟩
    exact q _ _ ⟨F, _, _, Same.refl F, gm.new hn (.lst (strs_rps ys)), .ptr a, k ys h1 h2 a⟩
theorem wc_sorted {ks : List PyData} (h : LsR Γ x xs) (kv : KeysA Γ xs ks) (k : Φ (.lst (sortK xs ks)) Γ) : WC K (rSortB K) [x] Γ Φ := wc_l (wc_sort h kv k)
theorem wc_sortedL {ks : List PyData} (h : LsR Γ x xs) (kv : KeysA Γ xs ks) (k : ∀ p, Φ (.ptr p) ((p, .lst (sortK xs ks)) :: Γ)) : WC K (rSortB K) [x] Γ Φ := wc_l (wc_sortL h kv k)
end
end Ab

/-! sorted(xs, key=f), f a def of the text. -/
namespace Ab
open PySem L2 PyProof.Rows

/-- a number, a text as a key -/
def KVal (v : Value) (k : PyData) : Prop := (∃ i t, v = .int i t ∧ k = .int i) ∨ ∃ x t, v = .str x t ∧ k = .str x
def KV (v : V) (k : PyData) : Prop := (∃ i, v = .int i ∧ k = .int i) ∨ ∃ x, v = .str x ∧ k = .str x
theorem KV.val {v : V} {u : Value} {k : PyData} (h : KV v k) (r : RelV v u) : KVal u k := by
  rcases h with ⟨i, rfl, rfl⟩ | ⟨x, rfl, rfl⟩
  · obtain ⟨t, rfl⟩ := r; exact .inl ⟨i, t, rfl, rfl⟩
  · obtain ⟨t, rfl⟩ := r; exact .inr ⟨x, t, rfl, rfl⟩
theorem KVal.reads {v : Value} {k : PyData} {h : Heap} (q : KVal v k) : ∃ as, Reads h v k as := by
  rcases q with ⟨i, t, rfl, rfl⟩ | ⟨x, t, rfl, rfl⟩
  · exact ⟨_, .int i t⟩
  · exact ⟨_, .str x t⟩
section
variable {X : Cx} {pins : List (Addr × Obj)} {σ : L2.St} {A : Around} {a kS : Addr} {vs : List Value} {kz : List PyData} {J : Hp → Prop} {e1 : Nat}

theorem keyI_end {s : Shared} {H : Hp} {keys : Array Value} {e : Nat} {P : PySem.Fin → Shared → Prop} {E : Value → Shared → Prop} {κ : PyProof.Rows.KeyKind} (I : Inv X pins σ H s) (hkS : s.heap.get? kS = some (seqObj "list" keys e)) (ha : s.heap.get? a = some (seqObj "list" #[] e1)) (hka : kS ≠ a)
    (fp : ∀ H' : Hp, H' kS = none → H' a = none → FpOk X pins H' kS ∧ FpOk X pins H' a) (hn : H kS = none ∧ H a = none)
    (S : PySem.W.SortsAt X.prog X.w A s κ keys.toList) (hsz : keys.size = vs.length) (hZ : vs.length ≤ sizeLine)
    (h : ∀ h' tk c, Inv X pins σ H { s with heap := h', toks := tk } → h'.get? a = some (seqObj "list" (PySem.W.sortVals κ false keys.toList vs).toArray c) → P (.done (.ret .none)) { s with heap := h', toks := tk }) :
    wpAny (model X.prog X.w) A (ksk_end a false vs.toArray e1 (.ref kS) keys) P E s := by
  obtain ⟨kd, h1, h2⟩ := S.kind
  have hkl : keys.toList.length = vs.length := by
    rw [Array.length_toList]
    exact hsz
  have hK : PyProof.Rows.KeysOf κ (keys.zip vs.toArray) := PySem.W.keysOf_zip S.keys
  have hol : (PySem.W.sortVals κ false keys.toList vs).length = vs.length := PySem.W.sortVals_length false hkl
  have hss : (keys.zip vs.toArray).size = vs.length := by rw [Array.size_zip, hsz, List.size_toArray, Nat.min_self]
  have fin : ∀ st' : SortSt, (arrOf st').Perm (keys.zip vs.toArray) → SortedToK κ (arrOf st') (keys.zip vs.toArray).size → Stable κ (arrOf st') (keys.zip vs.toArray) → ((arrOf st').map (·.2)) = (PySem.W.sortVals κ false keys.toList vs).toArray := by
    intro st' hp hs ht
    have e := PySem.W.sort_out (rev := false) (keys := keys) (items := vs.toArray) (xs := arrOf st') (κ := κ) hK hp hs ht
    have e' := congrArg List.toArray e
    rw [Array.toArray_toList] at e'
    exact e'
  have tail : ∀ st : SortSt, failedOf st = none → ((arrOf st).map (·.2)) = (PySem.W.sortVals κ false keys.toList vs).toArray → wpAny (model X.prog X.w) A (ksk_tail a false e1 (.ref kS) st) P E s := by
    intro st hfl ho
    have s1 := Heap.SameBut.update s.heap kS (Obj.mapSeq fun _ => (#[] : Array Value))
    have na1 : (s.heap.update kS (Obj.mapSeq fun _ => (#[] : Array Value))).get? a = some (seqObj "list" #[] e1) := (s1.2 a hka.symm).trans ha
    have s2 := Heap.SameBut.update (s.heap.update kS (Obj.mapSeq fun _ => (#[] : Array Value))) a (Obj.mapSeq fun _ => (PySem.W.sortVals κ false keys.toList vs).toArray)
    obtain ⟨c2, hc2⟩ : ∃ c2, ((s.heap.update kS (Obj.mapSeq fun _ => (#[] : Array Value))).update a (Obj.mapSeq fun _ => (PySem.W.sortVals κ false keys.toList vs).toArray)).get? a = some (seqObj "list" (PySem.W.sortVals κ false keys.toList vs).toArray c2) :=
      ⟨_, get?_update_seq na1 fun _ => (PySem.W.sortVals κ false keys.toList vs).toArray⟩
    have hz2 : (PySem.W.sortVals κ false keys.toList vs).toArray.size ≤ sizeLine + 1 := by
      rw [List.size_toArray, hol]
      exact Nat.le_succ_of_le hZ
    unfold ksk_tail
    try dsimp only
    simp only [Bool.false_eq_true, if_false]
    rw [ho]
    refine wpAny_bind (listUpdate_at hkS rfl ?_ (by rw [hsz]; exact hZ) (Nat.zero_le _))
    refine wpAny_bind (wpAny_letGo ?_)
    refine wpAny_bind (seqEpoch_at na1 rfl ?_)
    refine wpAny_bind (listUpdate_at na1 rfl ?_ (Nat.zero_le _) hz2)
    rw [hfl]
    simp only [bne_self_eq_false, Bool.false_eq_true, if_false]
    refine wpAny_pure (h _ _ c2 (I.turnedL (t' := s.toks) (ch := [kS, a]) (fun b o hb e => ?_) fun b hb => ?_) hc2)
    · have n1 : b ≠ kS := fun z => hb (by simp [z])
      have n2 : b ≠ a := fun z => hb (by simp [z])
      exact (s2.2 b n2).trans ((s1.2 b n1).trans e)
    · rcases List.mem_cons.mp hb with rfl | hb
      · exact (fp H hn.1 hn.2).1
      · rw [List.mem_singleton.mp hb]; exact (fp H hn.1 hn.2).2
  unfold ksk_end
  try dsimp only
  simp only [Bool.false_eq_true, if_false]
  by_cases hl2 : vs.toArray.size < 2
  · rw [if_pos hl2, if_pos hl2]
    refine wpAny_bind (wpAny_pure ?_)
    rw [StateT.run_pure]
    refine wpAny_bind (wpAny_pure ?_)
    try dsimp only
    refine tail (SortSt.mk' general' (keys.zip vs.toArray) #[] 7 none) rfl (fin _ (Array.Perm.refl _) ?_ (Stable.refl _))
    intro i j hij hj
    rw [hss] at hj
    rw [List.size_toArray] at hl2
    have : i = j := by omega
    subst this
    exact KeyOrd.kle_refl _
  · rw [if_neg hl2, if_neg hl2]
    rw [List.size_toArray] at hl2
    refine wpAny_bind (h2 (by omega) _ ?_)
    refine wpAny_bind (wpAny_mono (PyProof.Rows.H.wpS_sortRunsSt (κ := κ) (kd := kd) (a₀ := keys.zip vs.toArray) (st := SortSt.mk' kd (keys.zip vs.toArray) #[] 7 none)
      (Q := fun _ st' => failedOf st' = none ∧ ((arrOf st').map (·.2)) = (PySem.W.sortVals κ false keys.toList vs).toArray)
      h1 hK ⟨Array.Perm.refl _, rfl, rfl⟩ rfl (Stable.refl _) (by rw [hss]; omega) fun st' a1 a2 a3 a4 => ⟨a2, fin st' a1 a3 a4⟩) ?_ fun _ _ e => e)
    rintro ⟨⟨⟩, st'⟩ s' ⟨rfl, hf, ho⟩
    try dsimp only at ho ⊢
    exact tail st' hf ho

theorem keyI_rest {s : Shared} {H : Hp} {f : Value} {P : PySem.Fin → Shared → Prop} {E : Value → Shared → Prop} (I : Inv X pins σ H s) (hkS : s.heap.get? kS = some (seqObj "list" #[] 0)) (ha : s.heap.get? a = some (seqObj "list" #[] e1)) (hka : kS ≠ a)
    (fp : ∀ H' : Hp, H' kS = none → H' a = none → FpOk X pins H' kS ∧ FpOk X pins H' a) (hn : H kS = none ∧ H a = none) (j0 : J H)
    (hlen : kz.length = vs.length) (hZ : vs.length ≤ sizeLine) (hal : PySem.W.AllAlike kz) (hu : A.units + 4 < cLine) (hnd : ∀ d ∈ kz, d.depth = 0) (hsk : PySem.W.Sortable kz)
    (turn : ∀ (i : Nat) (v : Value) (k : PyData), vs[i]? = some v → kz[i]? = some k → ∀ (pl : List (Addr × Obj)) (H' : Hp) (s' : Shared), Inv X (pins ++ pl) σ H' s' → J H' →
      wpAny (model X.prog X.w) A (call f [v]) (fun u s'' => KVal u k ∧ ∃ H'', Inv X (pins ++ pl) σ H'' s'' ∧ J H'') (fun _ _ => False) s')
    (h : ∀ (H' : Hp) (s' : Shared) (out : List Value) (c : Nat), J H' → Inv X pins σ H' s' → H' a = none → s'.heap.get? a = some (seqObj "list" out.toArray c) → PySem.W.KeyedOut false kz vs out → P (.done (.ret .none)) s') :
    wpAny (model X.prog X.w) A (ksk_rest a f false vs.toArray e1 (.ref kS)) P E s := by
  unfold ksk_rest
  refine wpAny_bind (wpAny_rule ?_)
  first
    | rw [List.forIn_toArray]
    | (rw [← Array.forIn_toList]; simp only [List.toList_toArray])
    | rw [← Array.forIn_toList]
  refine wpAny_bind (ksk_fold (fun i s' => ∃ H' kA e, Inv X pins σ H' s' ∧ J H' ∧ H' kS = none ∧ H' a = none ∧ s'.heap.get? kS = some (seqObj "list" kA e) ∧ s'.heap.get? a = some (seqObj "list" #[] e1) ∧ PySem.W.EachIs KVal kA.toList (kz.take i)) vs 0 s
    ⟨H, #[], 0, I, j0, hn.1, hn.2, hkS, ha, by rw [List.take_zero]; exact .nil⟩ ?step ?done)
  case step =>
    rintro j x s' hx ⟨H', kA, e, I', j', n1, n2, g1, g2, hk⟩
    simp only [Nat.zero_add] at hk ⊢
    have hj : j < vs.length := (List.getElem?_eq_some_iff.mp hx).1
    obtain ⟨k, hkj⟩ : ∃ k, kz[j]? = some k := ⟨_, List.getElem?_eq_getElem (by omega)⟩
    have hz : kA.size ≤ vs.length := by
      have h1 := hk.length
      rw [Array.length_toList, List.length_take] at h1
      omega
    have Ip := I'.pinned (fp := [kS, a]) (fun b hb => by
      rcases List.mem_cons.mp hb with rfl | hb
      · exact (fp H' n1 n2).1
      · rw [List.mem_singleton.mp hb]; exact (fp H' n1 n2).2) (fun b hb => by
      rcases List.mem_cons.mp hb with rfl | hb
      · exact ⟨_, g1, fun v z => by cases z⟩
      · rw [List.mem_singleton.mp hb]; exact ⟨_, g2, fun v z => by cases z⟩)
    refine wpAny_bind (wpAny_attempt (wpAny_mono (turn j x k hx hkj _ H' s' Ip j') (fun v s'' he => ?_) fun _ _ hF => hF.elim))
    obtain ⟨hkv, H2, I2, j2⟩ := he
    have p1 := I2.pin (kS, seqObj "list" kA e) (List.mem_append_right _ (List.mem_append_right _ (mem_pinsAt (by simp) g1)))
    have p2 := I2.pin (a, seqObj "list" #[] e1) (List.mem_append_right _ (List.mem_append_right _ (mem_pinsAt (by simp) g2)))
    have I3 := I2.unpinned
    try dsimp only
    have s1 := Heap.SameBut.update s''.heap kS (Obj.mapSeq (·.push v))
    obtain ⟨c2, hc2⟩ : ∃ c2, (s''.heap.update kS (Obj.mapSeq (·.push v))).get? kS = some (seqObj "list" (kA.push v) c2) := ⟨_, get?_update_seq p1.1 (·.push v)⟩
    have ek : kz.take (j + 1) = kz.take j ++ [k] := by rw [List.take_add_one, hkj]; simp
    have ea : (kA.push v).toList = kA.toList ++ [v] := by simp
    refine wpAny_bind (listUpdate_at p1.1 rfl ?_ (Nat.le_trans hz hZ) (Nat.le_trans (Nat.le_of_eq (Array.size_push ..)) (Nat.succ_le_succ (Nat.le_trans hz hZ))))
    refine wpAny_pure ⟨rfl, H2, kA.push v, c2, I3.turnedL (t' := s''.toks) (ch := [kS]) (fun b o hb e => ?_) (fun b hb => ?_), j2, p1.2.1, p2.2.1, hc2, (s1.2 a hka.symm).trans p2.1, ?_⟩
    · exact (s1.2 b fun z => hb (by simp [z])).trans e
    · rw [List.mem_singleton.mp hb]; exact (fp H2 p1.2.1 p2.2.1).1
    · rw [ea, ek]
      exact PySem.W.each_snoc hkv hk
  case done =>
    rintro s' ⟨H', kA, e, I', j', n1, n2, g1, g2, hk⟩
    have e3 : kz.take (0 + vs.length) = kz := List.take_of_length_le (by omega)
    rw [e3] at hk
    have hk' : PySem.W.EachIs (fun v k => ∃ as, Reads s'.heap v k as) kA.toList kz := hk.mono fun v k q => q.reads
    have hsz : kA.size = vs.length := by
      have h1 := hk'.length
      rw [Array.length_toList] at h1
      omega
    refine wpAny_bind (listItems_at g1 rfl ?_)
    exact keyI_end (κ := PySem.W.dataKind s'.heap kz) I' g1 g2 hka fp ⟨n1, n2⟩ (PySem.W.SortsAt.data hk' hal hsk fun d hd => by rw [hnd d hd]; omega) hsz hZ fun h3 tk3 c I3 g3 =>
      h H' _ _ c j' I3 n2 g3 ⟨s'.heap, kA.toList, hal, rfl, hk'⟩
end

/-- sorted(xs, key=f): the def's promise, each item's key, what stays true of the objects -/
def rSortKey (K : PySem.W.Frag) (fa : Addr) (sp : Sp) : List V → List V → Hp → VK → Prop := fun vs zs H1 Q => ∃ (a : Addr) (xs : List V) (ks : List PyData) (J : Hp → Prop), vs = [.ref a] ∧ zs = [.ref fa] ∧ SqL K H1 a xs ∧ J H1 ∧ ks.length = xs.length ∧
  PySem.W.AllAlike ks ∧ ((∀ k ∈ ks, ∃ i, k = .int i) ∨ ∀ k ∈ ks, ∃ x, k = .str x) ∧
  (∀ (i : Nat) v k, xs[i]? = some v → ks[i]? = some k → ∀ H2, J H2 → sp [v] H2 (fun u H3 => KV u k ∧ J H3) E0) ∧ ∀ H2 p, J H2 → H2 p = none → Q (.ref p) (upd H2 p (.lst (sortK xs ks)))
def tSortKey (K : PySem.W.Frag) (fa : Addr) (sp : Sp) (te : TE) : TE := tCKw (rSortKey K fa sp) (tCons te tNil) (tCons (tC (.ref fa)) tNil)
theorem env0_in {P : Program} {w : World} {K : PySem.W.Frag} {mg : Str → Option Value} {base : Heap} {A : Around} {outer : List Env} {s : Shared} {H : Hp} (e : Env0 P w K mg base A outer s H) : Env0 P w K mg base A.in1.in1 outer s H := ⟨e.frames, e.mod, e.bs, e.bsz, e.funs, e.frf, e.hok, e.bare⟩
section
variable {X : Cx} {x : Str} {e : Expr} {te : TE} {k : Nat} {ps : List Str} {sp : Sp} {p p2 pos : Pos}
theorem c_sortKey (o : Ok X.prog X.w X.K X.mg X.base k x ps sp) (hr : Room (k + 2) X.A) : CallRK X (.builtin "sorted") [Str.ofString "key"] (rSortKey X.K (He.ga X.K x) sp) := by
  intro pins s σ H vs zs us ws Q I r rz h
  obtain ⟨a, xs, ks, J, rfl, rfl, hs, j0, hlen, hal, hfl, turn, q⟩ := h
  obtain ⟨its, rv, hl, hz⟩ := I.list hs
  rw [Vals.ref1 r, Vals.ref1 rz]
  have hxl : xs.length = its.length := rv.length
  have hd0 : ∀ d ∈ ks, d.depth = 0 := fun d hd => PySem.W.depth_flat (hfl.imp (fun h => h d hd) fun h => h d hd)
  have hsk : PySem.W.Sortable ks := .inr fun d hd => by
    rcases hfl with h | h
    · obtain ⟨i, rfl⟩ := h d hd; exact ⟨(fun z => by cases z), fun _ z => by cases z⟩
    · obtain ⟨i, rfl⟩ := h d hd; exact ⟨(fun z => by cases z), fun _ z => by cases z⟩
  refine PySem.W.sorted_of_sort hl.isList (by omega) (PyProof.Rows.ksk_s1 _ _) (fun _ => PyProof.Rows.ksk_l1 _ _) fun E' => ?_
  have hat := PySem.W.copyHeap_at s.heap its
  obtain ⟨A0, hA⟩ : ∃ A0, A0 = s.heap.objs.size + 1 := ⟨_, rfl⟩
  rw [← hA] at hat ⊢
  rw [show Builtin.«list.sort» ⟨[.ref A0], [Str.ofString "key"].zip [Value.ref (He.ga X.K x)]⟩ = ksk_tree A0 (.ref (He.ga X.K x)) false from ksk_t1 _ _]
  have s1 := Heap.SameBut.update (PySem.W.copyHeap s.heap its) A0 (Obj.mapSeq fun _ => (#[] : Array Value))
  obtain ⟨e1, ho1⟩ : ∃ e1, ((PySem.W.copyHeap s.heap its).update A0 (Obj.mapSeq fun _ => (#[] : Array Value))).get? A0 = some (seqObj "list" #[] e1) := ⟨_, get?_update_seq hat fun _ => #[]⟩
  have haA : @LT.lt Nat _ A0 (PySem.W.copyHeap s.heap its).objs.size := Heap.lt_size hat
  have hkS : (((PySem.W.copyHeap s.heap its).update A0 (Obj.mapSeq fun _ => (#[] : Array Value))).push (seqObj "tuple" its.toArray 0)).objs.size = (PySem.W.copyHeap s.heap its).objs.size + 1 := by rw [size_push', Heap.size_update]
  unfold ksk_tree
  refine wpAny_bind (listItems_at hat rfl ?_)
  refine wpAny_bind (listUpdate_at hat rfl ?_ (by rw [List.size_toArray]; omega) (Nat.zero_le _))
  refine wpAny_bind (seqEpoch_at ho1 rfl ?_)
  refine wpAny_bind (wpAny_newTuple ?_ (by show its.length ≤ _; omega))
  refine wpAny_bind (wpAny_newList ?_ (Nat.zero_le _))
  refine wpAny_holding ?_
  have keep : ∀ b o, s.heap.get? b = some o → ((((PySem.W.copyHeap s.heap its).update A0 (Obj.mapSeq fun _ => (#[] : Array Value))).push (seqObj "tuple" its.toArray 0)).push (seqObj "list" #[] 0)).get? b = some o := fun b o e =>
    Heap.get?_push_of_some _ (Heap.get?_push_of_some _ ((s1.2 b (Nat.ne_of_lt (by rw [hA]; exact Nat.lt_succ_of_lt (Heap.lt_size e)))).trans (PySem.W.copyHeap_old e)))
  have I1 : Inv X pins σ H { s with heap := (((PySem.W.copyHeap s.heap its).update A0 (Obj.mapSeq fun _ => (#[] : Array Value))).push (seqObj "tuple" its.toArray 0)).push (seqObj "list" #[] 0), toks := s.toks } := I.kept (t' := s.toks) keep
  have hcs : s.heap.objs.size ≤ (PySem.W.copyHeap s.heap its).objs.size := by omega
  refine keyI_rest (J := J) (kz := ks) (kS := (((PySem.W.copyHeap s.heap its).update A0 (Obj.mapSeq fun _ => (#[] : Array Value))).push (seqObj "tuple" its.toArray 0)).objs.size) I1 (Heap.get?_push_size _ rfl) (Heap.get?_push_of_some _ (Heap.get?_push_of_some _ ho1)) (Nat.ne_of_gt (by rw [hkS]; exact Nat.lt_succ_of_lt haA))
    (fun H' h1 h2 => ⟨I.fpOk (by rw [hkS]; omega) h1, I.fpOk (by omega) h2⟩) ⟨I.hok.fresh (by rw [hkS]; exact Nat.le_succ_of_le hcs), I.hok.fresh (by rw [hA]; exact Nat.le_succ _)⟩ j0 (by omega) (by omega) hal (by
      have a1 := X.A.in1_units
      have a2 := X.A.in1.in1_units
      have := hr.un
      simp at a1 a2 ⊢
      omega) hd0 hsk ?turn ?done
  case turn =>
    intro i v kk hi hk pl H' s' I' j'
    obtain ⟨xv, hxv, rxv⟩ : ∃ xv, xs[i]? = some xv ∧ RelV xv v := by
      have hi' : i < xs.length := by have := (List.getElem?_eq_some_iff.mp hi).1; omega
      exact ⟨_, List.getElem?_eq_getElem hi', PySem.W.each_at (vals_each rv) hi (List.getElem?_eq_getElem hi')⟩
    obtain ⟨fd, F, _, b2⟩ := o.ex
    have hl1 : ([v] : List Value).length = ps.length := F.len _ _ _ _ (turn i xv kk hxv hk H' j')
    refine wpAny_call (codeAny_mono (F.run X.A.in1.in1 X.stack s' H' ⟨[v], []⟩ [v] [xv] _ E0 ⟨hr.hd, by have := hr.dp; show X.A.depth + 3 * k + 5 < _; omega, by have := hr.un; show X.A.units + 1 + 1 + 16 * k + 200 < _; omega⟩ (env0_in I'.env0) (b2 s' [v] hl1) (.cons rxv .nil) (turn i xv kk hxv hk H' j')) fun r s'' hq => ?_)
    cases r with
    | error e => exact hq.elim
    | ok fl =>
      cases fl with
      | ret u =>
        obtain ⟨v', H'', I'', r'', hkv, j''⟩ := I'.after hq
        exact ⟨hkv.val r'', H'', I'', j''⟩
      | next => exact False.elim hq
      | brk => exact False.elim hq
      | cont => exact False.elim hq
  case done =>
    intro H' s' out c j' I' n' g' hout
    refine ⟨rfl, ?_⟩
    have e1 : PySem.W.EachIs (fun v (b : V × PyData) => RelV b.1 v) its (xs.zip ks) := by
      refine PySem.W.each_of_map (R := fun v (b : V) => L2.RelV b v) Prod.fst ?_
      rw [List.map_fst_zip (by omega)]
      exact vals_each rv
    have e3 := PySem.W.keyedOut_each (rev := false) (bs := xs.zip ks) (fun b : V × PyData => b.2) (by rw [List.map_snd_zip (by omega)]; exact hout) e1
    have e5 : Vals (sortK xs ks) out := by
      refine each_vals ?_
      have m : ∀ {zs : List Value} {ys : List (V × PyData)}, PySem.W.EachIs (fun v (b : V × PyData) => RelV b.1 v) zs ys → PySem.W.EachIs (fun v x => RelV x v) zs (ys.map Prod.fst) := by
        intro zs bs h
        induction h with
        | nil => exact .nil
        | cons h1 _ ih => exact .cons h1 ih
      exact m e3
    have hl2 : (sortK xs ks).length ≤ sizeLine := by
      unfold sortK
      rw [List.length_map, (List.mergeSort_perm _ _).length_eq, List.length_zip]
      omega
    have fp := I.fpOk (b := A0) (H' := H') (by omega) n'
    refine ⟨.ref A0, upd H' A0 (.lst (sortK xs ks)), ?_, rfl, q H' A0 j' n'⟩
    exact Inv.take I' (h' := s'.heap) (t' := s'.toks) (fun b ob _ e => e) fp ⟨hl2, out, c, e5, g'⟩
theorem pe_sortKey {kpos : Pos} (o : Ok X.prog X.w X.K X.mg X.base k x ps sp) (hr : Room (k + 2) X.A) (hg : Gl X "sorted") (hm : X.mg "sorted" = none) (hx : Gl X x) (ha : PE X e te)
    (hdb : (x == ("__debug__" : Str)) = false := by decide) (he : starEach [e] X.env = (false, eval e X.env) :: starEach [] X.env := by rfl)
    (hall : (backToKw pos (keywordEach [⟨some "key", .Name x p2, kpos⟩] X.env)).all (·.1.isSome) = true := by rfl) (hnone : (backToKw pos (keywordEach [⟨some "key", .Name x p2, kpos⟩] X.env)).any (·.1.isNone) = false := by rfl)
    (hks : (backToKw pos (keywordEach [⟨some "key", .Name x p2, kpos⟩] X.env)).filterMap (·.1) = [Str.ofString "key"] := by rfl) : PE X (.Call (.Name "sorted" p) [e] [⟨some "key", .Name x p2, kpos⟩] pos) (tSortKey X.K (He.ga X.K x) sp te) :=
  pe_callBK (c_sortKey o hr) hg hm (by kernel_rfl) (pa_cons ha pa_nil he) (pk_cons (pe_glob hx o.g (v := .ref (He.ga X.K x)) rfl hdb) pk_nil) (he := congrArg (backTo pos) he) (hpl := by rw [he]; rfl) (hall := hall) (hnone := hnone) (hks := hks)
end
def KAv (x : AV) (k : PyData) : Prop := (∃ i, x = .int i ∧ k = .int i) ∨ ∃ y, x = .str y ∧ k = .str y
theorem rps_at {K : PySem.W.Frag} {F : Hp} : ∀ {vs : List V} {xs : List AV}, Rps K F vs xs → ∀ {i : Nat} {v : V}, vs[i]? = some v → ∃ x, xs[i]? = some x ∧ Rp K F v x
  | _, _, .nil, i, v, e => by simp at e
  | _, _, .cons h t, 0, v, e => by cases e; exact ⟨_, rfl, h⟩
  | _, _, .cons h t, i + 1, v, e => by
    obtain ⟨x, h1, h2⟩ := rps_at t (i := i) (by simpa using e)
    exact ⟨x, by simpa using h1, h2⟩
section
variable {K : PySem.W.Frag} {Γ : Gam} {δ : Del} {te : TE} {fa : Addr} {s : ASp} {Φ : AV → Gam → Prop}
theorem sortKey_turn {F1 H1 : Hp} {Γ1 Θ : Gam} {vs : List V} {xs : List AV} {ks : List PyData} (g1 : Gm K F1 H1 (Γ1 ++ Θ)) (q1 : Rps K F1 vs xs) (hf : ∀ (i : Nat) y k, xs[i]? = some y → ks[i]? = some k → s [y] [] fun v Γ' => KAv v k ∧ Γ' = []) :
    ∀ (i : Nat) v k, vs[i]? = some v → ks[i]? = some k → ∀ H2, (∃ F2, Same F1 F2 ∧ Gm K F2 H2 (Γ1 ++ Θ)) → toSp K s [v] H2 (fun u H3 => KV u k ∧ ∃ F2, Same F1 F2 ∧ Gm K F2 H3 (Γ1 ++ Θ)) E0 := by
  rintro i v k hv hk H2 ⟨F2, s2, g2⟩
  obtain ⟨y, hy, ry⟩ := rps_at q1 hv
  refine ⟨F2, [y], [], Γ1 ++ Θ, _, g2, .cons (Rp.mono s2 _ _ ry) .nil, hf i y k hy hk, ?_⟩
  rintro u H3 ⟨F3, av, Γ3, s3, g3, r3, hk, rfl⟩
  refine ⟨?_, F3, s2.trans s3, g3⟩
  rcases hk with ⟨i, rfl, rfl⟩ | ⟨i, rfl, rfl⟩
  · cases r3; exact .inl ⟨i, rfl, rfl⟩
  · cases r3; exact .inr ⟨i, rfl, rfl⟩
theorem we_sortKey (h : WE K te δ Γ fun x Γ1 => ∃ xs ks, LsR Γ1 x xs ∧ ks.length = xs.length ∧ PySem.W.AllAlike ks ∧ ((∀ k ∈ ks, ∃ i, k = .int i) ∨ ∀ k ∈ ks, ∃ x, k = .str x) ∧ (∀ (i : Nat) y k, xs[i]? = some y → ks[i]? = some k → s [y] [] fun v Γ' => KAv v k ∧ Γ' = []) ∧ Φ (.lst (sortK xs ks)) Γ1) :
    WE K (tSortKey K fa (toSp K s) te) δ Γ Φ := fun σ F H Θ en gm Q q =>
  h σ F H Θ en gm _ fun v H1 ⟨F1, av, Γ1, s1, g1, r1, xs, ks, hl, hlen, hal, hfl, hf, hk⟩ => by
    obtain ⟨p, vs, rfl, e1, q1⟩ := hl.get g1 r1
    refine ⟨p, vs, ks, fun H2 => ∃ F2, Same F1 F2 ∧ Gm K F2 H2 (Γ1 ++ Θ), rfl, rfl, e1, ⟨F1, Same.refl _, g1⟩, hlen.trans (Rps.length q1).symm, hal, hfl, sortKey_turn g1 q1 hf, ?_⟩
    rintro H2 a ⟨F2, s2, g2⟩ ha
    obtain ⟨s3, g3⟩ := g2.froz (o := .lst (sortK vs ks)) ha
    exact q _ _ ⟨_, _, Γ1, (s1.trans s2).trans s3, g3, .lst upd_same (Rps.mono (s2.trans s3) _ _ (each_rps (sortK_each (rps_each q1)))), hk⟩
theorem we_sortKeyL (h : WE K te δ Γ fun x Γ1 => ∃ xs ks, LsR Γ1 x xs ∧ ks.length = xs.length ∧ PySem.W.AllAlike ks ∧ ((∀ k ∈ ks, ∃ i, k = .int i) ∨ ∀ k ∈ ks, ∃ x, k = .str x) ∧ (∀ (i : Nat) y k, xs[i]? = some y → ks[i]? = some k → s [y] [] fun v Γ' => KAv v k ∧ Γ' = []) ∧ ∀ p, Φ (.ptr p) ((p, .lst (sortK xs ks)) :: Γ1)) :
    WE K (tSortKey K fa (toSp K s) te) δ Γ Φ := fun σ F H Θ en gm Q q =>
  h σ F H Θ en gm _ fun v H1 ⟨F1, av, Γ1, s1, g1, r1, xs, ks, hl, hlen, hal, hfl, hf, hk⟩ => by
    obtain ⟨p, vs, rfl, e1, q1⟩ := hl.get g1 r1
    refine ⟨p, vs, ks, fun H2 => ∃ F2, Same F1 F2 ∧ Gm K F2 H2 (Γ1 ++ Θ), rfl, rfl, e1, ⟨F1, Same.refl _, g1⟩, hlen.trans (Rps.length q1).symm, hal, hfl, sortKey_turn g1 q1 hf, ?_⟩
    rintro H2 a ⟨F2, s2, g2⟩ ha
    exact q _ _ ⟨_, _, _, s1.trans s2, g2.new ha (.lst (Rps.mono s2 _ _ (each_rps (sortK_each (rps_each q1))))), .ptr a, hk a⟩
end
end Ab

namespace Ab
open PySem L2 PyProof.Rows

/-! ### a value's truth -/
inductive TrA (Γ : Gam) : AV → Bool → Prop
  | non : TrA Γ .non false
  | bl (b : Bool) : TrA Γ (.bl b) b
  | int (i : Int) : TrA Γ (.int i) (i != 0)
  | str {s : Str} : s.length ≤ sizeLine → TrA Γ (.str s) ((s.length : Int) != 0)
  | seq {x : AV} {xs : List AV} : SeA Γ x xs → TrA Γ x (!xs.isEmpty)
  | dic {x : AV} {n : Nat} {kvs : List (Key × AV)} : DkA Γ n x kvs → TrA Γ x (!kvs.isEmpty)
theorem rps_emp {K : PySem.W.Frag} {F : Hp} {vs : List V} {xs : List AV} (r : Rps K F vs xs) : vs.isEmpty = xs.isEmpty := by cases r <;> rfl
section
variable {K : PySem.W.Frag} {δ : Del} {Γ : Gam} {Φ : AV → Gam → Prop} {Ψ : Bool → Gam → Prop} {te ta tb : TE} {x : AV} {k : Bool}
theorem TrA.v {F H : Hp} {Θ : Gam} {v : V} (h : TrA Γ x k) (gm : Gm K F H (Γ ++ Θ)) (r : Rp K F v x) : TruV K v H k := by
  cases h with
  | non => cases r; rfl
  | bl b => cases r; rfl
  | int i => cases r; rfl
  | str hl => cases r; exact ⟨hl, rfl⟩
  | seq h =>
    obtain ⟨q, vs, rfl, hs, q1⟩ := h.get gm r
    rw [← rps_emp q1]
    rcases hs with hs | hs
    · exact .inl ⟨vs, hs, rfl⟩
    · exact .inr (.inl ⟨vs, hs, rfl⟩)
  | dic h =>
    obtain ⟨p, vs, _, rfl, _, e, rk⟩ := h.get gm r
    refine .inr (.inr ⟨vs, e, ?_⟩)
    cases rk <;> rfl
def tTr (K : PySem.W.Frag) (ta : TE) : TT := fun σ H Q => ta σ H fun x H' => ∃ k, TruV K x H' k ∧ Q k H'
theorem pt_tr {X : Cx} {a : Expr} (ha : PE X a ta) (he : ∀ whole, isTrue a X.env whole = (do let v ← whole; standAt a.pos; holding [v] (truthy v))) : PT X a (tTr X.K ta) := pt_truth ha he
theorem wt_tr (h : WE K ta δ Γ fun x Γ1 => ∃ k, TrA Γ1 x k ∧ Ψ k Γ1) : WT K (tTr K ta) δ Γ Ψ := fun σ F H Θ en gm Q q =>
  h σ F H Θ en gm _ fun v H1 ⟨F1, av, Γ1, s1, g1, r1, k, ht, hk⟩ => ⟨k, ht.v g1 r1, q k H1 ⟨F1, Γ1, s1, g1, hk⟩⟩
theorem we_orT (h : WE K ta δ Γ fun x Γ1 => ∃ k, TrA Γ1 x k ∧ (k = true → Φ x Γ1) ∧ (k = false → WE K tb δ Γ1 Φ)) : WE K (tOrT K ta tb) δ Γ Φ := fun σ F H Θ en gm Q q =>
  h σ F H Θ en gm _ fun v H1 ⟨F1, av, Γ1, s1, g1, r1, k, ht, h1, h2⟩ => by
    refine ⟨k, ht.v g1 r1, ?_⟩
    cases k with
    | true => rw [if_pos rfl]; exact q v H1 ⟨F1, av, Γ1, s1, g1, r1, h1 rfl⟩
    | false => rw [if_neg Bool.false_ne_true]; exact h2 rfl σ F1 H1 Θ (en.mono s1) g1 Q fun b H2 p => q b H2 (p.back s1)
theorem we_andT (h : WE K ta δ Γ fun x Γ1 => ∃ k, TrA Γ1 x k ∧ (k = true → WE K tb δ Γ1 Φ) ∧ (k = false → Φ x Γ1)) : WE K (tAndT K ta tb) δ Γ Φ := fun σ F H Θ en gm Q q =>
  h σ F H Θ en gm _ fun v H1 ⟨F1, av, Γ1, s1, g1, r1, k, ht, h1, h2⟩ => by
    refine ⟨k, ht.v g1 r1, ?_⟩
    cases k with
    | false => rw [if_neg Bool.false_ne_true]; exact q v H1 ⟨F1, av, Γ1, s1, g1, r1, h2 rfl⟩
    | true => rw [if_pos rfl]; exact h1 rfl σ F1 H1 Θ (en.mono s1) g1 Q fun b H2 p => q b H2 (p.back s1)
theorem we_notT (h : WE K ta δ Γ fun x Γ1 => ∃ k, TrA Γ1 x k ∧ Φ (.bl (!k)) Γ1) : WE K (tNotT K ta) δ Γ Φ := fun σ F H Θ en gm Q q =>
  h σ F H Θ en gm _ fun v H1 ⟨F1, av, Γ1, s1, g1, r1, k, ht, h1⟩ => ⟨k, ht.v g1 r1, q _ H1 ⟨F1, _, Γ1, s1, g1, .bl _, h1⟩⟩
theorem trS {s : Str} {A B : Prop} (hl : s.length ≤ sizeLine) (h1 : s.length ≠ 0 → A) (h2 : s.length = 0 → B) : ∃ k, TrA Γ (.str s) k ∧ (k = true → A) ∧ (k = false → B) :=
  ⟨_, .str hl, fun z => h1 (by simpa using z), fun z => h2 (by simpa using z)⟩
theorem trL {xs : List AV} {A B : Prop} (hl : SeA Γ x xs) (h1 : xs ≠ [] → A) (h2 : xs = [] → B) : ∃ k, TrA Γ x k ∧ (k = true → A) ∧ (k = false → B) :=
  ⟨_, .seq hl, fun z => h1 (by rintro rfl; simp at z), fun z => h2 (by simpa using z)⟩
/-- the dropped value of a live call -/
def tMutS (ts : TS) : TS := ts
theorem ps_mut {X : Cx} {s : Stmt} {ts : TS} (h : PS X s ts) : PS X s (tMutS ts) := h
end

/-! ### the same reading, otherwise written (within a comprehension) -/
theorem pe_as {X : Cx} {e : Expr} {te te' : TE} (h : PE X e te) (hte : te = te') : PE X e te' := hte ▸ h
theorem pts_as {X : Cx} {es : List Expr} {te te' : TT} (h : PTs X es te) (hte : te = te') : PTs X es te' := hte ▸ h
theorem pg_as {X : Cx} {e : Expr} {te te' : TG} (h : PG X e te) (hte : te = te') : PG X e te' := hte ▸ h
/-! ### texts -/
/-- signs that are signs -/
def Okt (s : Str) : Prop := ∀ c ∈ s.cps.toList, c < 0x110000
theorem Okt.ok {s : Str} (h : Okt s) : PyData.strOk s = true := by
  unfold PyData.strOk
  rw [← Array.all_toList, List.all_eq_true]
  exact fun c hc => decide_eq_true (h c hc)
theorem okt_app {s t : Str} (h : Okt s) (h' : Okt t) : Okt (s ++ t) := fun c hc => by
  have e : (s ++ t).cps.toList = s.cps.toList ++ t.cps.toList := by show (s.cps ++ t.cps).toList = _; simp
  rw [e] at hc
  exact (List.mem_append.mp hc).elim (h c) (h' c)
theorem len_app (s t : Str) : (s ++ t).length = s.length + t.length := by show (s.cps ++ t.cps).size = _; simp [Str.length]
theorem cutS_cps (s : Str) (lo hi : Option Int) : (cutS s lo hi).cps.toList = (s.cps.toList.drop (HT.sIx s.length 0 lo)).take (HT.sIx s.length s.length hi - HT.sIx s.length 0 lo) := by
  simp [cutS]
theorem okt_cut {s : Str} (h : Okt s) (lo hi : Option Int) : Okt (cutS s lo hi) := fun c hc => by
  rw [cutS_cps] at hc
  exact h c (List.mem_of_mem_drop (List.mem_of_mem_take hc))
theorem len_cut (s : Str) (lo hi : Option Int) : (cutS s lo hi).length = min (HT.sIx s.length s.length hi - HT.sIx s.length 0 lo) (s.length - HT.sIx s.length 0 lo) := by
  show (cutS s lo hi).cps.size = _
  rw [← Array.length_toList, cutS_cps, List.length_take, List.length_drop, Array.length_toList]
  rfl
theorem okt_one {c : Nat} (h : c < 0x110000) : Okt ⟨#[c]⟩ := fun d hd => by
  have : d = c := by simpa using hd
  rw [this]; exact h
theorem len_cps (s : Str) : s.cps.toList.length = s.length := Array.length_toList
theorem len_ofcps (l : List Nat) : (⟨l.toArray⟩ : Str).length = l.length := by simp [Str.length]
/-- the signs of a text by their places -/
theorem atI_some {α : Type} {xs : List α} {v : Int} (h0 : 0 ≤ v) (h1 : v < xs.length) : ∃ c, atI xs v = some c ∧ xs[v.toNat]? = some c ∧ c ∈ xs := by
  obtain ⟨n, rfl⟩ : ∃ n : Nat, v = n := ⟨v.toNat, by omega⟩
  have hlt : n < xs.length := by omega
  have e : xs[n]? = some xs[n] := List.getElem?_eq_getElem hlt
  exact ⟨_, atI_nat e, by rw [Int.toNat_natCast]; exact e, List.getElem_mem hlt⟩
theorem join_nil_okt : ∀ {ss : List Str}, (∀ s ∈ ss, Okt s) → Okt (Str.join Str.empty ss)
  | [], _ => fun c hc => by simp [Str.join, Str.empty] at hc
  | [x], h => h x (by simp)
  | x :: y :: r, h => by
    show Okt (x ++ Str.empty ++ Str.join Str.empty (y :: r))
    exact okt_app (okt_app (h x (by simp)) fun c hc => by simp [Str.empty] at hc) (join_nil_okt fun s hs => h s (List.mem_cons_of_mem _ hs))
theorem join_nil_len : ∀ (ss : List Str), (Str.join Str.empty ss).length = (ss.map (·.length)).sum
  | [] => rfl
  | [x] => by simp [Str.join]
  | x :: y :: r => by
    show (x ++ Str.empty ++ Str.join Str.empty (y :: r)).length = _
    rw [len_app, len_app, join_nil_len (y :: r)]
    simp [Str.empty, Str.length]

/-! ### bags -/
/-- a bag that was drawn of at most n times by stirring -/
def BagO (n : Nat) (o : AO) : Prop := ∃ x y z : Int, o = .lst [.int x, .int y, .int z] ∧ 0 ≤ x ∧ 0 ≤ y ∧ y < 2 ^ 140 ∧ 0 ≤ z ∧ z ≤ n
theorem BagO.mono {n m : Nat} {o : AO} (h : BagO n o) (hm : n ≤ m) : BagO m o := let ⟨x, y, z, e, a, b, c, d, f⟩ := h; ⟨x, y, z, e, a, b, c, d, by omega⟩
def spCell : ASp := fun avs objs Φ => ∃ (ns : List Int) (k : Nat), avs = [.rol (ns.map AV.int), .int (k : Int)] ∧ objs = [] ∧ ns.length ≤ 63 ∧ ∀ z : Int, Φ (.int z) []
def spBag : ASp := fun avs objs Φ => ∃ z : Int, avs = [.int z] ∧ objs = [] ∧ ∀ p o, BagO 0 o → Φ (.ptr p) [(p, o)]
def spDraw : ASp := fun avs objs Φ => ∃ (b : Addr) (o : AO) (n : Nat) (many : Int), avs = [.ptr b, .int many] ∧ objs = [(b, o)] ∧ BagO n o ∧ n ≤ 2 ^ 60 ∧ 0 < many ∧ many < 10 ^ 120 ∧ ∀ v o', 0 ≤ v → v < many → BagO (n + 1) o' → Φ (.int v) [(b, o')]
section
variable {K : PySem.W.Frag} {δ : Del} {Γ : Gam} {Φ : AV → Gam → Prop} {t : TA} {E : XK}
/-- a draw; the bag stands anywhere -/
theorem we_draw (h : WA K t δ Γ fun avs Γ1 => ∃ (b : Addr) (o : AO) (i n : Nat) (many : Int), avs = [.ptr b, .int many] ∧ Γ1[i]? = some (b, o) ∧ BagO n o ∧ n ≤ 2 ^ 60 ∧ 0 < many ∧ many < 10 ^ 100 ∧ ∀ v o', 0 ≤ v ∧ v < many → BagO (n + 1) o' → ∃ Γ', Γ1.set i (b, o') = Γ' ∧ Φ (.int v) Γ') :
    WE K (tCall (toSp K spDraw) [] E t) δ Γ Φ := we_call fun σ F H Θ en gm Q q => h σ F H Θ en gm Q fun vs H1 ⟨F1, as, Γ1, s1, g1, r1, b, o, i, n, many, e, hi, hb, hn, h0, h1, k⟩ =>
  q vs H1 ⟨F1, as, Γ1, s1, g1, r1, [(b, o)], Γ1.eraseIdx i, erase_perm hi, b, o, n, many, e, rfl, hb, hn, h0, Int.lt_trans h1 (by decide), fun v o' a c d => by
    obtain ⟨Γ', e, k⟩ := k v o' ⟨a, c⟩ d
    exact ⟨Γ', pm1 (news := []) hi e, k⟩⟩
end
end Ab

namespace Ab
open PySem L2 PyProof.Rows

/-! ### dicts by texts -/
theorem putA_keys {kvs : List (Key × AV)} {ks : List Str} (h : kvs.map (·.1) = ks.map Sum.inr) (s : Str) (v : AV) :
    (putA kvs (Sum.inr s) v).map (·.1) = (if s ∈ ks then ks else ks ++ [s]).map Sum.inr := by
  have hany : (kvs.any fun kv => decide (kv.1 = Sum.inr s)) = decide (s ∈ ks) := by
    have e : (kvs.any fun kv => decide (kv.1 = Sum.inr s)) = (kvs.map (·.1)).any fun k => decide (k = Sum.inr s) := by rw [List.any_map]; rfl
    rw [e, h, List.any_map]
    apply Bool.eq_iff_iff.mpr
    rw [List.any_eq_true, decide_eq_true_eq]
    constructor
    · rintro ⟨x, hx, e⟩
      have : x = s := by simpa using e
      exact this ▸ hx
    · intro hs
      exact ⟨s, hs, by simp⟩
  unfold putA
  rw [hany]
  by_cases hs : s ∈ ks
  · rw [if_pos (decide_eq_true hs), if_pos hs, List.map_map, ← h]
    apply List.map_congr_left
    intro kv _
    show (if kv.1 = Sum.inr s then (kv.1, v) else kv).1 = kv.1
    split <;> rfl
  · rw [if_neg (by simpa using hs), if_neg hs, List.map_append, h, List.map_append]; rfl
section
variable {K : PySem.W.Frag} {Γ : Gam} {z : AV} {Ψ : Gam → Prop}
/-- d[text] = z -/
theorem wset_S {j : Nat} {p : Addr} {kvs : List (Key × AV)} {ks : List Str} {s : Str} (h : Γ[j]? = some (p, .dK kvs)) (hk : kvs.map (·.1) = ks.map Sum.inr) (hl : ks.length < sizeLine)
    (k : ∀ kvs', kvs'.map (·.1) = (if s ∈ ks then ks else ks ++ [s]).map Sum.inr → ∃ Γ', Γ.set j (p, .dK kvs') = Γ' ∧ Ψ Γ') : WSet K rSetA (.ptr p) (.str s) z Γ Ψ := by
  obtain ⟨Γ', e, kk⟩ := k _ (putA_keys hk s z)
  refine wset_D (.k h (k := Sum.inr s) rfl ?_ e) kk
  have := congrArg List.length hk
  rw [List.length_map, List.length_map] at this
  omega
end
theorem ins_mem {ks : List Str} {s x : Str} (h : x ∈ (if s ∈ ks then ks else ks ++ [s])) : x ∈ ks ∨ x = s := by
  split at h
  · exact .inl h
  · rcases List.mem_append.mp h with h | h
    · exact .inl h
    · exact .inr (List.mem_singleton.mp h)
theorem ins_len (ks : List Str) (s : Str) : (if s ∈ ks then ks else ks ++ [s]).length ≤ ks.length + 1 := by
  split
  · omega
  · simp
theorem ins_nodup {ks : List Str} {s : Str} (h : ks.Nodup) : (if s ∈ ks then ks else ks ++ [s]).Nodup := by
  split
  · exact h
  · rename_i hs
    exact List.nodup_append.mpr ⟨h, by simp, fun a ha b hb e => by
      rw [List.mem_singleton.mp hb] at e
      exact hs (e ▸ ha)⟩

/-! ### kept rows -/
structure Rw where
  no : Int
  nm : Str
  pl : Int
  ln : Option Int
  rc : Int
  le : List Str
def optA : Option Int → AV
  | none => .non
  | some i => .int i
def optD : Option Int → PyData
  | none => .none
  | some i => .int i
abbrev leA (ls : List Str) : AV := .lst (ls.map AV.str)
def leD (ls : List Str) : PyData := .list (ls.map PyData.str)
abbrev rowW (r : Rw) (x : AV) : AV := .tup [.int r.no, .str r.nm, .int r.pl, optA r.ln, .int r.rc, x]
abbrev rowA (r : Rw) : AV := rowW r (leA r.le)
def rowD (r : Rw) : PyData := .tuple [.int r.no, .str r.nm, .int r.pl, optD r.ln, .int r.rc, leD r.le]
def RwOk (r : Rw) : Prop := Okt r.nm ∧ (∀ s ∈ r.le, Okt s) ∧ r.le.length ≤ 64
theorem optA_dn (Γ : Gam) (o : Option Int) : Dn Γ (optA o) (optD o) := by
  cases o
  · exact .non
  · exact .int _
theorem strs_dn (Γ : Gam) : ∀ ls : List Str, Dns Γ (ls.map AV.str) (ls.map PyData.str)
  | [] => .nil
  | x :: r => .cons (.str x) (strs_dn Γ r)
theorem rowW_dn {Γ : Gam} {r : Rw} {x : AV} (h : Dn Γ x (leD r.le)) : Dn Γ (rowW r x) (rowD r) :=
  .tup (.cons (.int _) (.cons (.str _) (.cons (.int _) (.cons (optA_dn Γ _) (.cons (.int _) (.cons h .nil))))))
theorem rowA_dn (Γ : Gam) (r : Rw) : Dn Γ (rowA r) (rowD r) := rowW_dn (.lst (strs_dn Γ _))
theorem rows_dn (Γ : Gam) : ∀ rs : List Rw, Dns Γ (rs.map rowA) (rs.map rowD)
  | [] => .nil
  | x :: r => .cons (rowA_dn Γ x) (rows_dn Γ r)
theorem lay_strs : ∀ {ls : List Str}, (∀ s ∈ ls, Okt s) → PyData.canLayAll0 (ls.map PyData.str) = true
  | [], _ => rfl
  | x :: r, h => by
    rw [List.map_cons, PyData.canLayAll0, lay_strs fun s hs => h s (List.mem_cons_of_mem _ hs), Bool.and_true]
    exact (h x (by simp)).ok
theorem depth_strs : ∀ ls : List Str, PyData.depthAll (ls.map PyData.str) = 0
  | [] => rfl
  | x :: r => by rw [List.map_cons, PyData.depthAll, depth_strs r]; rfl
theorem optD_lay (o : Option Int) : PyData.canLay0 (optD o) = true := by cases o <;> rfl
theorem optD_depth (o : Option Int) : PyData.depth (optD o) = 0 := by cases o <;> rfl
theorem rowD_lay {r : Rw} (h : RwOk r) : PyData.canLay0 (rowD r) = true := by
  have h1 : PyData.strOk r.nm = true := h.1.ok
  have h2 := lay_strs h.2.1
  simp [rowD, leD, PyData.canLay0, PyData.canLayAll0, optD_lay, h1, h2]
theorem rowD_depth (r : Rw) : PyData.depth (rowD r) = 2 := by
  simp [rowD, leD, PyData.depth, PyData.depthAll, optD_depth, depth_strs]
theorem rowsD_lay : ∀ {rs : List Rw}, (∀ r ∈ rs, RwOk r) → PyData.canLayAll0 (rs.map rowD) = true
  | [], _ => rfl
  | x :: r, h => by rw [List.map_cons, PyData.canLayAll0, rowsD_lay fun s hs => h s (List.mem_cons_of_mem _ hs), rowD_lay (h x (by simp))]; rfl
theorem rowsD_depth : ∀ rs : List Rw, PyData.depthAll (rs.map rowD) ≤ 2
  | [] => by simp [PyData.depthAll]
  | x :: r => by rw [List.map_cons, PyData.depthAll, rowD_depth]; have := rowsD_depth r; omega
theorem rows_shaped {rs : List Rw} (h : ∀ r ∈ rs, RwOk r) : SeqAt.shaped (.list (rs.map rowD)) = true := by
  unfold SeqAt.shaped
  rw [show PyData.canLay0 (.list (rs.map rowD)) = PyData.canLayAll0 (rs.map rowD) from rfl, rowsD_lay h, Bool.true_and]
  have := rowsD_depth rs
  exact decide_eq_true (by rw [show PyData.depth (.list (rs.map rowD)) = PyData.depthAll (rs.map rowD) + 1 by rw [PyData.depth]]; omega)
theorem les_shaped {rs : List Rw} (h : ∀ r ∈ rs, RwOk r) : SeqAt.shaped (.list (rs.map fun r => leD r.le)) = true := by
  have a : ∀ rs : List Rw, (∀ r ∈ rs, RwOk r) → PyData.canLayAll0 (rs.map fun r => leD r.le) = true ∧ PyData.depthAll (rs.map fun r => leD r.le) ≤ 1 := by
    intro rs
    induction rs with
    | nil => intro _; exact ⟨rfl, by simp [PyData.depthAll]⟩
    | cons x r ih =>
      intro h
      obtain ⟨i1, i2⟩ := ih fun s hs => h s (List.mem_cons_of_mem _ hs)
      have h2 := lay_strs (h x (by simp)).2.1
      refine ⟨by rw [List.map_cons, PyData.canLayAll0, i1, Bool.and_true]; exact h2, ?_⟩
      rw [List.map_cons, PyData.depthAll]
      have : PyData.depth (leD x.le) = 1 := by simp [leD, PyData.depth, depth_strs]
      omega
  obtain ⟨a1, a2⟩ := a rs h
  unfold SeqAt.shaped
  rw [show PyData.canLay0 (.list (rs.map fun r => leD r.le)) = PyData.canLayAll0 (rs.map fun r => leD r.le) from rfl, a1, Bool.true_and]
  exact decide_eq_true (by rw [show PyData.depth (.list (rs.map fun r => leD r.le)) = PyData.depthAll (rs.map fun r => leD r.le) + 1 by rw [PyData.depth]]; omega)
theorem ln_pick {w : Int} (h : 0 ≤ w ∧ w < 2) (v : Int) : ∃ ln : Option Int, atI [AV.non, .int v] w = some (optA ln) := by
  obtain rfl | rfl : w = 0 ∨ w = 1 := by omega
  · exact ⟨none, rfl⟩
  · exact ⟨some v, rfl⟩
theorem nm_at {ns : List Str} {v : Int} (h0 : 0 ≤ v) (h1 : v < ns.length) : ∃ s, atI (ns.map AV.str) v = some (.str s) ∧ s ∈ ns ∧ ns[v.toNat]? = some s := by
  obtain ⟨c, e, e2, hm⟩ := atI_some (xs := ns) h0 h1
  refine ⟨c, ?_, hm, e2⟩
  obtain ⟨n, rfl⟩ : ∃ n : Nat, v = n := ⟨v.toNat, by omega⟩
  refine atI_nat ?_
  rw [List.getElem?_map]
  rw [Int.toNat_natCast] at e2
  rw [e2]; rfl
end Ab

namespace Ab
open PySem L2 PyProof.Rows

/-- (a, b, ..) = a tuple, a list of that length -/
def gSq (K : PySem.W.Frag) (n : Nat) (t : TGs) : TG := fun v σ H Q => gTup K n t v σ H Q ∨ gLst K n t v σ H Q
theorem pg_sq {X : Cx} {pos : Pos} {es : List Expr} {k : Nat} {t : TGs} {n : Nat} (hc : X.calm = true) (h : PGs X es t)
    (hn : (assignEach es X.env).length = n := by rfl) (hst : (assignEach es X.env).findIdx? (·.1) = none := by rfl) : PG X (.Tuple es k pos) (gSq X.K n t) :=
  ⟨fun pins s σ H v u Q I r hw => by
    rcases hw with hw | hw
    · exact (pg_tup hc h hn hst).run pins s σ H v u Q I r hw
    · exact (pg_lst hc h hn hst).run pins s σ H v u Q I r hw⟩
section
variable {K : PySem.W.Frag} {δ : Del} {Γ : Gam} {Φ : AV → Gam → Prop} {te : TE} {tt : TT} {wi : TI} {g : TG} {x : AV}
theorem wg_sqT {n : Nat} {t : TGs} {as : List AV} {Ψ : Del → Gam → Prop} (hl : as.length = n) (h : WGs K t as δ Γ Ψ) : WG K (gSq K n t) (.tup as) δ Γ Ψ := fun v σ F H Θ r en gm Q q => .inl (wg_tup hl h v σ F H Θ r en gm Q q)
theorem wg_sqL {n : Nat} {t : TGs} {as : List AV} {Ψ : Del → Gam → Prop} (hx : LsR Γ x as) (hl : as.length = n) (h : WGs K t as δ Γ Ψ) : WG K (gSq K n t) x δ Γ Ψ := fun v σ F H Θ r en gm Q q => by
  obtain ⟨p, vs, rfl, e1, q1⟩ := hx.get gm r
  exact .inr ⟨_, _, rfl, e1, q1.length.trans hl, h _ σ F H Θ q1 en gm Q q⟩
theorem own_sq {n : Nat} {u : TGs} {vs : List Nat} (h : OwnGs u vs) : OwnG (gSq K n u) vs := fun v σ H Q Q' q k => by
  rcases q with ⟨a, xs, e, hs, hl, q⟩ | ⟨a, xs, e, hs, hl, q⟩
  · exact .inl ⟨a, xs, e, hs, hl, h xs σ H Q Q' q k⟩
  · exact .inr ⟨a, xs, e, hs, hl, h xs σ H Q Q' q k⟩
/-- a comprehension that leaves the objects: what each item gives, or that it is left out -/
theorem lcF {α : Type} {as : List α} {e : α → AV} {f : α → Option AV} {G : Gam → Prop} {vs : List Nat} {Φ : List AV → Gam → Prop} (hl : as.length ≤ sizeLine) (hG : G Γ)
    (step : ∀ (i : Nat) a, as[i]? = some a → WG K g (e a) (wipeA δ vs) Γ fun δ2 Γ2 => WT K tt δ2 Γ2 fun b Γ3 => (b = true → WE K te δ2 Γ3 fun y Γ4 => Γ4 = Γ ∧ f a = some y) ∧ (b = false → Γ3 = Γ ∧ f a = none)) (k : Φ (as.filterMap f) Γ) :
    ∃ P : Nat → List AV → Gam → Prop, P 0 [] Γ ∧ (∀ i acc Γ', P i acc Γ' → G Γ') ∧
    (∀ i d acc Γ', (as.map e)[i]? = some d → P i acc Γ' → WG K g d (wipeA δ vs) Γ' fun δ2 Γ2 => WT K tt δ2 Γ2 fun b Γ3 => (b = true → WE K te δ2 Γ3 fun y Γ4 => acc.length < sizeLine ∧ P (i + 1) (acc ++ [y]) Γ4) ∧ (b = false → P (i + 1) acc Γ3)) ∧
    ∀ acc Γ', P (as.map e).length acc Γ' → Φ acc Γ' := by
  refine ⟨fun i acc Γ' => i ≤ as.length ∧ acc = (as.take i).filterMap f ∧ Γ' = Γ, ⟨Nat.zero_le _, rfl, rfl⟩, fun i acc Γ' h => by rw [h.2.2]; exact hG, ?_, ?_⟩
  · rintro i d acc Γ' hd ⟨hi, rfl, rfl⟩
    rw [List.getElem?_map] at hd
    cases ha : as[i]? with
    | none => rw [ha] at hd; cases hd
    | some a =>
      rw [ha] at hd
      cases hd
      have hlt : i < as.length := (List.getElem?_eq_some_iff.mp ha).1
      have et : as.take (i + 1) = as.take i ++ [a] := by rw [List.take_add_one, ha]; rfl
      have hlen : ((as.take i).filterMap f).length ≤ i := Nat.le_trans (List.length_filterMap_le _ _) (by rw [List.length_take]; omega)
      intro v σ F H Θ r en gm Q q
      refine step i a ha v σ F H Θ r en gm Q fun σ' H' p => q σ' H' (p.imp fun δ2 Γ2 h => ?_)
      refine wt_mono h fun b Γ3 hb => ⟨fun hb' => we_mono (hb.1 hb') fun y Γ4 hy => ?_, fun hb' => ?_⟩
      · exact ⟨by omega, hlt, by rw [et, List.filterMap_append, List.filterMap_cons, hy.2]; rfl, hy.1⟩
      · have := hb.2 hb'
        exact ⟨hlt, by rw [et, List.filterMap_append, List.filterMap_cons, this.2]; simp, this.1⟩
  · rintro acc Γ' ⟨hi, rfl, rfl⟩
    rw [List.length_map, List.take_length]
    exact k
end
end Ab

namespace Ab
open PySem L2 PyProof.Rows

theorem atI0 {α : Type} {x : α} {xs : List α} : atI (x :: xs) 0 = some x := by
  unfold atI
  rw [List.length_cons, ixn0]; rfl
theorem sortK_map {α β : Type} (f : α → β) (xs : List α) (ks : List PyData) : (sortK xs ks).map f = sortK (xs.map f) ks := by
  have a : ∀ l : List α, PySem.W.EachIs (fun a b => f a = b) l (l.map f) := by
    intro l
    induction l with
    | nil => exact .nil
    | cons x r ih => exact .cons rfl ih
  have h := sortK_each (ks := ks) (a xs)
  have b : ∀ {l : List α} {m : List β}, PySem.W.EachIs (fun a b => f a = b) l m → l.map f = m := by
    intro l m h
    induction h with
    | nil => rfl
    | cons e _ ih => rw [List.map_cons, e, ih]
  exact b h
theorem sortK_perm {α : Type} {xs : List α} {ks : List PyData} (h : ks.length = xs.length) : (sortK xs ks).Perm xs := by
  unfold sortK
  have := (List.mergeSort_perm (xs.zip ks) (PySem.W.dataLe false Prod.snd)).map Prod.fst
  rw [List.map_fst_zip (by omega)] at this
  exact this
theorem toks_int (i : Int) : PySem.W.keyToks (.int i) = [Sum.inl i] := by simp [PySem.W.keyToks]
theorem alike_ints (l : List Int) : PySem.W.AllAlike (l.map PyData.int) := fun d hd d' hd' => by
  obtain ⟨i, _, rfl⟩ := List.mem_map.mp hd
  obtain ⟨j, _, rfl⟩ := List.mem_map.mp hd'
  rfl
theorem toks_nodup {l : List Int} (h : l.Nodup) : ((l.map PyData.int).map PySem.W.keyToks).Nodup := by
  rw [List.map_map]
  refine List.Pairwise.map _ (fun a b hab e => hab ?_) h
  simp only [Function.comp_apply, toks_int] at e
  simpa using e
theorem flat_ints (l : List Int) : (∀ f ∈ l.map PyData.int, ∃ i, f = .int i) ∨ ∀ f ∈ l.map PyData.int, ∃ x, f = .str x := .inl fun f hf => by
  obtain ⟨i, _, rfl⟩ := List.mem_map.mp hf
  exact ⟨i, rfl⟩

section
variable {K : PySem.W.Frag} {δ : Del} {Γ : Gam} {te : TE} {g : TG} {n b c : Del → Gam → Prop} {r : AV → Gam → Prop}
theorem sn_cut {ts : TS} (J : Del → Gam → Prop) (h : WS K ts ⟨J, r, b, c⟩ δ Γ) (k : ∀ δ' Γ', J δ' Γ' → n δ' Γ') : WS K ts ⟨n, r, b, c⟩ δ Γ := ws_mono h k (fun _ _ z => z) (fun _ _ z => z) fun _ _ z => z
theorem sn_par2 {i j : Nat} {ta tb : TE} (h : WE K ta δ Γ fun x Γ1 => WE K tb δ Γ1 fun y Γ2 => n ((δ.set i (some x)).set j (some y)) Γ2) : WS K (tPar i j (tCons ta (tCons tb tNil))) ⟨n, r, b, c⟩ δ Γ :=
  sn_par (wa_cons (we_mono h fun x Γ1 h1 => wa_cons (we_mono h1 fun y Γ2 h2 => wa_nil ⟨_, _, rfl, h2⟩)))
theorem sn_asgM (h : WE K (tMut te) δ Γ fun x Γ1 => WG K g x δ Γ1 n) : WS K (tMutS (tAsg te g)) ⟨n, r, b, c⟩ δ Γ := ws_asg h
end
section
variable {K : PySem.W.Frag} {δ : Del} {Γ : Gam} {te : TE} {x : AV} {xs : List AV} {Φ : AV → Gam → Prop} {fa : Addr} {s : ASp}
theorem wcm_list (h : SeA Γ x xs) (k : ∀ p, Φ (.ptr p) ((p, .lst xs) :: Γ)) : WCM K (rListA K) [x] Γ Φ := wc_listLL h k
theorem wcm_sorted {ks : List PyData} (h : LsR Γ x xs) (kv : KeysA Γ xs ks) (k : ∀ p, Φ (.ptr p) ((p, .lst (sortK xs ks)) :: Γ)) : WCM K (rSortB K) [x] Γ Φ := wc_sortedL h kv k
theorem we_mutSortKey (h : WE K te δ Γ fun x Γ1 => ∃ xs ks, LsR Γ1 x xs ∧ ks.length = xs.length ∧ PySem.W.AllAlike ks ∧ ((∀ k ∈ ks, ∃ i, k = .int i) ∨ ∀ k ∈ ks, ∃ x, k = .str x) ∧ (∀ (i : Nat) y k, xs[i]? = some y → ks[i]? = some k → s [y] [] fun v Γ' => KAv v k ∧ Γ' = []) ∧ ∀ p, Φ (.ptr p) ((p, .lst (sortK xs ks)) :: Γ1)) :
    WE K (tMut (tSortKey K fa (toSp K s) te)) δ Γ Φ := we_sortKeyL h
end
theorem optA_tn (Γ : Gam) (o : Option Int) : ∃ T, TnA Γ (optA o) T ∧ kitB T "bool" = some false := by
  cases o
  · exact ⟨_, .non, rfl⟩
  · exact ⟨_, .int _, rfl⟩
/-- the law keeps its promise, over every ground -/
structure OkU (P : Program) (w : World) (K : PySem.W.Frag) (mg : Str → Option Value) (k : Nat) (x : Str) (ps : List Str) (sp : Sp) : Prop where
  ex : ∃ fd, (∀ base : Heap, FnOk P w K mg base CX0 k (He.ga K x) fd ps sp) ∧ ∀ (s : Shared) (us : List Value), us.length = ps.length → BindsTo s fd ⟨us, []⟩ (ps.zip us)
theorem OkU.of {P : Program} {w : World} {K : PySem.W.Frag} {mg : Str → Option Value} {x : Str} {pa : Arguments} {bd : List Stmt} {sc : Scope} {fd : FuncData} {N ps : List Str} {k : Nat} {s : ASp} (F : FunD K x x pa bd sc [] [] (He.ga K x) fd) (_g : mg x = some (.ref (He.ga K x))) (S : FnScope N ps sc)
    (hb : ∀ (kV doc pm : Value) (an : Option Addr) (cdv ct : Value) (us : List Value), us.length = ps.length → bindArgs (PySem.W.fnOf x x pa bd sc .none kV doc pm an cdv ct) ⟨us, []⟩ = pure (ps.zip us))
    (len : ∀ avs objs Φ, s avs objs Φ → avs.length = ps.length)
    (body : ∀ (base : Heap) (cdv : Value) (A : Around) (outer : List Env) (st : Shared) (H : Hp) (E : XK), Room k (A.deeper (envOfC x sc st.heap.objs.size (He.ga K x) cdv)) →
      ∃ t, PSs (cxOf CX0 P w K mg base N x sc (He.ga K x) cdv A outer st H E).nox bd t ∧ ∀ avs objs Φ, s avs objs Φ → WS K t { nx := fun _ Γ => Φ .non Γ, rt := Φ } (startA N avs) objs) : OkU P w K mg (k + 1) x ps (toSp K s) where
  ex := ⟨fd, fun base => F.ok S (toSp_len len) fun cdv A outer st H vs Q E hr h => by
    obtain ⟨t, h1, h2⟩ := body base cdv A outer st H E hr
    exact ⟨t, h1.nox, run_body h h2⟩, fun s us hl => F.bindsA hb s us hl⟩
theorem rps_ints {K : PySem.W.Frag} {F : Hp} : ∀ ns : List Int, Rps K F (ns.map V.int) (ns.map AV.int)
  | [] => .nil
  | n :: r => .cons (.int n) (rps_ints r)
theorem law_start {K : PySem.W.Frag} {H : Hp} {a : Addr} {ns : List Int} {s : ASp} {E : XK} (_hl : ns.length ≤ 63) (_hO : Only H) (hS : SqL K H a (ns.map V.int)) (h : ∀ Φ : AV → Gam → Prop, Φ (.bl true) [] → s [.rol (ns.map AV.int)] [] Φ) : toSp K s [.ref a] H (fun v _ => v = .bl true) E :=
  ⟨H, [.rol (ns.map AV.int)], [], [], fun v _ => v = .bl true, ⟨Same.refl H, fun _ _ e => e, List.nodup_nil, fun _ _ h => by cases h⟩, .cons (.rol hS (rps_ints ns)) .nil, h _ rfl, fun v H' ⟨_, _, _, _, _, r, e⟩ => by subst e; cases r; rfl⟩
/-! ### rows with lists of their own -/
abbrev zA (z : Rw × Addr) : AV := rowW z.1 (.ptr z.2)
def zO (z : Rw × Addr) : Addr × AO := (z.2, .lst (z.1.le.map AV.str))
theorem zA_dn {Γ : Gam} {z : Rw × Addr} (h : zO z ∈ Γ) : Dn Γ (zA z) (rowD z.1) := rowW_dn (.live h (strs_dn Γ _))
theorem zs_dn {Γ : Gam} : ∀ {zs : List (Rw × Addr)}, (∀ z ∈ zs, zO z ∈ Γ) → Dns Γ (zs.map zA) ((zs.map (·.1)).map rowD)
  | [], _ => .nil
  | z :: r, h => .cons (zA_dn (h z (by simp))) (zs_dn fun x hx => h x (List.mem_cons_of_mem _ hx))
theorem eqv_same {d : PyData} (h : SeqAt.shaped d = true) : PyData.eqv d d = true := SeqAt.eqv_refl d (by
  unfold SeqAt.shaped at h
  rw [Bool.and_eq_true] at h
  exact h.1)
/-- [one for one in l if one == name] == [] -/
theorem eqv_nil_strs (ls : List Str) : PyData.eqv (.list (ls.map PyData.str)) (.list []) = ls.isEmpty := by
  cases ls with
  | nil => simp [PyData.eqv, PyData.eqvAll]
  | cons x r => simp [PyData.eqv, PyData.eqvAll]
theorem shaped_strs {ls : List Str} (h : ∀ s ∈ ls, Okt s) : SeqAt.shaped (.list (ls.map PyData.str)) = true := by
  unfold SeqAt.shaped
  rw [show PyData.canLay0 (.list (ls.map PyData.str)) = PyData.canLayAll0 (ls.map PyData.str) from rfl, lay_strs h, Bool.true_and]
  exact decide_eq_true (by rw [show PyData.depth (.list (ls.map PyData.str)) = PyData.depthAll (ls.map PyData.str) + 1 by rw [PyData.depth], depth_strs]; omega)
/-- the rows that do not lean on a name, by number -/
def keysR (rs : List Rw) : List PyData := (rs.map (·.no)).map PyData.int
def dueR (rs : List Rw) (nm : Str) : List Rw := sortK (rs.filter fun r => !decide (nm ∈ r.le)) (keysR (rs.filter fun r => !decide (nm ∈ r.le)))
theorem keysR_len (rs : List Rw) : (keysR rs).length = rs.length := by simp [keysR]
theorem dueR_mem {rs : List Rw} {nm : Str} {r : Rw} (h : r ∈ dueR rs nm) : r ∈ rs := (List.mem_filter.mp ((sortK_perm (keysR_len _)).mem_iff.mp h)).1
theorem dueR_len (rs : List Rw) (nm : Str) : (dueR rs nm).length ≤ rs.length := by
  unfold dueR
  rw [(sortK_perm (keysR_len _)).length_eq]
  exact List.length_filter_le _ _
theorem get_mid {α : Type} (A B : List α) (x : α) {n : Nat} (h : A.length = n) : (A ++ x :: B)[n]? = some x := by
  subst h
  rw [List.getElem?_append_right (Nat.le_refl _), Nat.sub_self]; rfl
theorem set_mid {α : Type} (A B : List α) (x y : α) {n : Nat} (h : A.length = n) : (A ++ x :: B).set n y = A ++ y :: B := by
  subst h
  rw [List.set_append_right _ _ (Nat.le_refl _), Nat.sub_self]; rfl
def lsD (ls : List (List Str)) : PyData := .list (ls.map fun l => .list (l.map PyData.str))
theorem lls_shaped {ls : List (List Str)} (h : ∀ l ∈ ls, ∀ s ∈ l, Okt s) : SeqAt.shaped (lsD ls) = true := by
  have a : ∀ ls : List (List Str), (∀ l ∈ ls, ∀ s ∈ l, Okt s) → PyData.canLayAll0 (ls.map fun l => .list (l.map PyData.str)) = true ∧ PyData.depthAll (ls.map fun l => .list (l.map PyData.str)) ≤ 1 := by
    intro ls
    induction ls with
    | nil => intro _; exact ⟨rfl, by simp [PyData.depthAll]⟩
    | cons x r ih =>
      intro h
      obtain ⟨i1, i2⟩ := ih fun s hs => h s (List.mem_cons_of_mem _ hs)
      have h2 := lay_strs (h x (by simp))
      refine ⟨by rw [List.map_cons, PyData.canLayAll0, i1, Bool.and_true]; exact h2, ?_⟩
      rw [List.map_cons, PyData.depthAll]
      have : PyData.depth (.list (x.map PyData.str)) = 1 := by simp [PyData.depth, depth_strs]
      omega
  obtain ⟨a1, a2⟩ := a ls h
  unfold SeqAt.shaped lsD
  rw [show PyData.canLay0 (.list (ls.map fun l => .list (l.map PyData.str))) = PyData.canLayAll0 (ls.map fun l => .list (l.map PyData.str)) from rfl, a1, Bool.true_and]
  exact decide_eq_true (by rw [show PyData.depth (.list (ls.map fun l => .list (l.map PyData.str))) = PyData.depthAll (ls.map fun l => .list (l.map PyData.str)) + 1 by rw [PyData.depth]]; omega)
theorem lls_dn (Γ : Gam) : ∀ ls : List (List Str), Dns Γ (ls.map fun l => .lst (l.map AV.str)) (ls.map fun l => .list (l.map PyData.str))
  | [] => .nil
  | x :: r => .cons (.lst (strs_dn Γ x)) (lls_dn Γ r)
theorem lls_live {Γ : Gam} : ∀ {zs : List (Addr × List Str)}, (∀ z ∈ zs, (z.1, AO.lst (z.2.map AV.str)) ∈ Γ) → Dns Γ (zs.map fun z => .ptr z.1) ((zs.map (·.2)).map fun l => .list (l.map PyData.str))
  | [], _ => .nil
  | z :: r, h => .cons (.live (h z (by simp)) (strs_dn Γ _)) (lls_live fun x hx => h x (List.mem_cons_of_mem _ hx))
end Ab

namespace K24
open PySem L2 Ab
/-! ### the steps of a walk -/
/-- bounds and the like -/
local macro_rules | `(tactic| o_fieldsN) => `(tactic| first | assumption | omega | exact cdivw (by omega) (by omega) | exact cmulw (by omega) (by omega) (by omega) (by omega) | exact cpoww (by decide) (by decide) (by omega) (by omega) | (show _ ≤ sizeLine; rw [sizeLine_eq]; omega) | (show _ < sizeLine; rw [sizeLine_eq]; omega) | (simp only [len_app, List.length_map, List.length_cons, List.length_nil, List.length_append, List.length_set]; rw [sizeLine_eq]; omega) | decide)
/-- a list as it stands -/
local macro_rules | `(tactic| o_shape) => `(tactic| first
  | exact Or.inl rfl | exact Or.inr ⟨_, 0, rfl, rfl⟩ | exact Or.inr ⟨_, 1, rfl, rfl⟩ | exact Or.inr ⟨_, 2, rfl, rfl⟩ | exact Or.inr ⟨_, 3, rfl, rfl⟩ | exact Or.inr ⟨_, 4, rfl, rfl⟩ | exact Or.inr ⟨_, 5, rfl, rfl⟩)
/-- where an object stands -/
local macro_rules | `(tactic| w_left) => `(tactic| first | exact ix0 | exact ix1 | exact ix2 | exact ix3 | exact ix4 | exact ix5 | exact ix6)
/-- a list with one place put otherwise -/
local macro_rules | `(tactic| w_means) => `(tactic| ((conv => lhs; dsimp only [List.set_cons_succ, List.set_cons_zero, List.nil_append, List.cons_append, List.eraseIdx_cons_succ, List.eraseIdx_cons_zero, Int.reduceToNat]) <;> exact rfl))
/-- one step -/
local macro_rules | `(tactic| o_reads) => `(tactic| first
  | ((with_reducible refine' we_var ?hv ?_); (case hv => exact rfl))
  | with_reducible refine' we_int ?_
  | with_reducible refine' we_str ?_
  | with_reducible refine' we_op ?_
  | with_reducible refine' sn_seq ?_
  | with_reducible refine' sn_asg ?_
  | with_reducible refine' sn_par2 ?_
  | ((with_reducible refine' wg_name ?hv ?_); (case hv => w_means))
  | with_reducible refine' wa_cons ?_
  | with_reducible refine' wa_nil ?_
  | with_reducible refine' we_cb ?_
  | with_reducible refine' sn_ret ?_
  | with_reducible refine' ws_if ?_
  | with_reducible refine' sn_next ?_
  | with_reducible refine' sn_drop ?_
  | (with_reducible refine' wt_test ?_)
  | (with_reducible refine' wt_B ?_)
  | with_reducible refine' wt_and ?_
  | with_reducible refine' wt_or ?_
  | with_reducible refine' wt_not ?_
  | with_reducible refine' wt_yes ?_
  | with_reducible refine' we_tup ?_
  | with_reducible refine' we_lst ?_
  | with_reducible refine' we_mutLst ?_
  | with_reducible refine' we_mutOp ?_
  | with_reducible refine' we_mutCb ?_
  | with_reducible refine' we_mutSl ?_
  | with_reducible refine' we_sl ?_
  | with_reducible refine' wo_none ?_
  | with_reducible refine' wo_some ?_
  | with_reducible refine' we_bl ?_
  | with_reducible refine' we_non ?_
  | with_reducible refine' we_ty ?_
  | with_reducible refine' we_un ?_
  | with_reducible refine' we_if ?_
  | with_reducible refine' we_andV ?_
  | with_reducible refine' we_orV ?_
  | with_reducible refine' we_notV ?_
  | with_reducible refine' we_bm ?_
  | with_reducible refine' we_bm0 ?_
  | with_reducible refine' we_m1 ?_
  | with_reducible refine' we_m0 ?_
  | with_reducible refine' wr_addI ?_
  | with_reducible refine' wr_sub ?_
  | ((with_reducible refine' wr_mod ?hv ?_); (case hv => o_fieldsN))
  | ((with_reducible refine' wr_div ?hv ?_); (case hv => o_fieldsN))
  | ((with_reducible refine' wr_mul ?hv ?_); (case hv => o_fieldsN))
  | ((with_reducible refine' wr_pow ?hv ?_); (case hv => o_fieldsN))
  | ((with_reducible refine' wr_addS ?hv ?_); (case hv => o_fieldsN))
  | ((with_reducible refine' wr_addL ?h1 ?h2 ?hv ?_); (case h1 => o_shape); (case h2 => o_shape); (case hv => o_fieldsN))
  | ((with_reducible refine' wr_addT ?h1 ?hv ?_); (case h1 => exact List.cons_ne_nil _ _); (case hv => o_fieldsN))
  | with_reducible refine' wr_lt ?_
  | with_reducible refine' wr_le ?_
  | with_reducible refine' wr_gt ?_
  | with_reducible refine' wr_ge ?_
  | with_reducible refine' wr_ltS ?_
  | with_reducible refine' wr_eqI ?_
  | with_reducible refine' wr_neI ?_
  | with_reducible refine' wr_eqS ?_
  | with_reducible refine' wr_neS ?_
  | with_reducible refine' wr_isN ?_
  | with_reducible refine' wr_notN ?_
  | with_reducible refine' wu_neg ?_
  | ((with_reducible refine' wr_ixL ?h1 ?hv ?_); (case h1 => first | (refine Or.inl ?_; o_shape) | exact Or.inr rfl); (case hv => exact rfl))
  | ((with_reducible refine' wr_ixT ?hv ?_); (case hv => first | exact rfl | exact atI0))
  | ((with_reducible refine' wc_lenL ?hv ?_); (case hv => first | exact SeA.t | exact SeA.l (Or.inl (by o_shape)) | exact SeA.l (Or.inr rfl)))
  | ((with_reducible refine' wc_lenS ?hv ?_); (case hv => o_fieldsN))
  | ((with_reducible refine' wc_isi ?h1 ?hv ?_); (case h1 => first | exact TnA.int _ | exact TnA.str _ | exact TnA.tup _ | exact TnA.non | exact TnA.bl _ | exact TnA.lst (by o_shape)); (case hv => exact rfl))
  | with_reducible refine' wc_max ?_
  | with_reducible refine' wc_min ?_
  | with_reducible refine' wc_intI ?_
  | with_reducible refine' wc_intB ?_
  | ((with_reducible refine' wg_sqT ?hv ?_); (case hv => rfl))
  | with_reducible refine' wgs_cons ?_
  | with_reducible refine' wgs_nil ?_
  | with_reducible refine' wg_sub ?_
  | ((with_reducible refine' wset_L ?h1 ?hv ?h2 ?_); (case h1 => w_left); (case hv => first | exact ixn0 | exact ixn1 | exact ixn2 | exact ixn3 | exact rfl); (case h2 => w_means))
  | ((with_reducible refine' wm_append ?h1 ?hv ?h2 ?_); (case h1 => w_left); (case hv => o_fieldsN); (case h2 => w_means))
  | ((with_reducible refine' wm_extend ?h1 ?h2 ?hv ?hw ?_); (case h1 => w_left); (case h2 => o_shape); (case hv => o_fieldsN); (case hw => w_means))
  | ((with_reducible refine' wm_insert ?h1 ?hv ?h3 ?h4 ?hw ?_); (case h1 => w_left); (case hv => o_fieldsN); (case h3 => o_fieldsN); (case h4 => o_fieldsN); (case hw => w_means))
  | ((with_reducible refine' wm_clear ?h1 ?hw ?_); (case h1 => w_left); (case hw => w_means))
  | ((with_reducible refine' wsl_S ?hv ?_); (case hv => o_fieldsN))
  | refine And.intro (TyOk.lst (Or.inl (by o_shape))) ?_
  | refine And.intro TyOk.str ?_
  | with_reducible refine' wt_tr ?_
  | refine ⟨_, TrA.bl _, ?_⟩
  | refine brT rfl ?_
  | refine brF rfl ?_
  | ((with_reducible refine' And.intro (sz ?hv) ?_); (case hv => first | decide | (simp; done)))
  | refine ⟨_, rfl, ?_⟩)
local macro_rules | `(tactic| o_readsAll) => `(tactic| repeat o_reads)
/-- a draw, the bag at a place -/
local macro_rules | `(tactic| os_open $s with $a $w $q $e) => `(tactic| (refine' we_draw ?_; o_readsAll; refine ⟨_, _, $s, _, _, rfl, rfl, by assumption, by omega, (by first | omega | decide | (simp only [List.length_map]; omega)), (by first | omega | decide | (simp only [List.length_map]; omega)), fun $a $w $q $e => ⟨_, by w_means, ?_⟩⟩))

def top (i : Nat) : Stmt := PySem.Challenge.pw_keptreading_k24_rows_behind_a_put.main.body.getD i (.Pass ⟨0, 0, 0, 0⟩)
abbrev s_number_of : Stmt := top 1
abbrev s_behind_put : Stmt := top 2
abbrev s_law_cell_at : Stmt := top 4
abbrev s_law_bag : Stmt := top 5
abbrev s_law_draw : Stmt := top 6
abbrev s_law_name : Stmt := top 7
abbrev s_law_rows : Stmt := top 8
abbrev s_law_many_rows : Stmt := top 9
abbrev s_law_copy : Stmt := top 10
abbrev s_law_edge : Stmt := top 11
abbrev s_law_due : Stmt := top 12
abbrev s_law_whole : Stmt := top 13
abbrev s_law_same_rows : Stmt := top 14
abbrev s_law : Stmt := top 15
theorem sc_number_of : FnScope ["row"] ["row"] (defScope s_number_of) := ⟨rfl, rfl, rfl, by decide +kernel, rfl, by decide +kernel, by decide +kernel⟩
theorem sc_behind_put : FnScope ["rows", "a", "b", "many", "step", "found", "number", "name", "place", "length", "reach", "leans"] ["rows", "a", "b", "many"] (defScope s_behind_put) := ⟨rfl, rfl, rfl, by decide +kernel, rfl, by decide +kernel, by decide +kernel⟩
theorem sc_law_cell_at : FnScope ["script", "k"] ["script", "k"] (defScope s_law_cell_at) := ⟨rfl, rfl, rfl, by decide +kernel, rfl, by decide +kernel, by decide +kernel⟩
theorem sc_law_bag : FnScope ["cell"] ["cell"] (defScope s_law_bag) := ⟨rfl, rfl, rfl, by decide +kernel, rfl, by decide +kernel, by decide +kernel⟩
theorem sc_law_draw : FnScope ["bag", "many", "one"] ["bag", "many"] (defScope s_law_draw) := ⟨rfl, rfl, rfl, by decide +kernel, rfl, by decide +kernel, by decide +kernel⟩
theorem sc_law_name : FnScope ["bag", "letters", "size", "k"] ["bag"] (defScope s_law_name) := ⟨rfl, rfl, rfl, by decide +kernel, rfl, by decide +kernel, by decide +kernel⟩
theorem sc_law_rows : FnScope ["bag", "most", "rows", "number", "leans", "k", "length", "name", "row", "j", "one"] ["bag", "most"] (defScope s_law_rows) := ⟨rfl, rfl, rfl, by decide +kernel, rfl, by decide +kernel, by decide +kernel⟩
theorem sc_law_many_rows : FnScope ["bag", "many", "first", "step", "letters", "names", "rows", "k", "name"] ["bag"] (defScope s_law_many_rows) := ⟨rfl, rfl, rfl, by decide +kernel, rfl, by decide +kernel, by decide +kernel⟩
theorem sc_law_copy : FnScope ["rows", "row"] ["rows"] (defScope s_law_copy) := ⟨rfl, rfl, rfl, by decide +kernel, rfl, by decide +kernel, by decide +kernel⟩
theorem sc_law_edge : FnScope ["bag", "rows", "most", "way", "off", "row"] ["bag", "rows", "most"] (defScope s_law_edge) := ⟨rfl, rfl, rfl, by decide +kernel, rfl, by decide +kernel, by decide +kernel⟩
theorem sc_law_due : FnScope ["rows", "a", "b", "many", "found", "number", "name", "place", "length", "reach", "leans", "row"] ["rows", "a", "b", "many"] (defScope s_law_due) := ⟨rfl, rfl, rfl, by decide +kernel, rfl, by decide +kernel, by decide +kernel⟩
theorem sc_law_whole : FnScope ["found"] ["found"] (defScope s_law_whole) := ⟨rfl, rfl, rfl, by decide +kernel, rfl, by decide +kernel, by decide +kernel⟩
theorem sc_law_same_rows : FnScope ["found", "due", "row", "one"] ["found", "due"] (defScope s_law_same_rows) := ⟨rfl, rfl, rfl, by decide +kernel, rfl, by decide +kernel, by decide +kernel⟩
theorem sc_law : FnScope ["script", "k", "bag", "most", "rows", "one", "other", "a", "b", "many", "due", "before", "found", "row"] ["script"] (defScope s_law) := ⟨rfl, rfl, rfl, by decide +kernel, rfl, by decide +kernel, by decide +kernel⟩
def dd_number_of : He.DefD := ⟨("number_of", none), "number_of", "number_of", defArgs s_number_of, defBody s_number_of, defScope s_number_of, [], []⟩
def dd_behind_put : He.DefD := ⟨("behind_put", none), "behind_put", "behind_put", defArgs s_behind_put, defBody s_behind_put, defScope s_behind_put, [], []⟩
def dd_law_cell_at : He.DefD := ⟨("_law_cell_at", none), "_law_cell_at", "_law_cell_at", defArgs s_law_cell_at, defBody s_law_cell_at, defScope s_law_cell_at, [], []⟩
def dd_law_bag : He.DefD := ⟨("_law_bag", none), "_law_bag", "_law_bag", defArgs s_law_bag, defBody s_law_bag, defScope s_law_bag, [], []⟩
def dd_law_draw : He.DefD := ⟨("_law_draw", none), "_law_draw", "_law_draw", defArgs s_law_draw, defBody s_law_draw, defScope s_law_draw, [], []⟩
def dd_law_name : He.DefD := ⟨("_law_name", none), "_law_name", "_law_name", defArgs s_law_name, defBody s_law_name, defScope s_law_name, [], []⟩
def dd_law_rows : He.DefD := ⟨("_law_rows", none), "_law_rows", "_law_rows", defArgs s_law_rows, defBody s_law_rows, defScope s_law_rows, [], []⟩
def dd_law_many_rows : He.DefD := ⟨("_law_many_rows", none), "_law_many_rows", "_law_many_rows", defArgs s_law_many_rows, defBody s_law_many_rows, defScope s_law_many_rows, [], []⟩
def dd_law_copy : He.DefD := ⟨("_law_copy", none), "_law_copy", "_law_copy", defArgs s_law_copy, defBody s_law_copy, defScope s_law_copy, [], []⟩
def dd_law_edge : He.DefD := ⟨("_law_edge", none), "_law_edge", "_law_edge", defArgs s_law_edge, defBody s_law_edge, defScope s_law_edge, [], []⟩
def dd_law_due : He.DefD := ⟨("_law_due", none), "_law_due", "_law_due", defArgs s_law_due, defBody s_law_due, defScope s_law_due, [], []⟩
def dd_law_whole : He.DefD := ⟨("_law_whole", none), "_law_whole", "_law_whole", defArgs s_law_whole, defBody s_law_whole, defScope s_law_whole, [], []⟩
def dd_law_same_rows : He.DefD := ⟨("_law_same_rows", none), "_law_same_rows", "_law_same_rows", defArgs s_law_same_rows, defBody s_law_same_rows, defScope s_law_same_rows, [], []⟩
def dd_law : He.DefD := ⟨("law", none), "law", "law", defArgs s_law, defBody s_law, defScope s_law, [], []⟩
def fn : List He.DefD := [dd_number_of, dd_behind_put, dd_law_cell_at, dd_law_bag, dd_law_draw, dd_law_name, dd_law_rows, dd_law_many_rows, dd_law_copy, dd_law_edge, dd_law_due, dd_law_whole, dd_law_same_rows, dd_law]
def fa : List He.Fa := [.glo "law", .glo "_law_cell_at", .free "len", .glo "_law_bag", .free "max", .glo "_law_draw", .glo "_law_name", .free "range", .glo "_law_rows", .free "sorted", .free "set", .glo "_law_many_rows", .glo "_law_copy", .free "list", .glo "_law_edge", .glo "_law_due", .glo "_law_whole", .free "isinstance", .free "bool", .free "int", .glo "number_of", .glo "behind_put", .glo "_law_same_rows", .free "tuple", .free "min"]


section
variable {P : Program} {w : World} {K : PySem.W.Frag} {mg : Str → Option Value} {base : Heap}
/-! ### cells, draws -/
theorem ok_law_cell_at (T : Tx fa fn K mg) : Ok P w K mg base 1 "_law_cell_at" ["script", "k"] (toSp K spCell) := by
  obtain ⟨fd, F⟩ := T.says.def_ 2 (d := dd_law_cell_at) rfl
  refine Ok.of F (T.glo 1 "_law_cell_at" rfl) sc_law_cell_at (fun _ _ _ _ _ _ us hl => match us, hl with | [_, _], _ => rfl) (fun avs objs Φ h => by (repeat (first | (obtain ⟨rfl, _⟩ := h; rfl) | (obtain ⟨_, h⟩ := h)))) (fun cdv A outer st H E hr => ⟨_, (pss_cons (ps_if (pt_cmpR op_ltA (pv 1) (pe_callB c_len (by rfl) (T.free 2 "len" rfl) PySem.boot_len (pa_cons (pv 0) pa_nil)) (nomark _)) (pss_one (ps_ret (pe_ix (ix_any (hr.u1)) (pv 0) (pv 1) (fun _ _ => rfl)))) pss_nil)
    (pss_one (ps_ret pe_int))), ?_⟩)
  rintro avs objs Φ ⟨ns, k, rfl, rfl, hl, q⟩
  dsimp only [startA, restA, cxOf]
  o_readsAll
  refine brD ?_ ?_ <;> intro h
  · have hk : k < ns.length := by simpa using h
    o_reads; o_reads; o_reads; o_reads
    refine wr_ixL (.inr rfl) (z := .int ns[k]) ?_ (q _)
    refine atI_nat ?_
    rw [List.getElem?_map, List.getElem?_eq_getElem hk]; rfl
  · o_readsAll
    exact q _
theorem ok_law_bag (T : Tx fa fn K mg) : Ok P w K mg base 1 "_law_bag" ["cell"] (toSp K spBag) := by
  obtain ⟨fd, F⟩ := T.says.def_ 3 (d := dd_law_bag) rfl
  refine Ok.of F (T.glo 3 "_law_bag" rfl) sc_law_bag (fun _ _ _ _ _ _ us hl => match us, hl with | [_], _ => rfl) (fun avs objs Φ h => by (repeat (first | (obtain ⟨rfl, _⟩ := h; rfl) | (obtain ⟨_, h⟩ := h)))) (fun cdv A outer st H E hr => ⟨_, (pss_one (ps_ret (pe_mut (pe_lst (pa_cons (pe_callB (c_max rfl) (by rfl) (T.free 4 "max" rfl) (by decide +kernel) (pa_cons pe_int (pa_cons (pe_op op_subA (pv 0) (pe_op op_powA pe_int pe_int)) pa_nil))) (pa_cons (pe_op op_modA (pv 0) (pe_op op_addA (pe_op op_powA pe_int pe_int) pe_int)) (pa_cons pe_int pa_nil))))))), ?_⟩)
  rintro avs objs Φ ⟨z, rfl, rfl, q⟩
  dsimp only [startA, restA, cxOf]
  o_readsAll
  intro p
  refine q p _ ⟨_, _, _, rfl, ?_, ?_, ?_, by decide, by decide⟩
  · split <;> omega
  · exact Int.emod_nonneg _ (by decide)
  · exact Int.lt_trans (Int.emod_lt_of_pos _ (by decide)) (by decide)
theorem ok_law_draw (T : Tx fa fn K mg) : Ok P w K mg base 1 "_law_draw" ["bag", "many"] (toSp K spDraw) := by
  obtain ⟨fd, F⟩ := T.says.def_ 4 (d := dd_law_draw) rfl
  refine Ok.of F (T.glo 5 "_law_draw" rfl) sc_law_draw (fun _ _ _ _ _ _ us hl => match us, hl with | [_, _], _ => rfl) (fun avs objs Φ h => by (repeat (first | (obtain ⟨rfl, _⟩ := h; rfl) | (obtain ⟨_, h⟩ := h)))) (fun cdv A outer st H E hr => ⟨_, (pss_cons (ps_if (pt_cmpR op_gtA (pe_ix (ix_any (hr.u1)) (pv 0) pe_int (fun _ _ => rfl)) pe_int (nomark _)) (pss_cons (ps_asg (pe_op op_modA (pe_ix (ix_any (hr.u1)) (pv 0) pe_int (fun _ _ => rfl)) (pv 1)) (pg_name (i := 2) sc_law_draw.nd rfl (by first | exact Or.inl rfl | exact Or.inr rfl)))
    (pss_cons (ps_asg (pe_op op_divA (pe_ix (ix_any (hr.u1)) (pv 0) pe_int (fun _ _ => rfl)) (pv 1)) (pg_sub (pv 0) pe_int (set_any hr.u1)))
    (pss_one (ps_ret (pv 2))))) pss_nil)
    (pss_cons (ps_asg (pe_op op_addA (pe_ix (ix_any (hr.u1)) (pv 0) pe_int (fun _ _ => rfl)) pe_int) (pg_sub (pv 0) pe_int (set_any hr.u1)))
    (pss_cons (ps_asg (pe_op op_modA (pe_op op_powA (pe_op op_addA (pe_ix (ix_any (hr.u1)) (pv 0) pe_int (fun _ _ => rfl)) (pe_op op_mulA (pe_ix (ix_any (hr.u1)) (pv 0) pe_int (fun _ _ => rfl)) pe_int)) pe_int) (pe_op op_addA (pe_op op_powA pe_int pe_int) pe_int)) (pg_name (i := 2) sc_law_draw.nd rfl (by first | exact Or.inl rfl | exact Or.inr rfl)))
    (pss_cons (ps_asg (pe_op op_modA (pe_op op_powA (pe_op op_addA (pv 2) (pe_op op_mulA (pe_ix (ix_any (hr.u1)) (pv 0) pe_int (fun _ _ => rfl)) pe_int)) pe_int) (pe_op op_addA (pe_op op_powA pe_int pe_int) pe_int)) (pg_name (i := 2) sc_law_draw.nd rfl (by first | exact Or.inl rfl | exact Or.inr rfl)))
    (pss_one (ps_ret (pe_op op_modA (pe_op op_divA (pv 2) pe_int) (pv 1)))))))), ?_⟩)
  rintro avs objs Φ ⟨b, o, n, many, rfl, rfl, ⟨x, y, z, rfl, hx, hy, hy2, hz, hzn⟩, hn, hm, hm2, q⟩
  dsimp only [startA, restA, cxOf]
  o_readsAll
  refine brD ?_ ?_ <;> intro h
  · o_readsAll
    exact q _ _ (Int.emod_nonneg _ (by omega)) (Int.emod_lt_of_pos _ hm) ⟨_, _, _, rfl, Int.ediv_nonneg hx (by omega), hy, hy2, hz, by omega⟩
  · o_readsAll
    generalize (y + (z + 1) * 982451653) ^ Int.toNat 5 = u
    have h1 := Int.emod_nonneg u (b := 10 ^ Int.toNat 39 + 3) (by decide)
    have h2 := Int.emod_lt_of_pos u (b := 10 ^ Int.toNat 39 + 3) (by decide)
    generalize u % (10 ^ Int.toNat 39 + 3) = r at h1 h2 ⊢
    have h3 : r < 2 ^ 200 := Int.lt_trans h2 (by decide)
    o_readsAll
    exact q _ _ (Int.emod_nonneg _ (by omega)) (Int.emod_lt_of_pos _ hm) ⟨_, _, _, rfl, hx, hy, hy2, by omega, by omega⟩

def spName : ASp := fun avs objs Φ => ∃ (b : Addr) (o : AO) (n : Nat), avs = [.ptr b] ∧ objs = [(b, o)] ∧ BagO n o ∧ n + 20 ≤ 2 ^ 60 ∧ ∀ s o', Okt s → 1 ≤ s.length → s.length ≤ 8 → BagO (n + 20) o' → Φ (.str s) [(b, o')]
theorem abc_len : (Str.ofString "abcdefghijklmnopqrstuvwxyz").cps.toList.length = 26 := by decide +kernel
theorem abc_at {v : Int} (h : 0 ≤ v ∧ v < 26) : ∃ c, atI (Str.ofString "abcdefghijklmnopqrstuvwxyz").cps.toList v = some c ∧ c < 0x110000 := by
  obtain ⟨c, hc, -, hm⟩ := atI_some (xs := (Str.ofString "abcdefghijklmnopqrstuvwxyz").cps.toList) h.1 (by rw [abc_len]; exact h.2)
  have : ∀ c ∈ (Str.ofString "abcdefghijklmnopqrstuvwxyz").cps.toList, c < 0x110000 := by decide +kernel
  exact ⟨c, hc, this c hm⟩
theorem abc_sz : (Str.ofString "abcdefghijklmnopqrstuvwxyz").length ≤ sizeLine := by decide +kernel
theorem ones_sum : ∀ ss : List Str, (∀ s ∈ ss, Okt s ∧ s.length = 1) → (ss.map (·.length)).sum = ss.length := by
  intro ss h
  induction ss with
  | nil => rfl
  | cons x r ih => rw [List.map_cons, List.sum_cons, (h x (by simp)).2, ih (fun s hs => h s (List.mem_cons_of_mem _ hs)), List.length_cons]; omega
theorem ok_law_name (T : Tx fa fn K mg) : Ok P w K mg base 2 "_law_name" ["bag"] (toSp K spName) := by
  obtain ⟨fd, F⟩ := T.says.def_ 5 (d := dd_law_name) rfl
  refine Ok.of F (T.glo 6 "_law_name" rfl) sc_law_name (fun _ _ _ _ _ _ us hl => match us, hl with | [_], _ => rfl) (fun avs objs Φ h => by (repeat (first | (obtain ⟨rfl, _⟩ := h; rfl) | (obtain ⟨_, h⟩ := h)))) (fun cdv A outer st H E hr => ⟨_, (pss_cons (ps_asg pe_str (pg_name (i := 1) sc_law_name.nd rfl (by first | exact Or.inl rfl | exact Or.inr rfl)))
    (pss_cons (ps_asg (pe_op op_addA pe_int (pe_callO (ok_law_draw T) (hr.mono (by decide)) (by rfl) (pa_cons (pv 0) (pa_cons pe_int pa_nil)))) (pg_name (i := 2) sc_law_name.nd rfl (by first | exact Or.inl rfl | exact Or.inr rfl)))
    (pss_one (ps_ret (pe_join pe_str (pe_lc (own := [("k", 3)]) (g := (gName 3)) rfl sc_law_name.nd (pi_range1 (by rfl) (T.free 7 "range" rfl) (pa_cons (pv 2) pa_nil)) (blkOk_by (own := [("k", 3)]) (N := ["bag", "letters", "size", "k"]) (sc := defScope s_law_name) (by decide +kernel)) (fun _ _ _ _ _ => pg_as (pg_name (i := 3) sc_law_name.nd rfl (by first | exact Or.inl rfl | exact Or.inr rfl)) (by first | exact rfl | (dsimp only [cxOf]; done) | (dsimp only [cxOf]; exact rfl))) (fun _ _ _ _ _ => pts_nil) (fun _ _ _ _ _ => pe_as (pe_ix (ix_any (hr.u1)) (pv 1) (pe_callO (ok_law_draw T) (hr.mono (by decide)) (by rfl) (pa_cons (pv 0) (pa_cons pe_int pa_nil))) (fun _ _ => rfl)) (by first | exact rfl | (dsimp only [cxOf]; done) | (dsimp only [cxOf]; exact rfl))))))))), ?_⟩)
  rintro avs objs Φ ⟨b, o, n, rfl, rfl, hb, hn, q⟩
  dsimp only [startA, restA, cxOf]
  o_readsAll
  os_open 0 with v o2 hv hb2
  o_readsAll
  refine ⟨⟨_, rfl⟩, ?_⟩
  refine we_lc (own_name ?hv) ?_; (case hv => exact List.mem_singleton.mpr rfl)
  refine wi_range1 ?_
  o_readsAll
  refine ⟨by omega, fun i acc Γ' => i ≤ 8 ∧ ∃ (ss : List Str) (o' : AO), acc = ss.map AV.str ∧ ss.length = i ∧ (∀ s ∈ ss, Okt s ∧ s.length = 1) ∧ BagO (n + 1 + i) o' ∧ Γ' = [(b, o')], ⟨by omega, [], o2, rfl, rfl, by simp, hb2, rfl⟩, fun _ _ _ _ => trivial, ?_, ?_⟩
  · rintro i d acc Γ' hd ⟨hi, ss, o', rfl, hl, hs, hb', rfl⟩
    obtain ⟨hi2, rfl⟩ := rangeA_get hd
    dsimp only [wipeA, List.map, List.set]
    o_readsAll
    os_open 0 with w o3 hw hb3
    obtain ⟨c, hc, hc2⟩ := abc_at hw
    refine wr_ixS abc_sz hc ⟨?_, by omega, ss ++ [⟨#[c]⟩], o3, by simp, by simp [hl], ?_, hb3, rfl⟩
    · rw [List.length_map, sizeLine_eq]; omega
    · intro s hs'
      rcases List.mem_append.mp hs' with h | h
      · exact hs s h
      · rw [List.mem_singleton.mp h]; exact ⟨okt_one hc2, rfl⟩
  · rintro acc Γ' ⟨hi, ss, o', rfl, hl, hs, hb', rfl⟩
    rw [rangeA_len] at hl hb'
    have e2 : Txt.join (Str.ofString "") ss = Str.join Str.empty ss := StrLaws.glued_eq_join _ _
    refine wm_join (.l (.inl (.inl rfl))) ?_ ?_
    · rw [ones_sum ss hs, hl]; show _ + _ * 0 ≤ _; omega
    · rw [e2]
      have hjl : (Str.join Str.empty ss).length = ss.length := by rw [join_nil_len, ones_sum ss hs]
      exact q _ _ (join_nil_okt fun s h => (hs s h).1) (by omega) (by omega) (hb'.mono (by omega))

/-- rows, unlike by number; their places and reaches in bounds -/
def RwsOk (rs : List Rw) : Prop := (∀ r ∈ rs, RwOk r) ∧ (rs.map (·.no)).Nodup
def RwB (r : Rw) : Prop := 0 ≤ r.pl ∧ r.pl ≤ 10 ^ 60 ∧ 1 ≤ r.rc ∧ r.rc ≤ 10 ^ 60
abbrev skA (r : Rw) : AV := .tup [.str r.nm, .int r.pl]
def skD (r : Rw) : PyData := .tuple [.str r.nm, .int r.pl]
theorem sks_dn (Γ : Gam) : ∀ rs : List Rw, Dns Γ (rs.map skA) (rs.map skD)
  | [] => .nil
  | x :: r => .cons (.tup (.cons (.str _) (.cons (.int _) .nil))) (sks_dn Γ r)
theorem skD_lay {r : Rw} (h : Okt r.nm) : PyData.canLay0 (skD r) = true ∧ PyData.depth (skD r) = 1 := by
  have h1 : PyData.strOk r.nm = true := h.ok
  exact ⟨by simp [skD, PyData.canLay0, PyData.canLayAll0, h1], by simp [skD, PyData.depth, PyData.depthAll]⟩
theorem skD_shaped {r : Rw} (h : Okt r.nm) : SeqAt.shaped (skD r) = true := by
  unfold SeqAt.shaped
  rw [(skD_lay h).1, (skD_lay h).2]; rfl
theorem sks_shaped {rs : List Rw} (h : ∀ r ∈ rs, Okt r.nm) : SeqAt.shaped (.list (rs.map skD)) = true := by
  have a : ∀ rs : List Rw, (∀ r ∈ rs, Okt r.nm) → PyData.canLayAll0 (rs.map skD) = true ∧ PyData.depthAll (rs.map skD) ≤ 1 := by
    intro rs
    induction rs with
    | nil => intro _; exact ⟨rfl, by simp [PyData.depthAll]⟩
    | cons x r ih =>
      intro h
      obtain ⟨i1, i2⟩ := ih fun s hs => h s (List.mem_cons_of_mem _ hs)
      obtain ⟨j1, j2⟩ := skD_lay (h x (by simp))
      exact ⟨by rw [List.map_cons, PyData.canLayAll0, i1, j1]; rfl, by rw [List.map_cons, PyData.depthAll, j2]; omega⟩
  obtain ⟨a1, a2⟩ := a rs h
  unfold SeqAt.shaped
  rw [show PyData.canLay0 (.list (rs.map skD)) = PyData.canLayAll0 (rs.map skD) from rfl, a1, Bool.true_and]
  exact decide_eq_true (by rw [show PyData.depth (.list (rs.map skD)) = PyData.depthAll (rs.map skD) + 1 by rw [PyData.depth]]; omega)
def spRows : ASp := fun avs objs Φ => ∃ (b : Addr) (o : AO) (n : Nat) (most : Int), avs = [.ptr b, .int most] ∧ objs = [(b, o)] ∧ BagO n o ∧ n + 4000 ≤ 2 ^ 60 ∧ 0 < most ∧ most < 10 ^ 60 ∧
  ∀ (rs : List Rw) o', RwsOk rs → (∀ r ∈ rs, RwB r) → rs.length ≤ 10 → BagO (n + 4000) o' → Φ (.lst (rs.map rowA)) [(b, o')]
theorem ok_law_rows (T : Tx fa fn K mg) : Ok P w K mg base 3 "_law_rows" ["bag", "most"] (toSp K spRows) := by
  obtain ⟨fd, F⟩ := T.says.def_ 6 (d := dd_law_rows) rfl
  refine Ok.of F (T.glo 8 "_law_rows" rfl) sc_law_rows (fun _ _ _ _ _ _ us hl => match us, hl with | [_, _], _ => rfl) (fun avs objs Φ h => by (repeat (first | (obtain ⟨rfl, _⟩ := h; rfl) | (obtain ⟨_, h⟩ := h)))) (fun cdv A outer st H E hr => ⟨_, (pss_cons (ps_asg (pe_mut (pe_lst pa_nil)) (pg_name (i := 2) sc_law_rows.nd rfl (by first | exact Or.inl rfl | exact Or.inr rfl)))
    (pss_cons (ps_asg (pe_un un_neg pe_int) (pg_name (i := 3) sc_law_rows.nd rfl (by first | exact Or.inl rfl | exact Or.inr rfl)))
    (pss_cons (ps_asg (pe_lst pa_nil) (pg_name (i := 4) sc_law_rows.nd rfl (by first | exact Or.inl rfl | exact Or.inr rfl)))
    (pss_cons (ps_for PassesOwn.never rfl (pi_range1 (by rfl) (T.free 7 "range" rfl) (pa_cons (pe_callO (ok_law_draw T) (hr.mono (by decide)) (by rfl) (pa_cons (pv 0) (pa_cons pe_int pa_nil))) pa_nil)) (pg_name (i := 5) sc_law_rows.nd rfl (by first | exact Or.inl rfl | exact Or.inr rfl)) (pss_cons (ps_asg (pe_op op_addA (pe_op op_addA (pv 3) pe_int) (pe_op op_mulA (pe_callO (ok_law_draw T) (hr.mono (by decide)) (by rfl) (pa_cons (pv 0) (pa_cons pe_int pa_nil))) (pe_ix (ix_any (hr.u1)) (pe_lst (pa_cons pe_int (pa_cons (pe_op op_powA pe_int pe_int) pa_nil))) (pe_callO (ok_law_draw T) (hr.mono (by decide)) (by rfl) (pa_cons (pv 0) (pa_cons pe_int pa_nil))) (fun _ _ => rfl)))) (pg_name (i := 3) sc_law_rows.nd rfl (by first | exact Or.inl rfl | exact Or.inr rfl)))
    (pss_cons (ps_asg (pe_ix (ix_any (hr.u1)) (pe_lst (pa_cons pe_non (pa_cons (pe_callO (ok_law_draw T) (hr.mono (by decide)) (by rfl) (pa_cons (pv 0) (pa_cons (pv 1) pa_nil))) pa_nil))) (pe_callO (ok_law_draw T) (hr.mono (by decide)) (by rfl) (pa_cons (pv 0) (pa_cons pe_int pa_nil))) (fun _ _ => rfl)) (pg_name (i := 6) sc_law_rows.nd rfl (by first | exact Or.inl rfl | exact Or.inr rfl)))
    (pss_cons (ps_asg (pe_callO (ok_law_name T) (hr.mono (by decide)) (by rfl) (pa_cons (pv 0) pa_nil)) (pg_name (i := 7) sc_law_rows.nd rfl (by first | exact Or.inl rfl | exact Or.inr rfl)))
    (pss_cons (ps_if (PW.pt (pw_or (pt_cmpR (op_eqA hr.units) (pv 4) (pe_lst pa_nil) (nomark _)) (pw_or1 (pt_cmpR op_gtA (pe_callO (ok_law_draw T) (hr.mono (by decide)) (by rfl) (pa_cons (pv 0) (pa_cons pe_int pa_nil))) pe_int (nomark _))))) (pss_one (ps_asg (pe_sortSet rfl (by rfl) (T.free 9 "sorted" rfl) (by rfl) (T.free 10 "set" rfl) (pe_op op_addA (pe_lst (pa_cons (pv 7) pa_nil)) (pe_lc (own := [("j", 9)]) (g := (gName 9)) rfl sc_law_rows.nd (pi_range1 (by rfl) (T.free 7 "range" rfl) (pa_cons (pe_callO (ok_law_draw T) (hr.mono (by decide)) (by rfl) (pa_cons (pv 0) (pa_cons pe_int pa_nil))) pa_nil)) (blkOk_by (own := [("j", 9)]) (N := ["bag", "most", "rows", "number", "leans", "k", "length", "name", "row", "j", "one"]) (sc := defScope s_law_rows) (by decide +kernel)) (fun _ _ _ _ _ => pg_as (pg_name (i := 9) sc_law_rows.nd rfl (by first | exact Or.inl rfl | exact Or.inr rfl)) (by first | exact rfl | (dsimp only [cxOf]; done) | (dsimp only [cxOf]; exact rfl))) (fun _ _ _ _ _ => pts_nil) (fun _ _ _ _ _ => pe_as (pe_callO (ok_law_name T) (hr.mono (by decide)) (by rfl) (pa_cons (pv 0) pa_nil)) (by first | exact rfl | (dsimp only [cxOf]; done) | (dsimp only [cxOf]; exact rfl)))))) (pg_name (i := 4) sc_law_rows.nd rfl (by first | exact Or.inl rfl | exact Or.inr rfl)))) pss_nil)
    (pss_cons (ps_asg (pe_tup (pa_cons (pv 3) (pa_cons (pv 7) (pa_cons (pe_callO (ok_law_draw T) (hr.mono (by decide)) (by rfl) (pa_cons (pv 0) (pa_cons (pv 1) pa_nil))) (pa_cons (pv 6) (pa_cons (pe_op op_addA pe_int (pe_callO (ok_law_draw T) (hr.mono (by decide)) (by rfl) (pa_cons (pv 0) (pa_cons (pv 1) pa_nil)))) (pa_cons (pv 4) pa_nil))))))) (pg_name (i := 8) sc_law_rows.nd rfl (by first | exact Or.inl rfl | exact Or.inr rfl)))
    (pss_one (ps_if (pt_cmpR (op_notInA hr.u65) (pe_slice sl_any (pv 8) (po_some pe_int) (po_some pe_int)) (pe_lc (own := [("one", 10)]) (g := (gName 10)) rfl sc_law_rows.nd (pi_list (pv 2)) (blkOk_by (own := [("one", 10)]) (N := ["bag", "most", "rows", "number", "leans", "k", "length", "name", "row", "j", "one"]) (sc := defScope s_law_rows) (by decide +kernel)) (fun _ _ _ _ _ => pg_as (pg_name (i := 10) sc_law_rows.nd rfl (by first | exact Or.inl rfl | exact Or.inr rfl)) (by first | exact rfl | (dsimp only [cxOf]; done) | (dsimp only [cxOf]; exact rfl))) (fun _ _ _ _ _ => pts_nil) (fun _ _ _ _ _ => pe_as (pe_slice sl_any (pv 10) (po_some pe_int) (po_some pe_int)) (by first | exact rfl | (dsimp only [cxOf]; done) | (dsimp only [cxOf]; exact rfl)))) (by rfl)) (pss_one (ps_expr (pe_bm PySem.F.plainAttrs_list PySem.F.slot_list_insert PySem.F.type_list_insert mt_insert (pv 2) (pa_cons (pe_callO (ok_law_draw T) (hr.mono (by decide)) (by rfl) (pa_cons (pv 0) (pa_cons (pe_op op_addA (pe_callB c_len (by rfl) (T.free 2 "len" rfl) PySem.boot_len (pa_cons (pv 2) pa_nil)) pe_int) pa_nil))) (pa_cons (pv 8) pa_nil))))) pss_nil))))))))
    (pss_one (ps_ret (pv 2))))))), ?_⟩)
  rintro avs objs Φ ⟨b, o, n, most, rfl, rfl, hb, hn, hm0, hm1, q⟩
  dsimp only [startA, restA, cxOf]
  o_readsAll
  intro p
  o_readsAll
  refine sn_for (wi_range1 ?_)
  o_readsAll
  os_open 1 with v o2 hv hb2
  o_readsAll
  refine ⟨by omega, fun i δ' Γ' => i ≤ 10 ∧ ∃ (rs : List Rw) (ls : List Str) (o' : AO) (num : Int) (x5 x6 x7 x8 x9 x10 : Option AV), δ' = [some (.ptr b), some (.int most), some (.ptr p), some (.int num), some (.lst (ls.map AV.str)), x5, x6, x7, x8, x9, x10] ∧ Γ' = [(p, .lst (rs.map rowA)), (b, o')] ∧ rs.length ≤ i ∧ (∀ s ∈ ls, Okt s) ∧ ls.length ≤ 4 ∧ (∀ r ∈ rs, RwOk r ∧ RwB r ∧ r.no ≤ num) ∧ (rs.map (·.no)).Nodup ∧ BagO (n + 1 + 200 * i) o',
    ⟨by decide, [], [], o2, _, _, _, _, _, _, _, rfl, rfl, by simp, fun s hs => by simp at hs, by simp, fun r hr => by simp at hr, by simp, hb2⟩, fun _ _ _ _ => trivial, ?_, ?_⟩
  · rintro i d δ' Γ' hd ⟨hi, rs, ls, o', num, x5, x6, x7, x8, x9, x10, rfl, rfl, hrl, hls, hll, hrs, hnd, hb'⟩
    obtain ⟨hi2, rfl⟩ := rangeA_get hd
    have hi3 : i < 10 := by omega
    o_readsAll
    os_open 1 with d1 o3 hd1 hb3
    o_readsAll
    os_open 1 with d2 o4 hd2 hb4
    have hfac : ∃ f : Int, atI [AV.int 1, AV.int (10 ^ Int.toNat 20)] d2 = some (.int f) ∧ 0 < f ∧ f ≤ 10 ^ 20 := by
      obtain h | h : d2 = 0 ∨ d2 = 1 := by omega
      · exact ⟨1, by rw [h]; rfl, by decide, by decide⟩
      · exact ⟨10 ^ Int.toNat 20, by rw [h]; rfl, by decide, by decide⟩
    obtain ⟨f, hf1, hf2, hf3⟩ := hfac
    refine wr_ixL (.inl (.inl rfl)) hf1 ?_
    o_readsAll
    have hnn : num < num + 1 + d1 * f := by have := Int.mul_nonneg hd1.1 (Int.le_of_lt hf2); omega
    generalize num + 1 + d1 * f = num2 at hnn
    o_readsAll
    os_open 1 with d5 o5 hd5 hb5
    o_readsAll
    os_open 1 with d6 o6 hd6 hb6
    obtain ⟨ln, hln⟩ := ln_pick hd6 d5
    refine wr_ixL (.inl (.inl rfl)) hln ?_
    o_readsAll
    refine we_call1 1 ?_
    o_readsAll
    refine ⟨_, _, _, rfl, rfl, hb6, by omega, fun nm o7 nm1 nm2 nm3 hb7 => ⟨_, pm1 (news := []) rfl (by w_means), ?_⟩⟩
    o_reads
    o_reads
    refine sn_cut (fun δ' Γ' => ∃ (ls : List Str) (o' : AO) (x9 : Option AV), (∀ s ∈ ls, Okt s) ∧ ls.length ≤ 4 ∧ BagO (n + 1 + 200 * i + 150) o' ∧ δ' = [some (.ptr b), some (.int most), some (.ptr p), some (.int num2), some (.lst (ls.map AV.str)), some (.int (0 + (i : Nat))), some (optA ln), some (.str nm), x8, x9, x10] ∧ Γ' = [(p, .lst (rs.map rowA)), (b, o')]) ?_ ?_
    · have mk : ∀ (o : AO), BagO (n + 1 + 200 * i + 40) o → WS K (tAsg (tSortSet w K (tOp (rAddA K) (tLst (tCons (tVar 7) tNil)) (tLc (iRng1 (tCons (tCall (toSp K spDraw) [] E0 (tCons (tVar 0) (tCons (tC (V.int 3)) tNil))) tNil)) (gName 9) tYes (tCall (toSp K spName) [] E0 (tCons (tVar 0) tNil)) [9]))) (gName 4))
          ⟨fun δ' Γ' => ∃ (ls : List Str) (o' : AO) (x9 : Option AV), (∀ s ∈ ls, Okt s) ∧ ls.length ≤ 4 ∧ BagO (n + 1 + 200 * i + 150) o' ∧ δ' = [some (.ptr b), some (.int most), some (.ptr p), some (.int num2), some (.lst (ls.map AV.str)), some (.int (0 + (i : Nat))), some (optA ln), some (.str nm), x8, x9, x10] ∧ Γ' = [(p, .lst (rs.map rowA)), (b, o')], Φ, (fun δ' Γ' => False), fun δ' Γ' => False⟩
          [some (.ptr b), some (.int most), some (.ptr p), some (.int num2), some (.lst (ls.map AV.str)), some (.int (0 + (i : Nat))), some (optA ln), some (.str nm), x8, x9, x10] [(p, .lst (rs.map rowA)), (b, o)] := by
        intro o hb
        o_readsAll
        refine we_sortSet ?_
        o_readsAll
        refine we_lc (own_name ?hv) ?_; (case hv => exact List.mem_singleton.mpr rfl)
        refine wi_range1 ?_
        o_readsAll
        os_open 1 with d7 o7' hd7 hb7'
        o_readsAll
        refine ⟨by omega, fun j acc Γ' => j ≤ 3 ∧ ∃ (ss : List Str) (o' : AO), acc = ss.map AV.str ∧ ss.length = j ∧ (∀ s ∈ ss, Okt s) ∧ BagO (n + 1 + 200 * i + 41 + 20 * j) o' ∧ Γ' = [(p, .lst (rs.map rowA)), (b, o')], ⟨by omega, [], o7', rfl, rfl, by simp, hb7', rfl⟩, fun _ _ _ _ => trivial, ?_, ?_⟩
        · rintro j d acc Γ' hd ⟨hj, ss, o', rfl, hl, hs, hb', rfl⟩
          obtain ⟨hj2, rfl⟩ := rangeA_get hd
          dsimp only [wipeA, List.map, List.set]
          o_readsAll
          refine we_call1 1 ?_
          o_readsAll
          refine ⟨_, _, _, rfl, rfl, hb', by omega, fun s o2 s1 s2 s3 hb2 => ⟨_, pm1 (news := []) rfl (by w_means), ?_⟩⟩
          refine ⟨by rw [List.length_map, sizeLine_eq]; omega, by omega, ss ++ [s], o2, by simp, by simp [hl], fun x hx => ?_, hb2, rfl⟩
          rcases List.mem_append.mp hx with h | h
          · exact hs x h
          · exact (List.mem_singleton.mp h) ▸ s1
        · rintro acc Γ' ⟨hj, ss, o', rfl, hl, hs, hb', rfl⟩
          rw [rangeA_len] at hl hb' hj
          refine wr_addL (xs := [AV.str nm]) (ys := ss.map AV.str) (.inl rfl) (.inl rfl) (by rw [List.length_map, sizeLine_eq]; simp; omega) ?_
          refine ⟨nm :: ss, .inl (.inl rfl), by simp; omega, fun ys hy hyl hm => ?_⟩
          o_readsAll
          refine ⟨ys, o', _, fun s hs' => ?_, by simp at hyl; omega, hb'.mono (by omega), rfl, rfl⟩
          rcases List.mem_cons.mp ((hm s).mp hs') with h | h
          · exact h ▸ nm1
          · exact hs s h
      o_readsAll
      refine wr_eqD (d := .list (ls.map PyData.str)) (e := .list []) (.lst (strs_dn _ _)) (.lst .nil) (shaped_strs hls) (by decide) ?_
      rw [eqv_nil_strs]
      refine ⟨_, rfl, br (fun h0 => ?_) (fun h0 => ?_)⟩
      · refine brT rfl ?_
        exact ws_mono (mk o7 (hb7.mono (by omega))) (fun _ _ z => z) (fun _ _ z => z) (fun _ _ z => z.elim) fun _ _ z => z.elim
      · o_readsAll
        os_open 1 with d7 o7' hd7 hb7'
        o_readsAll
        refine brD (fun h1 => ?_) (fun h1 => ?_)
        · exact ws_mono (mk o7' (hb7'.mono (by omega))) (fun _ _ z => z) (fun _ _ z => z) (fun _ _ z => z.elim) fun _ _ z => z.elim
        · o_readsAll
          exact ⟨ls, o7', _, hls, hll, hb7'.mono (by omega), rfl, rfl⟩
    rintro δ' Γ' ⟨ls, o8, x9, hls, hll, hb8, rfl, rfl⟩
    o_readsAll
    os_open 1 with pl o9 hpl hb9
    o_readsAll
    os_open 1 with rc o10 hrc hb10
    o_readsAll
    have hrn : RwOk ⟨num2, nm, pl, ln, 1 + rc, ls⟩ := ⟨nm1, hls, Nat.le_trans hll (by decide)⟩
    refine wsl_T (by simp [HT.sIx]) ?_
    rw [show cutA [AV.int num2, AV.str nm, AV.int pl, optA ln, AV.int (1 + rc), AV.lst (ls.map AV.str)] (some 1) (some 3) = [AV.str nm, AV.int pl] from rfl]
    refine we_lc (own_name ?hv) ?_; (case hv => exact List.mem_singleton.mpr rfl)
    refine wi_live ?_
    o_readsAll
    refine ⟨p, _, rfl, ⟨0, rfl⟩, lcF (f := fun r => some (skA r)) (by rw [sizeLine_eq]; omega) ⟨0, rfl⟩ (fun j r hr => ?_) ?_⟩
    · dsimp only [wipeA, List.map, List.set]
      o_readsAll
      refine wsl_T (by simp [HT.sIx]) ?_
      rw [show cutA [AV.int r.no, AV.str r.nm, AV.int r.pl, optA r.ln, AV.int r.rc, leA r.le] (some 1) (some 3) = [AV.str r.nm, AV.int r.pl] from rfl]
      exact ⟨rfl, rfl⟩
    rw [List.filterMap_eq_map']
    refine wr_notInDp (d := skD ⟨num2, nm, pl, ln, 1 + rc, ls⟩) (ds := rs.map skD) (.tup (.cons (.str _) (.cons (.int _) .nil))) (.lst (sks_dn _ _)) (skD_shaped nm1) (sks_shaped fun r hr => (hrs r hr).1.1) ?_
    refine ⟨_, rfl, br (fun h1 => ?_) (fun h1 => ?_)⟩
    · o_readsAll
      os_open 1 with d9 o12 hd9 hb12
      rw [List.length_map] at hd9
      o_readsAll
      refine ⟨by omega, rs.take d9.toNat ++ [⟨num2, nm, pl, ln, 1 + rc, ls⟩] ++ rs.drop d9.toNat, ls, o12, _, _, _, _, _, _, _, rfl, by simp only [List.map_append, List.map_take, List.map_drop]; rfl, ?_, hls, hll, ?_, ?_, hb12.mono (by omega)⟩
      · simp only [List.length_append, List.length_take, List.length_drop, List.length_singleton]; omega
      · intro r hr
        have hr' : r ∈ rs ∨ r = ⟨num2, nm, pl, ln, 1 + rc, ls⟩ := by
          rcases List.mem_append.mp hr with h | h
          · rcases List.mem_append.mp h with h | h
            · exact .inl (List.mem_of_mem_take h)
            · exact .inr (List.mem_singleton.mp h)
          · exact .inl (List.mem_of_mem_drop h)
        rcases hr' with h | h
        · exact ⟨(hrs r h).1, (hrs r h).2.1, by have := (hrs r h).2.2; omega⟩
        · subst h
          exact ⟨hrn, ⟨hpl.1, by show pl ≤ _; omega, by show 1 ≤ 1 + rc; omega, by show 1 + rc ≤ _; omega⟩, Int.le_refl _⟩
      · have hperm : (rs.take d9.toNat ++ [(⟨num2, nm, pl, ln, 1 + rc, ls⟩ : Rw)] ++ rs.drop d9.toNat).Perm (⟨num2, nm, pl, ln, 1 + rc, ls⟩ :: rs) := by
          rw [List.append_assoc]
          refine List.perm_middle.trans ?_
          show List.Perm (_ :: (rs.take d9.toNat ++ rs.drop d9.toNat)) _
          rw [List.take_append_drop]
        refine (hperm.map _).nodup_iff.mpr ?_
        rw [List.map_cons, List.nodup_cons]
        refine ⟨fun hm => ?_, hnd⟩
        obtain ⟨r, hr, e⟩ := List.mem_map.mp hm
        have := (hrs r hr).2.2
        simp only at e
        omega
    · o_readsAll
      exact ⟨by omega, rs, ls, o10, _, _, _, _, _, _, _, rfl, rfl, by omega, hls, hll, fun r hr => ⟨(hrs r hr).1, (hrs r hr).2.1, by have := (hrs r hr).2.2; omega⟩, hnd, hb10.mono (by omega)⟩
  · rintro δ' Γ' ⟨hi, rs, ls, o', num, x5, x6, x7, x8, x9, x10, rfl, rfl, hrl, hls, hll, hrs, hnd, hb'⟩
    refine sn_ret (we_post ?_)
    o_readsAll
    rw [rangeA_len] at hrl hb'
    exact ⟨_, _, Wv.freeze, q rs _ ⟨fun r hr => (hrs r hr).1, hnd⟩ (fun r hr => (hrs r hr).2.1) (by omega) (hb'.mono (by omega))⟩

theorem small10007 : ∀ s : Nat, s < 101 → s = 1 ∨ 10007 % s ≠ 0 := by decide +kernel
theorem prime10007 (s : Nat) (h : s < 10007) : s = 0 ∨ Nat.gcd 10007 s = 1 := by
  by_cases hs : s = 0
  · exact .inl hs
  · right
    obtain ⟨c, hc⟩ := Nat.gcd_dvd_left 10007 s
    have hle := Nat.le_of_dvd (by omega) (Nat.gcd_dvd_right 10007 s)
    generalize Nat.gcd 10007 s = g at hc hle
    have chk : ∀ a b : Nat, 10007 = a * b → a < 101 → a = 1 := fun a b e ha => (small10007 a ha).resolve_right fun z => z (Nat.mod_eq_zero_of_dvd ⟨b, e⟩)
    by_cases hg : g < 101
    · exact chk g c hc hg
    · by_cases hc1 : c < 101
      · have e1 := chk c g (by rw [Nat.mul_comm]; exact hc) hc1
        rw [e1] at hc
        omega
      · have : 101 * 101 ≤ g * c := Nat.mul_le_mul (by omega) (by omega)
        omega
theorem steps_nodup {st : Int} (h0 : 0 < st) (h1 : st < 10007) {n : Nat} (hn : n ≤ 10007) : ((List.range n).map fun k : Nat => (k : Int) * st % 10007).Nodup := by
  refine List.Pairwise.map _ (fun a b hab => hab) ?_
  rw [List.pairwise_iff_getElem]
  intro i j hi hj hij
  rw [List.getElem_range, List.getElem_range]
  rw [List.length_range] at hi hj
  intro e
  obtain ⟨s, rfl⟩ : ∃ s : Nat, st = s := ⟨st.toNat, by omega⟩
  have hg : Nat.gcd 10007 s = 1 := (prime10007 s (by omega)).resolve_left (by omega)
  have e2 : ((j : Int) - i) * s % 10007 = 0 := by
    rw [Int.sub_mul]
    omega
  have e3 : ((j - i : Nat) * s) % 10007 = 0 := by
    have : (((j - i : Nat) * s : Nat) : Int) = ((j : Int) - i) * s := by
      rw [Int.natCast_mul, Int.natCast_sub (by omega)]
    omega
  have hd : 10007 ∣ (j - i) * s := Nat.dvd_of_mod_eq_zero e3
  have hd2 : 10007 ∣ (j - i) := Nat.Coprime.dvd_of_dvd_mul_right hg hd
  have := Nat.le_of_dvd (by omega) hd2
  omega
def spMany : ASp := fun avs objs Φ => ∃ (b : Addr) (o : AO) (n : Nat), avs = [.ptr b] ∧ objs = [(b, o)] ∧ BagO n o ∧ n + 4000 ≤ 2 ^ 60 ∧
  ∀ (rs : List Rw) o', RwsOk rs → (∀ r ∈ rs, RwB r) → rs.length ≤ 4001 → BagO (n + 4000) o' → Φ (.lst (rs.map rowA)) [(b, o')]
theorem ok_law_many_rows (T : Tx fa fn K mg) : Ok P w K mg base 3 "_law_many_rows" ["bag"] (toSp K spMany) := by
  obtain ⟨fd, F⟩ := T.says.def_ 7 (d := dd_law_many_rows) rfl
  refine Ok.of F (T.glo 11 "_law_many_rows" rfl) sc_law_many_rows (fun _ _ _ _ _ _ us hl => match us, hl with | [_], _ => rfl) (fun avs objs Φ h => by (repeat (first | (obtain ⟨rfl, _⟩ := h; rfl) | (obtain ⟨_, h⟩ := h)))) (fun cdv A outer st H E hr => ⟨_, (pss_cons (ps_asg (pe_op op_addA pe_int (pe_callO (ok_law_draw T) (hr.mono (by decide)) (by rfl) (pa_cons (pv 0) (pa_cons pe_int pa_nil)))) (pg_name (i := 1) sc_law_many_rows.nd rfl (by first | exact Or.inl rfl | exact Or.inr rfl)))
    (pss_cons (ps_asg (pe_callO (ok_law_draw T) (hr.mono (by decide)) (by rfl) (pa_cons (pv 0) (pa_cons pe_int pa_nil))) (pg_name (i := 2) sc_law_many_rows.nd rfl (by first | exact Or.inl rfl | exact Or.inr rfl)))
    (pss_cons (ps_asg (pe_op op_addA pe_int (pe_callO (ok_law_draw T) (hr.mono (by decide)) (by rfl) (pa_cons (pv 0) (pa_cons pe_int pa_nil)))) (pg_name (i := 3) sc_law_many_rows.nd rfl (by first | exact Or.inl rfl | exact Or.inr rfl)))
    (pss_cons (ps_asg pe_str (pg_name (i := 4) sc_law_many_rows.nd rfl (by first | exact Or.inl rfl | exact Or.inr rfl)))
    (pss_cons (ps_setLc (i := 5) (own := [("k", 7)]) (g := (gName 7)) rfl sc_law_many_rows.nd rfl rfl (sw_true rfl rfl rfl (by decide +kernel)) (pi_range1 (by rfl) (T.free 7 "range" rfl) (pa_cons pe_int pa_nil)) (blkOk_by (own := [("k", 7)]) (N := ["bag", "many", "first", "step", "letters", "names", "rows", "k", "name"]) (sc := defScope s_law_many_rows) (by decide +kernel)) (fun _ _ _ _ _ => pg_as (pg_name (i := 7) sc_law_many_rows.nd rfl (by first | exact Or.inl rfl | exact Or.inr rfl)) (by first | exact rfl | (dsimp only [cxOf]; done) | (dsimp only [cxOf]; exact rfl))) (fun _ _ _ _ _ => pts_nil) (fun _ _ _ _ _ => pe_as (pe_op op_addA (pe_ix (ix_any (hr.u1)) (pv 4) (pe_op op_modA (pv 7) pe_int) (fun _ _ => rfl)) (pe_ix (ix_any (hr.u1)) (pv 4) (pe_op op_divA (pv 7) pe_int) (fun _ _ => rfl))) (by first | exact rfl | (dsimp only [cxOf]; done) | (dsimp only [cxOf]; exact rfl))))
    (pss_cons (ps_asg (pe_mut (pe_lst pa_nil)) (pg_name (i := 6) sc_law_many_rows.nd rfl (by first | exact Or.inl rfl | exact Or.inr rfl)))
    (pss_cons (ps_for PassesOwn.never rfl (pi_range1 (by rfl) (T.free 7 "range" rfl) (pa_cons (pv 1) pa_nil)) (pg_name (i := 7) sc_law_many_rows.nd rfl (by first | exact Or.inl rfl | exact Or.inr rfl)) (pss_cons (ps_asg (pe_ix (ix_any (hr.u1)) (pv 5) (pe_op op_modA (pe_op op_addA (pv 7) (pv 2)) pe_int) (fun _ _ => rfl)) (pg_name (i := 8) sc_law_many_rows.nd rfl (by first | exact Or.inl rfl | exact Or.inr rfl)))
    (pss_one (ps_expr (pe_bm PySem.F.plainAttrs_list PySem.F.slot_list_append PySem.F.type_list_append mt_append (pv 6) (pa_cons (pe_tup (pa_cons (pe_op op_modA (pe_op op_mulA (pv 7) (pv 3)) pe_int) (pa_cons (pv 8) (pa_cons (pe_op op_addA (pe_op op_mulA (pe_op op_divA (pv 7) pe_int) pe_int) (pe_op op_modA (pv 7) pe_int)) (pa_cons (pe_ix (ix_any (hr.u1)) (pe_lst (pa_cons pe_non (pa_cons (pe_op op_modA (pv 7) pe_int) pa_nil))) (pe_op op_modA (pv 7) pe_int) (fun _ _ => rfl)) (pa_cons (pe_op op_addA pe_int (pe_op op_modA (pv 7) pe_int)) (pa_cons (pe_lst (pa_cons (pv 8) pa_nil)) pa_nil))))))) pa_nil))))))
    (pss_one (ps_ret (pv 6)))))))))), ?_⟩)
  rintro avs objs Φ ⟨b, o, n, rfl, rfl, hb, hn, q⟩
  dsimp only [startA, restA, cxOf]
  o_readsAll
  os_open 0 with mn o2 hmn hb2
  o_readsAll
  os_open 0 with fi o3 hfi hb3
  o_readsAll
  os_open 0 with st o4 hst hb4
  o_readsAll
  refine we_lc (own_name ?hv) ?_; (case hv => exact List.mem_singleton.mpr rfl)
  refine wi_range1 ?_
  o_readsAll
  refine ⟨by decide, fun j acc Γ' => j ≤ 200 ∧ ∃ (ns : List Str), acc = ns.map AV.str ∧ ns.length = j ∧ (∀ s ∈ ns, Okt s) ∧ Γ' = [(b, o4)], ⟨by omega, [], rfl, rfl, by simp, rfl⟩, fun _ _ _ _ => trivial, ?_, ?_⟩
  · rintro j d acc Γ' hd ⟨hj, ns, rfl, hl, hs, rfl⟩
    obtain ⟨hj2, rfl⟩ := rangeA_get hd
    have hj3 : j < 200 := hj2
    dsimp only [wipeA, List.map, List.set]
    obtain ⟨c1, hc1, hc2⟩ := abc_at (v := (0 + (j : Int)) % 26) (by omega)
    obtain ⟨c3, hc3, hc4⟩ := abc_at (v := (0 + (j : Int)) / 26) (by omega)
    o_readsAll
    refine wr_ixS abc_sz hc1 ?_
    o_readsAll
    refine wr_ixS abc_sz hc3 ?_
    refine wr_addS (by rw [sizeLine_eq]; show 1 + 1 ≤ _; omega) ?_
    refine ⟨by rw [List.length_map, sizeLine_eq]; omega, by omega, ns ++ [⟨#[c1]⟩ ++ ⟨#[c3]⟩], by simp, by simp [hl], fun x hx => ?_, rfl⟩
    rcases List.mem_append.mp hx with h | h
    · exact hs x h
    · rw [List.mem_singleton.mp h]; exact okt_app (okt_one hc2) (okt_one hc4)
  rintro acc Γ' ⟨hj, ns, rfl, hl, hs, rfl⟩
  rw [rangeA_len] at hl
  have hl2 : ns.length = 200 := hl
  o_readsAll
  intro p
  o_readsAll
  refine sn_for (wi_range1 ?_)
  o_readsAll
  refine ⟨by omega, fun i δ' Γ' => i ≤ 4001 ∧ ∃ (rs : List Rw) (x7 x8 : Option AV), δ' = [some (.ptr b), some (.int (200 + mn)), some (.int fi), some (.int (1 + st)), some (.str (Str.ofString "abcdefghijklmnopqrstuvwxyz")), some (.lst (ns.map AV.str)), some (.ptr p), x7, x8] ∧ Γ' = [(p, .lst (rs.map rowA)), (b, o4)] ∧ rs.length = i ∧ (∀ r ∈ rs, RwOk r ∧ RwB r) ∧ rs.map (·.no) = (List.range i).map fun k : Nat => (k : Int) * (1 + st) % 10007,
    ⟨by decide, [], _, _, rfl, rfl, rfl, fun r hr => by simp at hr, rfl⟩, fun _ _ _ _ => trivial, ?_, ?_⟩
  · rintro i d δ' Γ' hd ⟨hi, rs, x7, x8, rfl, rfl, hrl, hrs, hno⟩
    obtain ⟨hi2, rfl⟩ := rangeA_get hd
    obtain ⟨nm, hnm, hm1, -⟩ := nm_at (ns := ns) (v := ((0 + (i : Int)) + fi) % 200) (by omega) (by omega)
    obtain ⟨ln, hln⟩ := ln_pick (w := (0 + (i : Int)) % 2) (by omega) ((0 + (i : Int)) % 5)
    o_readsAll
    refine wr_ixL (.inl (.inl rfl)) hnm ?_
    o_readsAll
    refine wr_ixL (.inl (.inl rfl)) hln ?_
    o_readsAll
    refine ⟨by omega, rs ++ [⟨(0 + (i : Int)) * (1 + st) % 10007, nm, (0 + (i : Int)) / 200 * 7 + (0 + (i : Int)) % 7, ln, 1 + (0 + (i : Int)) % 9, [nm]⟩], _, _, rfl, by rw [List.map_append]; rfl, by rw [List.length_append, hrl]; rfl, ?_, ?_⟩
    · intro r hr
      rcases List.mem_append.mp hr with h | h
      · exact hrs r h
      · rw [List.mem_singleton.mp h]
        refine ⟨⟨hs _ hm1, fun s hs' => (List.mem_singleton.mp hs') ▸ hs _ hm1, by simp⟩, ?_, ?_, ?_, ?_⟩
        · show 0 ≤ (0 + (i : Int)) / 200 * 7 + (0 + (i : Int)) % 7; omega
        · show (0 + (i : Int)) / 200 * 7 + (0 + (i : Int)) % 7 ≤ _; omega
        · show 1 ≤ 1 + (0 + (i : Int)) % 9; omega
        · show 1 + (0 + (i : Int)) % 9 ≤ _; omega
    · rw [List.map_append, hno, List.range_succ, List.map_append, List.map_singleton, List.map_singleton, Int.zero_add]
  · rintro δ' Γ' ⟨hi, rs, x7, x8, rfl, rfl, hrl, hrs, hno⟩
    refine sn_ret (we_post ?_)
    o_readsAll
    rw [rangeA_len] at hrl hno hi
    refine ⟨_, _, Wv.freeze, q rs _ ⟨fun r hr => (hrs r hr).1, ?_⟩ (fun r hr => (hrs r hr).2) (by omega) (hb4.mono (by omega))⟩
    rw [hno]
    exact steps_nodup (by omega) (by omega) (by omega)

def spCopy : ASp := fun avs objs Φ => ∃ rs : List Rw, avs = [.lst (rs.map rowA)] ∧ objs = [] ∧ rs.length ≤ 4001 ∧ Φ (.lst (rs.map rowA)) []
theorem ok_law_copy (T : Tx fa fn K mg) : Ok P w K mg base 2 "_law_copy" ["rows"] (toSp K spCopy) := by
  obtain ⟨fd, F⟩ := T.says.def_ 8 (d := dd_law_copy) rfl
  refine Ok.of F (T.glo 12 "_law_copy" rfl) sc_law_copy (fun _ _ _ _ _ _ us hl => match us, hl with | [_], _ => rfl) (fun avs objs Φ h => by (repeat (first | (obtain ⟨rfl, _⟩ := h; rfl) | (obtain ⟨_, h⟩ := h)))) (fun cdv A outer st H E hr => ⟨_, (pss_one (ps_ret (pe_lc (own := [("row", 1)]) (g := (gName 1)) rfl sc_law_copy.nd (pi_list (pv 0)) (blkOk_by (own := [("row", 1)]) (N := ["rows", "row"]) (sc := defScope s_law_copy) (by decide +kernel)) (fun _ _ _ _ _ => pg_as (pg_name (i := 1) sc_law_copy.nd rfl (by first | exact Or.inl rfl | exact Or.inr rfl)) (by first | exact rfl | (dsimp only [cxOf]; done) | (dsimp only [cxOf]; exact rfl))) (fun _ _ _ _ _ => pts_nil) (fun _ _ _ _ _ => pe_as (pe_op op_addA (pe_slice sl_any (pv 1) po_none (po_some pe_int)) (pe_tup (pa_cons (pe_callTy (c_list rfl) (by rfl) (T.free 13 "list" rfl) (by decide +kernel) (pa_cons (pe_ix (ix_any (hr.u1)) (pv 1) pe_int (fun _ _ => rfl)) pa_nil)) pa_nil))) (by first | exact rfl | (dsimp only [cxOf]; done) | (dsimp only [cxOf]; exact rfl)))))), ?_⟩)
  rintro avs objs Φ ⟨rs, rfl, rfl, hl, q⟩
  dsimp only [startA, restA, cxOf]
  o_reads
  refine we_lc (own_name ?hv) ?_; (case hv => exact List.mem_singleton.mpr rfl)
  refine wi_list ?_
  o_readsAll
  refine ⟨_, .inl rfl, lcF (f := fun r => some (rowA r)) (by rw [sizeLine_eq]; omega) trivial (fun i r hr => ?_) ?_⟩
  · dsimp only [wipeA, List.map, List.set]
    o_reads
    refine wt_yes (br (fun _ => ?_) fun z => by cases z)
    o_reads
    o_reads
    o_readsAll
    refine wsl_T (by simp [HT.sIx]) ?_
    rw [show cutA [AV.int r.no, AV.str r.nm, AV.int r.pl, optA r.ln, AV.int r.rc, leA r.le] none (some 5) = [AV.int r.no, AV.str r.nm, AV.int r.pl, optA r.ln, AV.int r.rc] from rfl]
    o_readsAll
    refine wc_listL (.l (.inl (.inl rfl))) ?_
    o_readsAll
    exact ⟨rfl, rfl⟩
  · rw [List.filterMap_eq_map']
    exact q

theorem eqv_nil_rows (rs : List Rw) : PyData.eqv (.list (rs.map rowD)) (.list []) = rs.isEmpty := by
  cases rs with
  | nil => simp [PyData.eqv, PyData.eqvAll]
  | cons x r => simp [PyData.eqv, PyData.eqvAll]
theorem rw_at {rs : List Rw} {v : Int} (h0 : 0 ≤ v) (h1 : v < rs.length) : ∃ r, atI (rs.map rowA) v = some (rowA r) ∧ r ∈ rs := by
  obtain ⟨c, e, e2, hm⟩ := atI_some (xs := rs) h0 h1
  refine ⟨c, ?_, hm⟩
  obtain ⟨n, rfl⟩ : ∃ n : Nat, v = n := ⟨v.toNat, by omega⟩
  refine atI_nat ?_
  rw [List.getElem?_map]
  rw [Int.toNat_natCast] at e2
  rw [e2]; rfl
def spEdge : ASp := fun avs objs Φ => ∃ (b : Addr) (o : AO) (n : Nat) (rs : List Rw) (most : Int), avs = [.ptr b, .lst (rs.map rowA), .int most] ∧ objs = [(b, o)] ∧ BagO n o ∧ n + 10 ≤ 2 ^ 60 ∧ RwsOk rs ∧ (∀ r ∈ rs, RwB r) ∧ rs.length ≤ 4001 ∧ 0 < most ∧ most < 10 ^ 60 ∧ ∀ (v : Int) o', 0 ≤ v → BagO (n + 10) o' → Φ (.int v) [(b, o')]
theorem ok_law_edge (T : Tx fa fn K mg) : Ok P w K mg base 2 "_law_edge" ["bag", "rows", "most"] (toSp K spEdge) := by
  obtain ⟨fd, F⟩ := T.says.def_ 9 (d := dd_law_edge) rfl
  refine Ok.of F (T.glo 14 "_law_edge" rfl) sc_law_edge (fun _ _ _ _ _ _ us hl => match us, hl with | [_, _, _], _ => rfl) (fun avs objs Φ h => by (repeat (first | (obtain ⟨rfl, _⟩ := h; rfl) | (obtain ⟨_, h⟩ := h)))) (fun cdv A outer st H E hr => ⟨_, (pss_cons (ps_asg (pe_callO (ok_law_draw T) (hr.mono (by decide)) (by rfl) (pa_cons (pv 0) (pa_cons pe_int pa_nil))) (pg_name (i := 3) sc_law_edge.nd rfl (by first | exact Or.inl rfl | exact Or.inr rfl)))
    (pss_cons (ps_asg (pe_op op_subA (pe_callO (ok_law_draw T) (hr.mono (by decide)) (by rfl) (pa_cons (pv 0) (pa_cons pe_int pa_nil))) pe_int) (pg_name (i := 4) sc_law_edge.nd rfl (by first | exact Or.inl rfl | exact Or.inr rfl)))
    (pss_cons (ps_if (PW.pt (pw_or (pt_cmpR (op_eqA hr.units) (pv 3) pe_int (nomark _)) (pw_or1 (pt_cmpR (op_eqA hr.units) (pv 1) (pe_lst pa_nil) (nomark _))))) (pss_one (ps_ret (pe_callO (ok_law_draw T) (hr.mono (by decide)) (by rfl) (pa_cons (pv 0) (pa_cons (pe_op op_mulA pe_int (pv 2)) pa_nil))))) pss_nil)
    (pss_cons (ps_asg (pe_ix (ix_any (hr.u1)) (pv 1) (pe_callO (ok_law_draw T) (hr.mono (by decide)) (by rfl) (pa_cons (pv 0) (pa_cons (pe_callB c_len (by rfl) (T.free 2 "len" rfl) PySem.boot_len (pa_cons (pv 1) pa_nil)) pa_nil))) (fun _ _ => rfl)) (pg_name (i := 5) sc_law_edge.nd rfl (by first | exact Or.inl rfl | exact Or.inr rfl)))
    (pss_one (ps_ret (pe_callB (c_max rfl) (by rfl) (T.free 4 "max" rfl) (by decide +kernel) (pa_cons pe_int (pa_cons (pe_op op_addA (pe_op op_addA (pe_ix (ix_any (hr.u1)) (pv 5) pe_int (fun _ _ => rfl)) (pe_op op_mulA (pe_ix (ix_any (hr.u1)) (pv 5) pe_int (fun _ _ => rfl)) (pe_callO (ok_law_draw T) (hr.mono (by decide)) (by rfl) (pa_cons (pv 0) (pa_cons pe_int pa_nil))))) (pv 4)) pa_nil))))))))), ?_⟩)
  rintro avs objs Φ ⟨b, o, n, rs, most, rfl, rfl, hb, hn, hok, hrb, hl, hm0, hm1, q⟩
  dsimp only [startA, restA, cxOf]
  o_readsAll
  os_open 0 with wy o2 hwy hb2
  o_readsAll
  os_open 0 with of o3 hof hb3
  o_readsAll
  refine brD (fun h0 => ?_) (fun h0 => ?_)
  · refine brT rfl ?_
    o_readsAll
    os_open 0 with v o4 hv hb4
    exact q _ _ hv.1 (hb4.mono (by omega))
  · o_readsAll
    refine wr_eqD (d := .list (rs.map rowD)) (e := .list []) (.lst (rows_dn _ _)) (.lst .nil) (rows_shaped hok.1) (by decide) ?_
    rw [eqv_nil_rows]
    refine ⟨_, rfl, br (fun h1 => ?_) (fun h1 => ?_)⟩
    · o_readsAll
      os_open 0 with v o4 hv hb4
      exact q _ _ hv.1 (hb4.mono (by omega))
    · have hpos : 0 < rs.length := by
        cases rs with
        | nil => cases h1
        | cons x r => simp
      o_readsAll
      os_open 0 with v o4 hv hb4
      rw [List.length_map] at hv
      obtain ⟨r, hr, hrm⟩ := rw_at (rs := rs) hv.1 hv.2
      obtain ⟨r1, r2, r3, r4⟩ := hrb r hrm
      refine wr_ixL (.inl (.inl rfl)) hr ?_
      o_readsAll
      os_open 0 with w o5 hw hb5
      o_readsAll
      exact q _ _ (by split <;> omega) (hb5.mono (by omega))

def stayP (a b many : Int) (r : Rw) : Option Rw := if r.pl + r.rc ≤ a then some r else if b ≤ r.pl then some { r with pl := r.pl + many + a - b } else none
def putR (rs : List Rw) (a b many : Int) : List Rw := rs.filterMap (stayP a b many)
def dueP (rs : List Rw) (a b many : Int) : List Rw := sortK (putR rs a b many) (keysR (putR rs a b many))
theorem stayP_no {a b many : Int} {r s : Rw} (h : stayP a b many r = some s) : s.no = r.no ∧ s.nm = r.nm ∧ s.le = r.le := by
  unfold stayP at h
  split at h
  · cases h; exact ⟨rfl, rfl, rfl⟩
  · split at h
    · cases h; exact ⟨rfl, rfl, rfl⟩
    · cases h
theorem putR_nos (a b many : Int) : ∀ rs : List Rw, ((putR rs a b many).map (·.no)).Sublist (rs.map (·.no))
  | [] => .slnil
  | r :: rs => by
    unfold putR
    rw [List.filterMap_cons]
    cases h : stayP a b many r with
    | none => exact (putR_nos a b many rs).cons _
    | some s =>
      rw [List.map_cons, List.map_cons, (stayP_no h).1]
      exact (putR_nos a b many rs).cons_cons _
theorem putR_ok {rs : List Rw} {a b many : Int} (h : ∀ r ∈ rs, RwOk r) : ∀ r ∈ putR rs a b many, RwOk r := fun s hs => by
  obtain ⟨r, hr, e⟩ := List.mem_filterMap.mp hs
  obtain ⟨e1, e2, e3⟩ := stayP_no e
  obtain ⟨h1, h2, h3⟩ := h r hr
  exact ⟨e2 ▸ h1, by rw [e3]; exact h2, by rw [e3]; exact h3⟩
theorem putR_len (rs : List Rw) (a b many : Int) : (putR rs a b many).length ≤ rs.length := List.length_filterMap_le _ _
theorem dueP_ok {rs : List Rw} {a b many : Int} (h : ∀ r ∈ rs, RwOk r) : ∀ r ∈ dueP rs a b many, RwOk r := fun s hs => putR_ok h s ((sortK_perm (keysR_len _)).mem_iff.mp hs)
theorem dueP_len (rs : List Rw) (a b many : Int) : (dueP rs a b many).length ≤ rs.length := by
  unfold dueP
  rw [(sortK_perm (keysR_len _)).length_eq]
  exact putR_len _ _ _ _
theorem putR_snoc (rs : List Rw) (r : Rw) (a b many : Int) : putR (rs ++ [r]) a b many = putR rs a b many ++ (stayP a b many r).toList := by
  unfold putR
  rw [List.filterMap_append, List.filterMap_cons]
  cases stayP a b many r <;> rfl
abbrev nrA (r : Rw) : AV := .lst [.int r.no, rowA r]
def spDue : ASp := fun avs objs Φ => ∃ (rs : List Rw) (a b many : Int), avs = [.lst (rs.map rowA), .int a, .int b, .int many] ∧ objs = [] ∧ RwsOk rs ∧ (∀ r ∈ rs, RwB r) ∧ rs.length ≤ 4001 ∧ a ≤ b ∧ Φ (.lst ((dueP rs a b many).map rowA)) []
theorem ok_law_due (T : Tx fa fn K mg) : Ok P w K mg base 2 "_law_due" ["rows", "a", "b", "many"] (toSp K spDue) := by
  obtain ⟨fd, F⟩ := T.says.def_ 10 (d := dd_law_due) rfl
  refine Ok.of F (T.glo 15 "_law_due" rfl) sc_law_due (fun _ _ _ _ _ _ us hl => match us, hl with | [_, _, _, _], _ => rfl) (fun avs objs Φ h => by (repeat (first | (obtain ⟨rfl, _⟩ := h; rfl) | (obtain ⟨_, h⟩ := h)))) (fun cdv A outer st H E hr => ⟨_, (pss_cons (ps_asg (pe_mut (pe_lst pa_nil)) (pg_name (i := 4) sc_law_due.nd rfl (by first | exact Or.inl rfl | exact Or.inr rfl)))
    (pss_cons (ps_for PassesOwn.never rfl (pi_list (pv 0)) (pg_sq rfl (pgs_cons (pg_name (i := 5) sc_law_due.nd rfl (by first | exact Or.inl rfl | exact Or.inr rfl)) (pgs_cons (pg_name (i := 6) sc_law_due.nd rfl (by first | exact Or.inl rfl | exact Or.inr rfl)) (pgs_cons (pg_name (i := 7) sc_law_due.nd rfl (by first | exact Or.inl rfl | exact Or.inr rfl)) (pgs_cons (pg_name (i := 8) sc_law_due.nd rfl (by first | exact Or.inl rfl | exact Or.inr rfl)) (pgs_cons (pg_name (i := 9) sc_law_due.nd rfl (by first | exact Or.inl rfl | exact Or.inr rfl)) (pgs_cons (pg_name (i := 10) sc_law_due.nd rfl (by first | exact Or.inl rfl | exact Or.inr rfl)) pgs_nil))))))) (pss_cons (ps_if (pt_cmpR op_leA (pe_op op_addA (pv 7) (pv 9)) (pv 1) (nomark _)) (pss_one (ps_expr (pe_bm PySem.F.plainAttrs_list PySem.F.slot_list_append PySem.F.type_list_append mt_append (pv 4) (pa_cons (pe_lst (pa_cons (pv 5) (pa_cons (pe_tup (pa_cons (pv 5) (pa_cons (pv 6) (pa_cons (pv 7) (pa_cons (pv 8) (pa_cons (pv 9) (pa_cons (pe_callTy (c_list rfl) (by rfl) (T.free 13 "list" rfl) (by decide +kernel) (pa_cons (pv 10) pa_nil)) pa_nil))))))) pa_nil))) pa_nil)))) pss_nil)
    (pss_one (ps_if (pt_cmpR op_geA (pv 7) (pv 2) (nomark _)) (pss_one (ps_expr (pe_bm PySem.F.plainAttrs_list PySem.F.slot_list_append PySem.F.type_list_append mt_append (pv 4) (pa_cons (pe_lst (pa_cons (pv 5) (pa_cons (pe_tup (pa_cons (pv 5) (pa_cons (pv 6) (pa_cons (pe_op op_subA (pe_op op_addA (pe_op op_addA (pv 7) (pv 3)) (pv 1)) (pv 2)) (pa_cons (pv 8) (pa_cons (pv 9) (pa_cons (pe_callTy (c_list rfl) (by rfl) (T.free 13 "list" rfl) (by decide +kernel) (pa_cons (pv 10) pa_nil)) pa_nil))))))) pa_nil))) pa_nil)))) pss_nil))))
    (pss_one (ps_ret (pe_lc (own := [("number", 5), ("row", 11)]) (g := (gSq K 2 (gCons (gName 5) (gCons (gName 11) gNil)))) rfl sc_law_due.nd (pi_list (pe_callB (c_sortB rfl hr.u65) (by rfl) (T.free 9 "sorted" rfl) (by decide +kernel) (pa_cons (pv 4) pa_nil))) (blkOk_by (own := [("number", 5), ("row", 11)]) (N := ["rows", "a", "b", "many", "found", "number", "name", "place", "length", "reach", "leans", "row"]) (sc := defScope s_law_due) (by decide +kernel)) (fun _ _ _ _ _ => pg_as (pg_sq rfl (pgs_cons (pg_name (i := 5) sc_law_due.nd rfl (by first | exact Or.inl rfl | exact Or.inr rfl)) (pgs_cons (pg_name (i := 11) sc_law_due.nd rfl (by first | exact Or.inl rfl | exact Or.inr rfl)) pgs_nil))) (by first | exact rfl | (dsimp only [cxOf]; done) | (dsimp only [cxOf]; exact rfl))) (fun _ _ _ _ _ => pts_nil) (fun _ _ _ _ _ => pe_as (pv 11) (by first | exact rfl | (dsimp only [cxOf]; done) | (dsimp only [cxOf]; exact rfl)))))))), ?_⟩)
  rintro avs objs Φ ⟨rs, a, b, many, rfl, rfl, ⟨hok, hnd⟩, hrb, hl, hab, q⟩
  dsimp only [startA, restA, cxOf]
  o_readsAll
  intro p
  o_readsAll
  refine sn_for (wi_list ?_)
  o_readsAll
  refine ⟨_, .inl rfl, fun i δ' Γ' => i ≤ rs.length ∧ ∃ (x5 x6 x7 x8 x9 x10 x11 : Option AV), δ' = [some (.lst (rs.map rowA)), some (.int a), some (.int b), some (.int many), some (.ptr p), x5, x6, x7, x8, x9, x10, x11] ∧ Γ' = [(p, .lst ((putR (rs.take i) a b many).map nrA))],
    ⟨Nat.zero_le _, _, _, _, _, _, _, _, rfl, rfl⟩, fun _ _ _ _ => trivial, ?_, ?_⟩
  · rintro i d δ' Γ' hd ⟨hi, x5, x6, x7, x8, x9, x10, x11, rfl, rfl⟩
    rw [List.getElem?_map] at hd
    obtain ⟨r, hr, rfl⟩ := Option.map_eq_some_iff.mp hd
    have hlt : i < rs.length := (List.getElem?_eq_some_iff.mp hr).1
    have hrm : r ∈ rs := List.mem_of_getElem? hr
    obtain ⟨r1, r2, r3, r4⟩ := hrb r hrm
    have et : rs.take (i + 1) = rs.take i ++ [r] := by rw [List.take_add_one, hr]; rfl
    have hfl : (putR (rs.take i) a b many).length ≤ 4001 := Nat.le_trans (putR_len _ _ _ _) (by rw [List.length_take]; omega)
    o_readsAll
    refine brD (fun h0 => ?_) (fun h0 => ?_)
    · o_readsAll
      refine wc_listL (.l (.inl (.inl rfl))) ?_
      o_readsAll
      refine brD (fun h1 => absurd h1 (by omega)) (fun h1 => ?_)
      o_readsAll
      refine ⟨hlt, _, _, _, _, _, _, _, rfl, ?_⟩
      rw [et, putR_snoc, stayP, if_pos h0, List.map_append]; rfl
    · o_readsAll
      refine brD (fun h1 => ?_) (fun h1 => ?_)
      · o_readsAll
        refine wc_listL (.l (.inl (.inl rfl))) ?_
        o_readsAll
        refine ⟨hlt, _, _, _, _, _, _, _, rfl, ?_⟩
        rw [et, putR_snoc, stayP, if_neg h0, if_pos h1, List.map_append]; rfl
      · o_readsAll
        refine ⟨hlt, _, _, _, _, _, _, _, rfl, ?_⟩
        rw [et, putR_snoc, stayP, if_neg h0, if_neg h1, List.map_append]; simp
  · rintro δ' Γ' ⟨hi, x5, x6, x7, x8, x9, x10, x11, rfl, rfl⟩
    rw [List.length_map, List.take_length]
    have hds : ((putR rs a b many).map (·.no)).Nodup := List.Nodup.sublist (putR_nos _ _ _ _) hnd
    have hdl : (putR rs a b many).length ≤ 4001 := Nat.le_trans (putR_len _ _ _ _) hl
    unfold dueP at q
    generalize putR rs a b many = ds at hds hdl q
    o_readsAll
    refine we_post ?_
    refine we_lc (own_sq (owns_cons (own_name ?hv) (owns_cons (own_name ?hw) owns_nil))) ?_; (case hv => simp); (case hw => simp)
    refine wi_list ?_
    o_readsAll
    refine wc_sorted (ks := keysR ds) (.inl (.inr ⟨_, 0, rfl, rfl⟩)) (.inr ⟨false, ?_, toks_nodup hds, alike_ints _, flat_ints _⟩) ?_
    · unfold keysR
      generalize ([(p, AO.lst (List.map nrA ds))] : Gam) = Γ
      clear q hds hdl
      induction ds with
      | nil => exact .nil
      | cons x r ih => exact .cons ⟨_, _, by simp only [Bool.false_eq_true, if_false]; exact .inl (.inl rfl), .int _⟩ ih
    rw [← sortK_map]
    o_readsAll
    refine ⟨_, .inl rfl, lcF (f := fun r => some (rowA r)) (by rw [(sortK_perm (keysR_len ds)).length_eq, sizeLine_eq]; omega) trivial (fun i r hr => ?_) ?_⟩
    · dsimp only [wipeA, List.map, List.set]
      refine wg_sqL (.inl (.inl rfl)) rfl ?_
      o_readsAll
      exact ⟨rfl, rfl⟩
    · rw [List.filterMap_eq_map']
      exact ⟨_, _, Wv.drop (List.nil_sublist _), q⟩

def spWhole : ASp := fun avs objs Φ => ∃ i : Int, avs = [.int i] ∧ objs = [] ∧ Φ (.bl true) []
theorem ok_law_whole (T : Tx fa fn K mg) : Ok P w K mg base 1 "_law_whole" ["found"] (toSp K spWhole) := by
  obtain ⟨fd, F⟩ := T.says.def_ 11 (d := dd_law_whole) rfl
  refine Ok.of F (T.glo 16 "_law_whole" rfl) sc_law_whole (fun _ _ _ _ _ _ us hl => match us, hl with | [_], _ => rfl) (fun avs objs Φ h => by (repeat (first | (obtain ⟨rfl, _⟩ := h; rfl) | (obtain ⟨_, h⟩ := h)))) (fun cdv A outer st H E hr => ⟨_, (pss_one (ps_ret (pe_and (pe_callB c_isi (by rfl) (T.free 17 "isinstance" rfl) (by decide +kernel) (pa_cons (pv 0) (pa_cons (pe_bltn (v := .ty "int") (by rfl) (T.free 19 "int" rfl) (by decide +kernel) rfl) pa_nil))) (pe_one (pe_not (pe_callB c_isi (by rfl) (T.free 17 "isinstance" rfl) (by decide +kernel) (pa_cons (pv 0) (pa_cons (pe_bltn (v := .ty "bool") (by rfl) (T.free 18 "bool" rfl) (by decide +kernel) rfl) pa_nil)))))))), ?_⟩)
  rintro avs objs Φ ⟨i, rfl, rfl, q⟩
  dsimp only [startA, restA, cxOf]
  o_readsAll
  exact q
def spNumber : ASp := fun avs objs Φ => ∃ (n : Int) (xs : List AV), avs = [.tup (.int n :: xs)] ∧ objs = [] ∧ Φ (.int n) []
theorem ok_number_of (T : Tx fa fn K mg) : Ok P w K mg base 1 "number_of" ["row"] (toSp K spNumber) := by
  obtain ⟨fd, F⟩ := T.says.def_ 0 (d := dd_number_of) rfl
  refine Ok.of F (T.glo 20 "number_of" rfl) sc_number_of (fun _ _ _ _ _ _ us hl => match us, hl with | [_], _ => rfl) (fun avs objs Φ h => by (repeat (first | (obtain ⟨rfl, _⟩ := h; rfl) | (obtain ⟨_, h⟩ := h)))) (fun cdv A outer st H E hr => ⟨_, (pss_one (ps_ret (pe_ix (ix_any (hr.u1)) (pv 0) pe_int (fun _ _ => rfl)))), ?_⟩)
  rintro avs objs Φ ⟨n, xs, rfl, rfl, q⟩
  dsimp only [startA, restA, cxOf]
  o_readsAll
  exact q

def spBehind : ASp := fun avs objs Φ => ∃ (rs : List Rw) (a b many : Int), avs = [.lst (rs.map rowA), .int a, .int b, .int many] ∧ objs = [] ∧ RwsOk rs ∧ rs.length ≤ 4001 ∧ ∀ (p : Addr) (zs : List (Rw × Addr)), zs.map (·.1) = dueP rs a b many → Φ (.ptr p) ((p, .lst (zs.map zA)) :: zs.map zO)
theorem ok_behind_put (T : Tx fa fn K mg) : Ok P w K mg base 4 "behind_put" ["rows", "a", "b", "many"] (toSp K spBehind) := by
  obtain ⟨fd, F⟩ := T.says.def_ 1 (d := dd_behind_put) rfl
  refine Ok.of F (T.glo 21 "behind_put" rfl) sc_behind_put (fun _ _ _ _ _ _ us hl => match us, hl with | [_, _, _, _], _ => rfl) (fun avs objs Φ h => by (repeat (first | (obtain ⟨rfl, _⟩ := h; rfl) | (obtain ⟨_, h⟩ := h)))) (fun cdv A outer st H E hr => ⟨_, (pss_cons (ps_asg (pe_op op_subA (pv 3) (pe_op op_subA (pv 2) (pv 1))) (pg_name (i := 4) sc_behind_put.nd rfl (by first | exact Or.inl rfl | exact Or.inr rfl)))
    (pss_cons (ps_asg (pe_mut (pe_lst pa_nil)) (pg_name (i := 5) sc_behind_put.nd rfl (by first | exact Or.inl rfl | exact Or.inr rfl)))
    (pss_cons (ps_for PassesOwn.never rfl (pi_list (pv 0)) (pg_sq rfl (pgs_cons (pg_name (i := 6) sc_behind_put.nd rfl (by first | exact Or.inl rfl | exact Or.inr rfl)) (pgs_cons (pg_name (i := 7) sc_behind_put.nd rfl (by first | exact Or.inl rfl | exact Or.inr rfl)) (pgs_cons (pg_name (i := 8) sc_behind_put.nd rfl (by first | exact Or.inl rfl | exact Or.inr rfl)) (pgs_cons (pg_name (i := 9) sc_behind_put.nd rfl (by first | exact Or.inl rfl | exact Or.inr rfl)) (pgs_cons (pg_name (i := 10) sc_behind_put.nd rfl (by first | exact Or.inl rfl | exact Or.inr rfl)) (pgs_cons (pg_name (i := 11) sc_behind_put.nd rfl (by first | exact Or.inl rfl | exact Or.inr rfl)) pgs_nil))))))) (pss_one (ps_if (pt_cmpR op_leA (pe_op op_addA (pv 8) (pv 10)) (pv 1) (nomark _)) (pss_one (ps_expr (pe_bm PySem.F.plainAttrs_list PySem.F.slot_list_append PySem.F.type_list_append mt_append (pv 5) (pa_cons (pe_tup (pa_cons (pv 6) (pa_cons (pv 7) (pa_cons (pv 8) (pa_cons (pv 9) (pa_cons (pv 10) (pa_cons (pe_mut (pe_callTy (c_list rfl) (by rfl) (T.free 13 "list" rfl) (by decide +kernel) (pa_cons (pv 11) pa_nil))) pa_nil))))))) pa_nil)))) (pss_one (ps_if (pt_cmpR op_geA (pv 8) (pv 2) (nomark _)) (pss_one (ps_expr (pe_bm PySem.F.plainAttrs_list PySem.F.slot_list_append PySem.F.type_list_append mt_append (pv 5) (pa_cons (pe_tup (pa_cons (pv 6) (pa_cons (pv 7) (pa_cons (pe_op op_addA (pv 8) (pv 4)) (pa_cons (pv 9) (pa_cons (pv 10) (pa_cons (pe_mut (pe_callTy (c_list rfl) (by rfl) (T.free 13 "list" rfl) (by decide +kernel) (pa_cons (pv 11) pa_nil))) pa_nil))))))) pa_nil)))) pss_nil)))))
    (pss_one (ps_ret (pe_mut (pe_sortKey (ok_number_of T) (hr.mono (by decide)) (by rfl) (T.free 9 "sorted" rfl) (by rfl) (pv 5)))))))), ?_⟩)
  rintro avs objs Φ ⟨rs, a, b, many, rfl, rfl, ⟨hok, hnd⟩, hl, q⟩
  dsimp only [startA, restA, cxOf]
  o_readsAll
  intro p
  o_readsAll
  refine sn_for (wi_list ?_)
  o_readsAll
  refine ⟨_, .inl rfl, fun i δ' Γ' => i ≤ rs.length ∧ ∃ (zs : List (Rw × Addr)) (x6 x7 x8 x9 x10 x11 : Option AV), δ' = [some (.lst (rs.map rowA)), some (.int a), some (.int b), some (.int many), some (.int (many - (b - a))), some (.ptr p), x6, x7, x8, x9, x10, x11] ∧ zs.map (·.1) = putR (rs.take i) a b many ∧ Γ' = (p, .lst (zs.map zA)) :: zs.reverse.map zO,
    ⟨Nat.zero_le _, [], _, _, _, _, _, _, rfl, rfl, rfl⟩, fun _ _ _ _ => trivial, ?_, ?_⟩
  · rintro i d δ' Γ' hd ⟨hi, zs, x6, x7, x8, x9, x10, x11, rfl, hz, rfl⟩
    rw [List.getElem?_map] at hd
    obtain ⟨r, hr, rfl⟩ := Option.map_eq_some_iff.mp hd
    have hlt : i < rs.length := (List.getElem?_eq_some_iff.mp hr).1
    have et : rs.take (i + 1) = rs.take i ++ [r] := by rw [List.take_add_one, hr]; rfl
    have hzl : zs.length ≤ 4001 := by
      have := congrArg List.length hz
      rw [List.length_map] at this
      rw [this]
      exact Nat.le_trans (putR_len _ _ _ _) (by rw [List.length_take]; omega)
    refine wg_sqT rfl ?_
    o_readsAll
    refine brD (fun h => ?_) (fun h => ?_)
    · refine ws_nxwk ?_
      dsimp only
      o_readsAll
      refine wcm_list (.l (.inl (.inl rfl))) fun q' => ?_
      o_readsAll
      refine ⟨_, _, Wk.perm (List.Perm.swap _ _ _), hlt, zs ++ [(r, q')], _, _, _, _, _, _, rfl, ?_, ?_⟩
      · rw [List.map_append, hz, et, putR_snoc, stayP, if_pos h]; rfl
      · rw [List.map_append, List.reverse_append]; rfl
    · o_readsAll
      refine brD (fun h1 => ?_) (fun h1 => ?_)
      · refine ws_nxwk ?_
        dsimp only
        o_readsAll
        refine wcm_list (.l (.inl (.inl rfl))) fun q' => ?_
        o_readsAll
        rw [show r.pl + (many - (b - a)) = r.pl + many + a - b by omega]
        refine ⟨_, _, Wk.perm (List.Perm.swap _ _ _), hlt, zs ++ [({ r with pl := r.pl + many + a - b }, q')], _, _, _, _, _, _, rfl, ?_, ?_⟩
        · rw [List.map_append, hz, et, putR_snoc, stayP, if_neg h, if_pos h1]; rfl
        · rw [List.map_append, List.reverse_append]; rfl
      · o_readsAll
        refine ⟨hlt, zs, _, _, _, _, _, _, rfl, ?_, rfl⟩
        rw [hz, et, putR_snoc, stayP, if_neg h, if_neg h1]; simp
  · rintro δ' Γ' ⟨hi, zs, x6, x7, x8, x9, x10, x11, rfl, hz, rfl⟩
    rw [List.length_map, List.take_length] at hz
    refine sn_ret (we_post ?_)
    refine we_mutSortKey ?_
    o_readsAll
    have hkl : (keysR (zs.map (·.1))).length = zs.length := by rw [keysR_len, List.length_map]
    refine ⟨zs.map zA, keysR (zs.map (·.1)), .inl (.inr ⟨_, 0, rfl, rfl⟩), by rw [hkl, List.length_map], alike_ints _, flat_ints _, ?_, fun p2 => ?_⟩
    · intro j y k hy hk
      rw [List.getElem?_map] at hy
      obtain ⟨z, hz1, rfl⟩ := Option.map_eq_some_iff.mp hy
      unfold keysR at hk
      rw [List.getElem?_map, List.getElem?_map, List.getElem?_map, hz1] at hk
      cases hk
      exact ⟨_, _, rfl, rfl, .inl ⟨_, rfl, rfl⟩, rfl⟩
    · have hp := sortK_perm hkl
      refine ⟨.ptr p2, (p2, .lst ((sortK zs (keysR (zs.map (·.1)))).map zA)) :: (sortK zs (keysR (zs.map (·.1)))).map zO, ?_, q p2 _ ?_⟩
      · rw [sortK_map]
        refine (Wv.drop (List.Sublist.cons_cons _ (List.sublist_cons_self _ _))).trans (Wv.perm ?_)
        refine List.Perm.cons _ ?_
        exact ((List.reverse_perm zs).trans hp.symm).map zO
      · unfold dueP
        rw [sortK_map, ← hz]

def spSame : ASp := fun avs objs Φ => ∃ (p : Addr) (zs : List (Rw × Addr)), avs = [.ptr p, .lst ((zs.map (·.1)).map rowA)] ∧ objs = (p, .lst (zs.map zA)) :: zs.map zO ∧ (∀ z ∈ zs, RwOk z.1) ∧ zs.length ≤ 4001 ∧ Φ (.bl true) objs
theorem ok_law_same_rows (T : Tx fa fn K mg) : Ok P w K mg base 4 "_law_same_rows" ["found", "due"] (toSp K spSame) := by
  obtain ⟨fd, F⟩ := T.says.def_ 12 (d := dd_law_same_rows) rfl
  refine Ok.of F (T.glo 22 "_law_same_rows" rfl) sc_law_same_rows (fun _ _ _ _ _ _ us hl => match us, hl with | [_, _], _ => rfl) (fun avs objs Φ h => by (repeat (first | (obtain ⟨rfl, _⟩ := h; rfl) | (obtain ⟨_, h⟩ := h)))) (fun cdv A outer st H E hr => ⟨_, (pss_cons (ps_if (PW.pt (pw_or (pt_not (pt_val (pe_callB c_isi (by rfl) (T.free 17 "isinstance" rfl) (by decide +kernel) (pa_cons (pv 0) (pa_cons (pe_bltn (v := .ty "list") (by rfl) (T.free 13 "list" rfl) (by decide +kernel) rfl) pa_nil))))) (pw_or1 (pt_cmpR (op_neA hr.units) (pv 0) (pv 1) (nomark _))))) (pss_one (ps_ret pe_bl)) pss_nil)
    (pss_cons (ps_for PassesOwn.never rfl (pi_list (pv 0)) (pg_name (i := 2) sc_law_same_rows.nd rfl (by first | exact Or.inl rfl | exact Or.inr rfl)) (pss_cons (ps_if (PW.pt (pw_or (pt_not (pt_val (pe_callB c_isi (by rfl) (T.free 17 "isinstance" rfl) (by decide +kernel) (pa_cons (pv 2) (pa_cons (pe_bltn (v := .ty "tuple") (by rfl) (T.free 23 "tuple" rfl) (by decide +kernel) rfl) pa_nil))))) (pw_or1 (pt_not (pt_val (pe_callB c_isi (by rfl) (T.free 17 "isinstance" rfl) (by decide +kernel) (pa_cons (pe_ix (ix_any (hr.u1)) (pv 2) pe_int (fun _ _ => rfl)) (pa_cons (pe_bltn (v := .ty "list") (by rfl) (T.free 13 "list" rfl) (by decide +kernel) rfl) pa_nil)))))))) (pss_one (ps_ret pe_bl)) pss_nil)
    (pss_one (ps_if (PW.pt (pw_or (pt_cmpR (op_neA hr.units) (pe_lc (own := [("one", 3)]) (g := (gName 3)) rfl sc_law_same_rows.nd (pi_list (pe_lst (pa_cons (pe_ix (ix_any (hr.u1)) (pv 2) pe_int (fun _ _ => rfl)) (pa_cons (pe_ix (ix_any (hr.u1)) (pv 2) pe_int (fun _ _ => rfl)) (pa_cons (pe_ix (ix_any (hr.u1)) (pv 2) pe_int (fun _ _ => rfl)) pa_nil))))) (blkOk_by (own := [("one", 3)]) (N := ["found", "due", "row", "one"]) (sc := defScope s_law_same_rows) (by decide +kernel)) (fun _ _ _ _ _ => pg_as (pg_name (i := 3) sc_law_same_rows.nd rfl (by first | exact Or.inl rfl | exact Or.inr rfl)) (by first | exact rfl | (dsimp only [cxOf]; done) | (dsimp only [cxOf]; exact rfl))) (fun _ _ _ _ _ => pts_as (pts_one (pt_not (pt_tr (pe_callO (ok_law_whole T) (hr.mono (by decide)) (by rfl) (pa_cons (pv 3) pa_nil)) (by intro _; rfl)))) (by first | exact rfl | (dsimp only [cxOf]; done) | (dsimp only [cxOf]; exact rfl))) (fun _ _ _ _ _ => pe_as (pv 3) (by first | exact rfl | (dsimp only [cxOf]; done) | (dsimp only [cxOf]; exact rfl)))) (pe_lst pa_nil) (nomark _)) (pw_or1 (pt_val (pe_callB c_isi (by rfl) (T.free 17 "isinstance" rfl) (by decide +kernel) (pa_cons (pe_ix (ix_any (hr.u1)) (pv 2) pe_int (fun _ _ => rfl)) (pa_cons (pe_bltn (v := .ty "bool") (by rfl) (T.free 18 "bool" rfl) (by decide +kernel) rfl) pa_nil))))))) (pss_one (ps_ret pe_bl)) pss_nil))))
    (pss_one (ps_ret pe_bl)))), ?_⟩)
  rintro avs objs Φ ⟨p, zs, rfl, rfl, hok, hl, q⟩
  dsimp only [startA, restA, cxOf]
  have hdn : Dn ((p, .lst (zs.map zA)) :: zs.map zO) (.ptr p) (.list ((zs.map (·.1)).map rowD)) := .live (List.mem_cons_self) (zs_dn fun z hz => List.mem_cons_of_mem _ (List.mem_map.mpr ⟨z, hz, rfl⟩))
  have hsh : SeqAt.shaped (.list ((zs.map (·.1)).map rowD)) = true := rows_shaped fun r hr => by
    obtain ⟨z, hz, rfl⟩ := List.mem_map.mp hr
    exact hok z hz
  o_readsAll
  refine wr_neD hdn (.lst (rows_dn _ _)) hsh hsh ?_
  rw [eqv_same hsh]
  o_readsAll
  refine sn_for (wi_live ?_)
  o_readsAll
  refine ⟨p, _, rfl, ⟨0, rfl⟩, fun i δ' Γ' => ∃ (x2 x3 : Option AV), δ' = [some (.ptr p), some (.lst ((zs.map (·.1)).map rowA)), x2, x3] ∧ Γ' = (p, .lst (zs.map zA)) :: zs.map zO, ⟨_, _, rfl, rfl⟩, ?_, ?_, ?_⟩
  · rintro i δ' Γ' ⟨x2, x3, rfl, rfl⟩
    exact ⟨0, rfl⟩
  · rintro i d δ' Γ' hd ⟨x2, x3, rfl, rfl⟩
    rw [List.getElem?_map] at hd
    obtain ⟨z, hz, rfl⟩ := Option.map_eq_some_iff.mp hd
    have hix : ((p, AO.lst (zs.map zA)) :: zs.map zO)[i + 1]? = some (zO z) := by rw [List.getElem?_cons_succ, List.getElem?_map, hz]; rfl
    have hoz : RwOk z.1 := hok z (List.mem_of_getElem? hz)
    o_readsAll
    refine wc_isi (T := "list") (TnA.lst (.inr ⟨_, i + 1, rfl, hix⟩)) rfl ?_
    o_readsAll
    refine we_lc (own_name ?hv) ?_; (case hv => exact List.mem_singleton.mpr rfl)
    refine wi_list ?_
    o_readsAll
    refine ⟨_, .inl rfl, lcF (as := [z.1.no, z.1.pl, z.1.rc]) (e := AV.int) (f := fun _ => none) (sz (by simp)) trivial (fun j x hx => ?_) ?_⟩
    · dsimp only [wipeA, List.map, List.set]
      o_readsAll
      refine we_call0 ?_
      o_readsAll
      refine ⟨rfl, _, pm0 rfl, ?_⟩
      o_readsAll
      exact ⟨rfl, rfl⟩
    · o_readsAll
      refine wr_neD (d := .list []) (e := .list []) (.lst .nil) (.lst .nil) (by decide) (by decide) ?_
      rw [eqv_same (by decide)]
      o_readsAll
      obtain ⟨T, t1, t2⟩ := optA_tn ((p, AO.lst (zs.map zA)) :: zs.map zO) z.1.ln
      refine wc_isi t1 t2 ?_
      o_readsAll
      exact ⟨_, _, rfl, rfl⟩
  · rintro δ' Γ' ⟨x2, x3, rfl, rfl⟩
    o_readsAll
    exact q

def zZ (z : Rw × Addr) : Addr × AO := (z.2, .lst ((z.1.le ++ [Str.ofString "zz"]).map AV.str))
theorem int_pick {w x y : Int} (h : 0 ≤ w ∧ w < 2) : ∃ z : Int, atI [AV.int x, .int y] w = some (.int z) ∧ (z = x ∨ z = y) := by
  obtain rfl | rfl : w = 0 ∨ w = 1 := by omega
  · exact ⟨x, rfl, .inl rfl⟩
  · exact ⟨y, rfl, .inr rfl⟩
def spLaw : ASp := fun avs objs Φ => ∃ ns : List Int, avs = [.rol (ns.map AV.int)] ∧ objs = [] ∧ ns.length ≤ 63 ∧ Φ (.bl true) []
theorem ok_law (T : Tx fa fn K mg) : OkU P w K mg 5 "law" ["script"] (toSp K spLaw) := by
  obtain ⟨fd, F⟩ := T.says.def_ 13 (d := dd_law) rfl
  refine OkU.of F (T.glo 0 "law" rfl) sc_law (fun _ _ _ _ _ _ us hl => match us, hl with | [_], _ => rfl) (fun avs objs Φ h => by (repeat (first | (obtain ⟨rfl, _⟩ := h; rfl) | (obtain ⟨_, h⟩ := h)))) (fun base cdv A outer st H E hr => ⟨_, (pss_cons (ps_for PassesOwn.never rfl (pi_range1 (by rfl) (T.free 7 "range" rfl) (pa_cons (pe_callB (c_max rfl) (by rfl) (T.free 4 "max" rfl) (by decide +kernel) (pa_cons pe_int (pa_cons (pe_callB (c_min rfl) (by rfl) (T.free 24 "min" rfl) (by decide +kernel) (pa_cons pe_int (pa_cons (pe_callB c_len (by rfl) (T.free 2 "len" rfl) PySem.boot_len (pa_cons (pv 0) pa_nil)) pa_nil))) pa_nil))) pa_nil)) (pg_name (i := 1) sc_law.nd rfl (by first | exact Or.inl rfl | exact Or.inr rfl)) (pss_cons (ps_asg (pe_callO (ok_law_bag T) (hr.mono (by decide)) (by rfl) (pa_cons (pe_callO (ok_law_cell_at T) (hr.mono (by decide)) (by rfl) (pa_cons (pv 0) (pa_cons (pv 1) pa_nil))) pa_nil)) (pg_name (i := 2) sc_law.nd rfl (by first | exact Or.inl rfl | exact Or.inr rfl)))
    (pss_cons (ps_asg (pe_ix (ix_any (hr.u1)) (pe_lst (pa_cons pe_int (pa_cons pe_int (pa_cons pe_int (pa_cons (pe_op op_powA pe_int pe_int) pa_nil))))) (pe_callO (ok_law_draw T) (hr.mono (by decide)) (by rfl) (pa_cons (pv 2) (pa_cons pe_int pa_nil))) (fun _ _ => rfl)) (pg_name (i := 3) sc_law.nd rfl (by first | exact Or.inl rfl | exact Or.inr rfl)))
    (pss_cons (ps_asg (pe_callO (ok_law_rows T) (hr.mono (by decide)) (by rfl) (pa_cons (pv 2) (pa_cons (pv 3) pa_nil))) (pg_name (i := 4) sc_law.nd rfl (by first | exact Or.inl rfl | exact Or.inr rfl)))
    (pss_cons (ps_if (PW.pt (pw_and (pt_cmpR (op_eqA hr.units) (pv 1) pe_int (nomark _)) (pw_and1 (pt_cmpR (op_eqA hr.units) (pv 3) pe_int (nomark _))))) (pss_one (ps_asg (pe_callO (ok_law_many_rows T) (hr.mono (by decide)) (by rfl) (pa_cons (pv 2) pa_nil)) (pg_name (i := 4) sc_law.nd rfl (by first | exact Or.inl rfl | exact Or.inr rfl)))) pss_nil)
    (pss_cons (ps_asg (pe_callO (ok_law_edge T) (hr.mono (by decide)) (by rfl) (pa_cons (pv 2) (pa_cons (pv 4) (pa_cons (pv 3) pa_nil)))) (pg_name (i := 5) sc_law.nd rfl (by first | exact Or.inl rfl | exact Or.inr rfl)))
    (pss_cons (ps_asg (pe_ix (ix_any (hr.u1)) (pe_lst (pa_cons (pv 5) (pa_cons (pe_callO (ok_law_edge T) (hr.mono (by decide)) (by rfl) (pa_cons (pv 2) (pa_cons (pv 4) (pa_cons (pv 3) pa_nil)))) pa_nil))) (pe_callO (ok_law_draw T) (hr.mono (by decide)) (by rfl) (pa_cons (pv 2) (pa_cons pe_int pa_nil))) (fun _ _ => rfl)) (pg_name (i := 6) sc_law.nd rfl (by first | exact Or.inl rfl | exact Or.inr rfl)))
    (pss_cons (ps_par (i := 7) (j := 8) rfl sc_law.nd rfl rfl (by decide) rfl rfl (pa_cons (pe_callB (c_min rfl) (by rfl) (T.free 24 "min" rfl) (by decide +kernel) (pa_cons (pv 5) (pa_cons (pv 6) pa_nil))) (pa_cons (pe_callB (c_max rfl) (by rfl) (T.free 4 "max" rfl) (by decide +kernel) (pa_cons (pv 5) (pa_cons (pv 6) pa_nil))) pa_nil)) (by rfl))
    (pss_cons (ps_asg (pe_callO (ok_law_draw T) (hr.mono (by decide)) (by rfl) (pa_cons (pv 2) (pa_cons (pe_ix (ix_any (hr.u1)) (pe_lst (pa_cons pe_int (pa_cons (pv 3) pa_nil))) (pe_callO (ok_law_draw T) (hr.mono (by decide)) (by rfl) (pa_cons (pv 2) (pa_cons pe_int pa_nil))) (fun _ _ => rfl)) pa_nil))) (pg_name (i := 9) sc_law.nd rfl (by first | exact Or.inl rfl | exact Or.inr rfl)))
    (pss_cons (ps_asg (pe_callO (ok_law_due T) (hr.mono (by decide)) (by rfl) (pa_cons (pv 4) (pa_cons (pv 7) (pa_cons (pv 8) (pa_cons (pv 9) pa_nil))))) (pg_name (i := 10) sc_law.nd rfl (by first | exact Or.inl rfl | exact Or.inr rfl)))
    (pss_cons (ps_asg (pe_callO (ok_law_copy T) (hr.mono (by decide)) (by rfl) (pa_cons (pv 4) pa_nil)) (pg_name (i := 11) sc_law.nd rfl (by first | exact Or.inl rfl | exact Or.inr rfl)))
    (pss_cons (ps_asg (pe_callO (ok_behind_put T) (hr.mono (by decide)) (by rfl) (pa_cons (pv 4) (pa_cons (pv 7) (pa_cons (pv 8) (pa_cons (pv 9) pa_nil))))) (pg_name (i := 12) sc_law.nd rfl (by first | exact Or.inl rfl | exact Or.inr rfl)))
    (pss_cons (ps_if (PW.pt (pw_or (pt_not (pt_tr (pe_callO (ok_law_same_rows T) (hr.mono (by decide)) (by rfl) (pa_cons (pv 12) (pa_cons (pv 10) pa_nil))) (by intro _; rfl))) (pw_or1 (pt_cmpR (op_neA hr.units) (pv 4) (pv 11) (nomark _))))) (pss_one (ps_ret pe_bl)) pss_nil)
    (pss_cons (ps_for PassesOwn.never rfl (pi_list (pv 12)) (pg_name (i := 13) sc_law.nd rfl (by first | exact Or.inl rfl | exact Or.inr rfl)) (pss_one (ps_expr (pe_bm PySem.F.plainAttrs_list PySem.F.slot_list_append PySem.F.type_list_append mt_append (pe_ix (ix_any (hr.u1)) (pv 13) pe_int (fun _ _ => rfl)) (pa_cons pe_str pa_nil)))))
    (pss_cons (ps_if (pt_cmpR (op_neA hr.units) (pe_lc (own := [("row", 13)]) (g := (gName 13)) rfl sc_law.nd (pi_list (pv 12)) (blkOk_by (own := [("row", 13)]) (N := ["script", "k", "bag", "most", "rows", "one", "other", "a", "b", "many", "due", "before", "found", "row"]) (sc := defScope s_law) (by decide +kernel)) (fun _ _ _ _ _ => pg_as (pg_name (i := 13) sc_law.nd rfl (by first | exact Or.inl rfl | exact Or.inr rfl)) (by first | exact rfl | (dsimp only [cxOf]; done) | (dsimp only [cxOf]; exact rfl))) (fun _ _ _ _ _ => pts_nil) (fun _ _ _ _ _ => pe_as (pe_ix (ix_any (hr.u1)) (pv 13) pe_int (fun _ _ => rfl)) (by first | exact rfl | (dsimp only [cxOf]; done) | (dsimp only [cxOf]; exact rfl)))) (pe_lc (own := [("row", 13)]) (g := (gName 13)) rfl sc_law.nd (pi_list (pv 10)) (blkOk_by (own := [("row", 13)]) (N := ["script", "k", "bag", "most", "rows", "one", "other", "a", "b", "many", "due", "before", "found", "row"]) (sc := defScope s_law) (by decide +kernel)) (fun _ _ _ _ _ => pg_as (pg_name (i := 13) sc_law.nd rfl (by first | exact Or.inl rfl | exact Or.inr rfl)) (by first | exact rfl | (dsimp only [cxOf]; done) | (dsimp only [cxOf]; exact rfl))) (fun _ _ _ _ _ => pts_nil) (fun _ _ _ _ _ => pe_as (pe_op op_addA (pe_ix (ix_any (hr.u1)) (pv 13) pe_int (fun _ _ => rfl)) (pe_lst (pa_cons pe_str pa_nil))) (by first | exact rfl | (dsimp only [cxOf]; done) | (dsimp only [cxOf]; exact rfl)))) (nomark _)) (pss_one (ps_ret pe_bl)) pss_nil)
    (pss_cons (ps_expr (pe_bm0 PySem.F.plainAttrs_list PySem.F.slot_list_clear PySem.F.type_list_clear mt_clear (pv 12)))
    (pss_one (ps_if (PW.pt (pw_or (pt_cmpR (op_neA hr.units) (pv 4) (pv 11) (nomark _)) (pw_or1 (pt_not (pt_tr (pe_callO (ok_law_same_rows T) (hr.mono (by decide)) (by rfl) (pa_cons (pe_callO (ok_behind_put T) (hr.mono (by decide)) (by rfl) (pa_cons (pv 4) (pa_cons (pv 7) (pa_cons (pv 8) (pa_cons (pv 9) pa_nil))))) (pa_cons (pv 10) pa_nil))) (by intro _; rfl)))))) (pss_one (ps_ret pe_bl)) pss_nil))))))))))))))))))
    (pss_one (ps_ret pe_bl))), ?_⟩)
  rintro avs objs Φ ⟨ns, rfl, rfl, hns, q⟩
  dsimp only [startA, restA, cxOf]
  o_readsAll
  refine sn_for (wi_range1 ?_)
  o_readsAll
  generalize hj : (if (if ((ns.map AV.int).length : Int) < 12 then ((ns.map AV.int).length : Int) else 12) > 1 then (if ((ns.map AV.int).length : Int) < 12 then ((ns.map AV.int).length : Int) else 12) else 1) = j
  have hjb : 0 ≤ j ∧ j ≤ 12 := by
    rw [← hj]
    split <;> split <;> omega
  refine ⟨by omega, fun i δ' Γ' => ∃ (x1 x2 x3 x4 x5 x6 x7 x8 x9 x10 x11 x12 x13 : Option AV), δ' = [some (.rol (ns.map AV.int)), x1, x2, x3, x4, x5, x6, x7, x8, x9, x10, x11, x12, x13] ∧ Γ' = [], ⟨_, _, _, _, _, _, _, _, _, _, _, _, _, rfl, rfl⟩, fun _ _ _ _ => trivial, ?_, ?_⟩
  · rintro i d δ' Γ' hd ⟨x1, x2, x3, x4, x5, x6, x7, x8, x9, x10, x11, x12, x13, rfl, rfl⟩
    obtain ⟨hi2, rfl⟩ := rangeA_get hd
    rw [Int.zero_add]
    refine wg_name (by w_means) (ws_nxwk ?_)
    dsimp only
    o_readsAll
    refine we_call0 ?_
    o_readsAll
    refine we_call0 ?_
    o_readsAll
    refine ⟨ns, i, rfl, rfl, hns, fun cell => ⟨_, pm0 (by w_means), ?_⟩⟩
    o_readsAll
    refine ⟨rfl, fun b o hb => ⟨_, pm0 (by w_means), ?_⟩⟩
    o_readsAll
    os_open 0 with d1 o3 hd1 hb3
    have hfw : ∃ most : Int, atI [AV.int 12, AV.int 12, AV.int 60, AV.int (10 ^ Int.toNat 59)] d1 = some (.int most) ∧ 0 < most ∧ most < 10 ^ 60 := by
      obtain h | h | h | h : d1 = 0 ∨ d1 = 1 ∨ d1 = 2 ∨ d1 = 3 := by omega
      · exact ⟨12, by rw [h]; rfl, by decide, by decide⟩
      · exact ⟨12, by rw [h]; rfl, by decide, by decide⟩
      · exact ⟨60, by rw [h]; rfl, by decide, by decide⟩
      · exact ⟨10 ^ Int.toNat 59, by rw [h]; rfl, by decide, by decide⟩
    obtain ⟨most, hf1, hm0, hm1⟩ := hfw
    refine wr_ixL (.inl (.inl rfl)) hf1 ?_
    o_readsAll
    refine we_call1 0 ?_
    o_readsAll
    refine ⟨_, _, _, most, rfl, rfl, hb3, by decide, hm0, hm1, fun rs0 o4 hrs0 hrb0 hrl0 hb4 => ⟨_, pm1 (news := []) rfl (by w_means), ?_⟩⟩
    o_reads
    o_reads
    refine sn_cut (fun δ' Γ' => ∃ (rs : List Rw) (o' : AO), RwsOk rs ∧ (∀ r ∈ rs, RwB r) ∧ rs.length ≤ 4001 ∧ BagO 20000 o' ∧ δ' = [some (.rol (ns.map AV.int)), some (.int i), some (.ptr b), some (.int most), some (.lst (rs.map rowA)), x5, x6, x7, x8, x9, x10, x11, x12, x13] ∧ Γ' = [(b, o')]) ?_ ?_
    · o_readsAll
      refine brD (fun h0 => ?_) (fun h0 => ?_)
      · o_readsAll
        refine brD (fun h1 => ?_) (fun h1 => ?_)
        · o_readsAll
          refine we_call1 0 ?_
          o_readsAll
          refine ⟨_, _, _, rfl, rfl, hb4, by decide, fun rs o' h1 h2 h3 h4 => ⟨_, pm1 (news := []) rfl (by w_means), ?_⟩⟩
          o_readsAll
          exact ⟨rs, o', h1, h2, h3, h4.mono (by decide), rfl, rfl⟩
        · o_readsAll
          exact ⟨rs0, o4, hrs0, hrb0, by omega, hb4.mono (by decide), rfl, rfl⟩
      · o_readsAll
        exact ⟨rs0, o4, hrs0, hrb0, by omega, hb4.mono (by decide), rfl, rfl⟩
    rintro δ' Γ' ⟨rs, o6, hrs, hrb, hrl, hb6, rfl, rfl⟩
    o_readsAll
    refine we_call1 0 ?_
    o_readsAll
    refine ⟨_, _, _, rs, most, rfl, rfl, hb6, by decide, hrs, hrb, hrl, hm0, hm1, fun e1 o7 he1 hb7 => ⟨_, pm1 (news := []) rfl (by w_means), ?_⟩⟩
    o_readsAll
    refine we_call1 0 ?_
    o_readsAll
    refine ⟨_, _, _, rs, most, rfl, rfl, hb7, by decide, hrs, hrb, hrl, hm0, hm1, fun e2 o8 he2 hb8 => ⟨_, pm1 (news := []) rfl (by w_means), ?_⟩⟩
    o_readsAll
    os_open 0 with d2 o9 hd2 hb9
    obtain ⟨e3, hp1, hp2⟩ := int_pick (x := e1) (y := e2) hd2
    refine wr_ixL (.inl (.inl rfl)) hp1 ?_
    o_readsAll
    have hab : (if e3 < e1 then e3 else e1) ≤ (if e3 > e1 then e3 else e1) := by split <;> split <;> omega
    generalize (if e3 < e1 then e3 else e1) = pa at hab
    generalize (if e3 > e1 then e3 else e1) = pb at hab
    simp only [List.set_cons_succ, List.set_cons_zero]
    refine we_draw ?_
    o_readsAll
    os_open 0 with d3 o10 hd3 hb10
    obtain ⟨m2, hq1, hq2⟩ := int_pick (x := 21) (y := most) hd3
    refine wr_ixL (.inl (.inl rfl)) hq1 ?_
    o_readsAll
    refine ⟨_, _, 0, _, _, rfl, rfl, hb10, by omega, by omega, by omega, fun many o11 hmany hb11 => ⟨_, by w_means, ?_⟩⟩
    have hdm : ∀ r ∈ dueP rs pa pb many, RwOk r := fun r hr => dueP_ok hrs.1 r hr
    have hdl : (dueP rs pa pb many).length ≤ 4001 := Nat.le_trans (dueP_len _ _ _ _) hrl
    o_readsAll
    refine we_call0 ?_
    o_readsAll
    refine ⟨rs, pa, pb, many, rfl, rfl, hrs, hrb, hrl, hab, _, pm0 (by w_means), ?_⟩
    o_readsAll
    refine we_call0 ?_
    o_readsAll
    refine ⟨rfl, hrl, _, pm0 (by w_means), ?_⟩
    o_readsAll
    refine we_call0 ?_
    o_readsAll
    refine ⟨rs, pa, pb, many, rfl, rfl, hrs, hrl, fun p zs hz => ⟨_, pm0 rfl, ?_⟩⟩
    have hzl : zs.length ≤ 4001 := by rw [← hz, List.length_map] at hdl; exact hdl
    have hzm : ∀ z ∈ zs, RwOk z.1 := fun z h => hdm _ (hz ▸ List.mem_map.mpr ⟨z, h, rfl⟩)
    have hsr : SeqAt.shaped (.list (rs.map rowD)) = true := rows_shaped hrs.1
    o_readsAll
    refine we_call ?_
    o_readsAll
    rw [← hz]
    refine ⟨_, _, List.Perm.refl _, p, zs, rfl, rfl, hzm, hzl, _, List.Perm.refl _, ?_⟩
    o_readsAll
    refine wr_neD (.lst (rows_dn _ _)) (.lst (rows_dn _ _)) hsr hsr ?_
    rw [eqv_same hsr]
    o_readsAll
    refine sn_for (wi_live ?_)
    o_readsAll
    refine ⟨p, _, rfl, ⟨0, rfl⟩, fun i' δ' Γ' => i' ≤ zs.length ∧ ∃ (x10 : Option AV), δ' = [some (.rol (ns.map AV.int)), some (.int i), some (.ptr b), some (.int most), some (.lst (rs.map rowA)), some (.int e1), some (.int e3), some (.int pa), some (.int pb), some (.int many), some (.lst ((zs.map (·.1)).map rowA)), some (.lst (rs.map rowA)), some (.ptr p), x10] ∧ Γ' = ((p, AO.lst (zs.map zA)) :: (zs.take i').map zZ) ++ ((zs.drop i').map zO ++ [(b, o11)]), ⟨Nat.zero_le _, _, rfl, rfl⟩, ?_, ?_, ?_⟩
    · rintro i' δ' Γ' ⟨-, x10, rfl, rfl⟩
      exact ⟨0, rfl⟩
    · rintro i' d δ' Γ' hd ⟨hi', x10, rfl, rfl⟩
      rw [List.getElem?_map] at hd
      obtain ⟨z, hz1, rfl⟩ := Option.map_eq_some_iff.mp hd
      obtain ⟨hlt, hz2⟩ := List.getElem?_eq_some_iff.mp hz1
      have hdr : zs.drop i' = z :: zs.drop (i' + 1) := by rw [List.drop_eq_getElem_cons hlt, hz2]
      have hln : ((p, AO.lst (zs.map zA)) :: (zs.take i').map zZ).length = i' + 1 := by simp; omega
      have hle := (hzm z (List.mem_of_getElem? hz1)).2.2
      rw [hdr, List.map_cons, List.cons_append]
      have hix := get_mid ((p, AO.lst (zs.map zA)) :: (zs.take i').map zZ) ((zs.drop (i' + 1)).map zO ++ [(b, o11)]) (zO z) hln
      have hst := set_mid ((p, AO.lst (zs.map zA)) :: (zs.take i').map zZ) ((zs.drop (i' + 1)).map zO ++ [(b, o11)]) (zO z) (zZ z) hln
      o_readsAll
      refine ⟨.lst (.inl (.inr ⟨_, i' + 1, rfl, hix⟩)), ?_⟩
      o_readsAll
      have hzz : (z.2, AO.lst (z.1.le.map AV.str ++ [AV.str (Str.ofString "zz")])) = zZ z := by unfold zZ; rw [List.map_append]; rfl
      refine wm_append hix (by rw [List.length_map, sizeLine_eq]; omega) ((congrArg _ hzz).trans hst) ?_
      · refine ⟨hlt, _, rfl, ?_⟩
        rw [List.take_add_one, hz1, List.map_append]
        simp
    rintro δ' Γ' ⟨hi', x10, rfl, rfl⟩
    rw [List.length_map, List.take_length, List.drop_length, List.map_nil, List.nil_append]
    o_readsAll
    refine we_lc (own_name ?hv) ?_; (case hv => exact List.mem_singleton.mpr rfl)
    refine wi_live ?_
    o_readsAll
    refine ⟨p, _, rfl, ⟨0, rfl⟩, lcF (f := fun z => some (AV.ptr z.2)) (by rw [sizeLine_eq]; omega) ⟨0, rfl⟩ (fun j z hj => ?_) ?_⟩
    · dsimp only [wipeA, List.map, List.set]
      o_readsAll
      exact ⟨rfl, rfl⟩
    rw [List.filterMap_eq_map']
    refine we_lc (own_name ?hv) ?_; (case hv => exact List.mem_singleton.mpr rfl)
    refine wi_list ?_
    o_readsAll
    refine ⟨_, .inl rfl, lcF (f := fun r => some (AV.lst (r.le.map AV.str ++ [AV.str (Str.ofString "zz")]))) (by rw [List.length_map, sizeLine_eq]; omega) trivial (fun j r hj => ?_) ?_⟩
    · dsimp only [wipeA, List.map, List.set]
      have hle : r.le.length ≤ 64 := by
        obtain ⟨z, hz1, rfl⟩ := List.mem_map.mp (List.mem_of_getElem? hj)
        exact (hzm z hz1).2.2
      o_readsAll
      exact ⟨rfl, rfl⟩
    rw [List.filterMap_eq_map']
    have hL1 : zs.map (fun z => AV.ptr z.2) = (zs.map fun z => (z.2, z.1.le ++ [Str.ofString "zz"])).map fun z => AV.ptr z.1 := by rw [List.map_map]; rfl
    have hL2 : ((zs.map (·.1)).map fun r => AV.lst (r.le.map AV.str ++ [AV.str (Str.ofString "zz")])) = (zs.map fun z => z.1.le ++ [Str.ofString "zz"]).map fun l => AV.lst (l.map AV.str) := by
      rw [List.map_map, List.map_map]
      apply List.map_congr_left
      intro z _
      simp
    have hsh : SeqAt.shaped (lsD (zs.map fun z => z.1.le ++ [Str.ofString "zz"])) = true := lls_shaped fun l hl s hs => by
      obtain ⟨z, hz1, rfl⟩ := List.mem_map.mp hl
      rcases List.mem_append.mp hs with h | h
      · exact (hzm z hz1).2.1 s h
      · rw [List.mem_singleton.mp h]
        intro c hc
        have : ∀ c ∈ (Str.ofString "zz").cps.toList, c < 0x110000 := by decide +kernel
        exact this c hc
    have hlv := lls_live (Γ := ((p, AO.lst (zs.map zA)) :: zs.map zZ) ++ [(b, o11)]) (zs := zs.map fun z => (z.2, z.1.le ++ [Str.ofString "zz"])) fun x hx => by
      obtain ⟨z, hz1, rfl⟩ := List.mem_map.mp hx
      exact List.mem_append_left _ (List.mem_cons_of_mem _ (List.mem_map.mpr ⟨z, hz1, rfl⟩))
    rw [List.map_map (g := fun z : Addr × List Str => z.2)] at hlv
    rw [hL1, hL2]
    refine wr_neD (d := lsD (zs.map fun z => z.1.le ++ [Str.ofString "zz"])) (e := lsD (zs.map fun z => z.1.le ++ [Str.ofString "zz"])) (.lst hlv) (.lst (lls_dn _ _)) hsh hsh ?_
    rw [eqv_same hsh]
    o_readsAll
    refine wr_neD (.lst (rows_dn _ _)) (.lst (rows_dn _ _)) hsr hsr ?_
    rw [eqv_same hsr]
    o_readsAll
    refine we_call ?_
    o_readsAll
    refine we_call0 ?_
    o_readsAll
    refine ⟨rs, pa, pb, many, rfl, rfl, hrs, hrl, fun p2 zs2 hz2 => ⟨_, pm0 rfl, ?_⟩⟩
    have hz3 : zs2.map (·.1) = zs.map (·.1) := hz2.trans hz.symm
    o_readsAll
    rw [← hz3]
    refine ⟨_, _, List.Perm.refl _, p2, zs2, rfl, rfl, fun z h => hdm _ (hz2 ▸ List.mem_map.mpr ⟨z, h, rfl⟩), ?_, _, List.Perm.refl _, ?_⟩
    · have := congrArg List.length hz3
      rw [List.length_map, List.length_map] at this
      omega
    o_readsAll
    exact ⟨_, [], Wk.drop (List.nil_sublist _), _, _, _, _, _, _, _, _, _, _, _, _, _, rfl, rfl⟩
  · rintro δ' Γ' ⟨x1, x2, x3, x4, x5, x6, x7, x8, x9, x10, x11, x12, x13, rfl, rfl⟩
    o_readsAll
    exact q

end
abbrev R : PySem.W.OpenRow := PySem.W.OpenLaw.row PySem.Challenge.rw_keptreading_k24_rows_behind_a_put
abbrev hk : PySem.W.Hook := He.hookD 4 fa fn
def ob (s : PySem.W.SharedT) : He.AlD := He.obsDG 4 fa fn (HandSHeadRun.getT s)
theorem ob_eq (s : PySem.W.SharedT) : ob s = hk.obs s.abs := He.obsDG_eq (HandSHeadRun.getT_eq s)
def loose : List PySem.Str := ["number_of", "behind_put", "_law_cell_at", "_law_bag", "_law_draw", "_law_name", "_law_rows", "_law_many_rows", "_law_copy", "_law_edge", "_law_due", "_law_whole", "_law_same_rows"]
theorem run (w : World) : HandSHeadRun.RunEq R (PySem.W.view R.prog [15]) hk ob 4000 loose w := by
  intro os
  kernel_rfl
theorem facts {P : Program} {w : World} {K : PySem.W.Frag} {h : Heap} {mg : Str → Option Value} {f : Addr} (X : K.In h) (G : h.Ns mainGlobals mg) (hfa : mg ("law" : Str) = some (.ref f)) (c : He.SaysD fa fn K) :
    ∃ fd : FuncData, (∀ (s : Shared) (v : Value), BindsTo s fd ⟨[v], []⟩ [("script", v)]) ∧ ∀ base : Heap, K.In base → base.Ns mainGlobals mg → FnOk P w K mg base CX0 5 f fd ["script"] (toSp K spLaw) := by
  have T : Tx fa fn K mg := Tx.mk' X G c
  have e := hfa.symm.trans (T.glo 0 "law" rfl)
  cases e
  obtain ⟨fd, h1, h2⟩ := (ok_law (P := P) (w := w) T).ex
  exact ⟨fd, fun s v => h2 s [v] rfl, fun base _ _ => h1 base⟩
end K24
open PySem PySem.W PySem.Calls PyProof.Rows
theorem PySem.Challenge.cw_keptreading_k24_rows_behind_a_put_holds : PySem.Challenge.rw_keptreading_k24_rows_behind_a_put.Holds := by
  w_on; o_law
  refine HandSHeadRun.head_any (r := OpenLaw.row PySem.Challenge.rw_keptreading_k24_rows_behind_a_put) (q := view (OpenLaw.row PySem.Challenge.rw_keptreading_k24_rows_behind_a_put).prog [15]) (H := K24.hk) (ob := K24.ob) (M := 4000) (loose := K24.loose) (d := HandSHeadRun.topDef (OpenLaw.row PySem.Challenge.rw_keptreading_k24_rows_behind_a_put).prog 15) (kwd := []) K24.ob_eq
    (by kernel_rfl) (fun s => by kernel_rfl) K24.run (by kernel_rfl) (by kernel_rfl) (by kernel_rfl) (by rfl) (by first | assumption | decide +kernel) (by decide +kernel) ⟨rfl, rfl, rfl, rfl, rfl, by decide +kernel⟩ ?hw ?hc
  case hw => w_witness2
  case hc =>
    refine L2.walk_ofE (l := PySem.Challenge.rw_keptreading_k24_rows_behind_a_put) (n := 63) (k := 5) (x := "script") (CX := L2.CX0) rfl (by decide) (by kernel_rfl) ⟨rfl, by decide, by decide⟩ ?F (fun _ _ _ _ z => z)
    intro w mg fa h Y G hmg0
    obtain ⟨K, KX, c⟩ := Y
    have hmg : mg ("law" : PySem.Str) = some (.ref fa) := by
      have e : (HandSHeadRun.topDef (OpenLaw.row PySem.Challenge.rw_keptreading_k24_rows_behind_a_put).prog 15).name = ("law" : PySem.Str) := by kernel_rfl
      rw [← e]
      exact hmg0
    obtain ⟨fd, hb, hF⟩ := K24.facts (P := (PySem.Challenge.rw_keptreading_k24_rows_behind_a_put).prog) (w := w) KX G hmg c
    exact ⟨K, fd, Ab.toSp K K24.spLaw, KX, hb, fun H a ns hl hO hS => Ab.law_start hl hO hS fun Φ hΦ => ⟨ns, rfl, rfl, hl, hΦ⟩, hF⟩
