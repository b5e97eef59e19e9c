import PyProof.Rows.All
import Wide.All
import OpenK.AllK
import Wide.FinOn
import HandS.ForMost
import HandS.Evl
import HandS.Defaults
import HandS.IsInst
import HandS.TupAny
import HandS.TupLe
import HandS.SortInts
import HandS.Wide
import HandS.NoneIn
import HandS.WordsDict
import HandS.TupLen
import HandS.Style
import HandS.SetFor
import HandS.Strs
import HandS.MakeKwOnly
import HandS.SortRule
import KE.LtSeq
import HandS.Comp
import HandS.HeadHook2
import HandS.Head0
import HandS.Head1
import HandS.Head2
import HandS.HeadEnd
import HandS.HeadHook1
import PySem.Challenge.RW_lastdoor_k75_judges_of_tables_and_slots
set_option Elab.async false
set_option linter.all false
set_option autoImplicit false
set_option maxRecDepth 100000
set_option maxHeartbeats 4000000
/-! The store layer: a small semantics of Python over data and a store of numbered objects, and its soundness over HandS. -/
namespace Sl
open PySem PySem.Spec PyProof.Rows L2

abbrev Kf := PySem.W.Frag
/-- a value: data that never changes, or the object with a number -/
inductive VL where
  | d (x : PyData)
  | o (n : Nat)
/-- an object of the store -/
inductive Ob where
  | lst (xs : List VL)
  | dk (kvs : List (Key × VL))
  | dt (kvs : List (List Key × VL))
  | ins (c : Nat) (fs : List (Str × VL))
  | fr (x : PyData)
abbrev Sto := List Ob
abbrev Env := List (Option VL)
/-- which class stands where; how an exception lies -/
structure Par where
  cl : Nat → Addr
  exr : Nat → List PyData → Hp → Option Addr → Hp → Prop

/-! ### relations -/
mutual
/-- data at a value: tuples stand in F, lists may be any list -/
inductive Dq (K : Kf) (F : Hp) : V → PyData → Prop
  | non : Dq K F .non .none
  | bl (b : Bool) : Dq K F (.bl b) (.bool b)
  | int (i : Int) : Dq K F (.int i) (.int i)
  | str (x : Str) : Dq K F (.str x) (.str x)
  | lst {a : Addr} {xs : List V} {ds : List PyData} : SqL K F a xs → DqAll K F xs ds → Dq K F (.ref a) (.list ds)
  | tup {a : Addr} {xs : List V} {ds : List PyData} : F a = some (.tup xs) → DqAll K F xs ds → Dq K F (.ref a) (.tuple ds)
inductive DqAll (K : Kf) (F : Hp) : List V → List PyData → Prop
  | nil : DqAll K F [] []
  | cons {v : V} {vs : List V} {d : PyData} {ds : List PyData} : Dq K F v d → DqAll K F vs ds → DqAll K F (v :: vs) (d :: ds)
end
section
variable {K : Kf} {F F' H : Hp}
mutual
theorem dq_mono (e : Evl.Ex F F') : ∀ {v : V} {d : PyData}, Dq K F v d → Dq K F' v d
  | _, _, .non => .non
  | _, _, .bl b => .bl b
  | _, _, .int i => .int i
  | _, _, .str x => .str x
  | _, _, .lst h t => .lst (Evl.ex_l e h) (dqa_mono e t)
  | _, _, .tup h t => .tup (e _ _ h) (dqa_mono e t)
theorem dqa_mono (e : Evl.Ex F F') : ∀ {vs : List V} {ds : List PyData}, DqAll K F vs ds → DqAll K F' vs ds
  | _, _, .nil => .nil
  | _, _, .cons h t => .cons (dq_mono e h) (dqa_mono e t)
end
mutual
theorem dq_dp (e : Evl.Ex F F') : ∀ {v : V} {d : PyData}, Dq K F v d → Dp K F' v d
  | _, _, .non => .non
  | _, _, .bl b => .bl b
  | _, _, .int i => .int i
  | _, _, .str x => .str x
  | _, _, .lst h t => .lst (Evl.ex_l e h) (dqa_dp e t)
  | _, _, .tup h t => .tup (SqT.of (e _ _ h)) (dqa_dp e t)
theorem dqa_dp (e : Evl.Ex F F') : ∀ {vs : List V} {ds : List PyData}, DqAll K F vs ds → DpAll K F' vs ds
  | _, _, .nil => .nil
  | _, _, .cons h t => .cons (dq_dp e h) (dqa_dp e t)
end
end
def VR (K : Kf) (ρ : List Addr) (F : Hp) (v : V) : VL → Prop
  | .d x => Dq K F v x
  | .o n => ∃ a, v = .ref a ∧ ρ[n]? = some a
abbrev VRs (K : Kf) (ρ : List Addr) (F : Hp) : List V → List VL → Prop := Paired (VR K ρ F)
def KVR {κ : Type} (K : Kf) (ρ : List Addr) (F : Hp) : List (κ × V) → List (κ × VL) → Prop := Paired fun p q => p.1 = q.1 ∧ VR K ρ F p.2 q.2
def ObR (K : Kf) (P : Par) (ρ : List Addr) (F H : Hp) (a : Addr) : Ob → Prop
  | .fr x => Dq K F (.ref a) x
  | .lst xs => F a = none ∧ ∃ vs, H a = some (.lst vs) ∧ VRs K ρ F vs xs
  | .dk kvs => F a = none ∧ ∃ kws, H a = some (.dK kws) ∧ KVR K ρ F kws kvs
  | .dt kvs => F a = none ∧ ∃ kws, H a = some (.dT kws) ∧ KVR K ρ F kws kvs
  | .ins c fs => F a = none ∧ ∃ dx fvs, H a = some (.ins (P.cl c) dx fvs) ∧ KVR K ρ F fvs fs
structure Im (K : Kf) (P : Par) (ρ : List Addr) (F H : Hp) (st : Sto) : Prop where
  len : ρ.length = st.length
  nd : ρ.Nodup
  ex : Evl.Ex F H
  dom : ∀ a, a ∈ ρ → H a ≠ none
  ob : ∀ (i : Nat) (a : Addr) (b : Ob), ρ[i]? = some a → st[i]? = some b → ObR K P ρ F H a b
structure Tr (ρ : List Addr) (F H : Hp) (ρ' : List Addr) (F' H' : Hp) : Prop where
  pre : ∃ new, ρ' = ρ ++ new
  fresh : ∀ a, a ∈ ρ' → a ∈ ρ ∨ H a = none
  exF : Evl.Ex F F'
  keep : ∀ b o, H b = some o → b ∉ ρ → H' b = some o
  stay : ∀ b, H b ≠ none → H' b ≠ none
  newF : ∀ b, F' b ≠ none → F b ≠ none ∨ H b = none ∨ b ∈ ρ
theorem Tr.refl (ρ : List Addr) (F H : Hp) : Tr ρ F H ρ F H := ⟨⟨[], (List.append_nil _).symm⟩, fun _ h => .inl h, Evl.Ex.refl F, fun _ _ h _ => h, fun _ h => h, fun _ h => .inl h⟩
theorem Tr.trans {ρ ρ1 ρ2 : List Addr} {F F1 F2 H H1 H2 : Hp} (a : Tr ρ F H ρ1 F1 H1) (b : Tr ρ1 F1 H1 ρ2 F2 H2) : Tr ρ F H ρ2 F2 H2 := by
  have h0 : ∀ c, H1 c = none → H c = none := fun c h => Classical.byContradiction fun g => a.stay c g h
  refine ⟨?_, fun c h => ?_, a.exF.trans b.exF, fun c o h hn => ?_, fun c h => b.stay c (a.stay c h), fun c h => ?_⟩
  · obtain ⟨n1, rfl⟩ := a.pre
    obtain ⟨n2, rfl⟩ := b.pre
    exact ⟨n1 ++ n2, List.append_assoc ..⟩
  · rcases b.fresh c h with h | h
    · exact a.fresh c h
    · exact .inr (h0 c h)
  · refine b.keep c o (a.keep c o h hn) fun h1 => ?_
    rcases a.fresh c h1 with h2 | h2
    · exact hn h2
    · rw [h] at h2
      cases h2
  · rcases b.newF c h with h | h | h
    · exact a.newF c h
    · exact .inr (.inl (h0 c h))
    · rcases a.fresh c h with h | h
      · exact .inr (.inr h)
      · exact .inr (.inl h)
theorem Tr.get {ρ ρ' : List Addr} {F F' H H' : Hp} (t : Tr ρ F H ρ' F' H') {n : Nat} {a : Addr} (h : ρ[n]? = some a) : ρ'[n]? = some a := by
  obtain ⟨m, rfl⟩ := t.pre
  obtain ⟨hl, _⟩ := List.getElem?_eq_some_iff.mp h
  rw [List.getElem?_append_left hl]
  exact h
theorem VR.mono {K : Kf} {ρ ρ' : List Addr} {F F' H H' : Hp} (t : Tr ρ F H ρ' F' H') : ∀ {v : V} {x : VL}, VR K ρ F v x → VR K ρ' F' v x
  | _, .d _, h => dq_mono t.exF h
  | _, .o _, ⟨a, e, h⟩ => ⟨a, e, t.get h⟩
theorem VRs.mono {K : Kf} {ρ ρ' : List Addr} {F F' H H' : Hp} (t : Tr ρ F H ρ' F' H') {vs : List V} {xs : List VL} (h : VRs K ρ F vs xs) : VRs K ρ' F' vs xs := Paired.mapP h fun _ _ h => h.mono t
theorem KVR.mono {κ : Type} {K : Kf} {ρ ρ' : List Addr} {F F' H H' : Hp} (t : Tr ρ F H ρ' F' H') {vs : List (κ × V)} {xs : List (κ × VL)} (h : KVR K ρ F vs xs) : KVR K ρ' F' vs xs := Paired.mapP h fun _ _ h => ⟨h.1, h.2.mono t⟩
section
variable {K : Kf} {P : Par} {ρ ρ' : List Addr} {F F' H H' : Hp}
theorem VR.up (e : Evl.Ex F F') : ∀ {v : V} {x : VL}, VR K ρ F v x → VR K ρ F' v x
  | _, .d _, h => dq_mono e h
  | _, .o _, h => h
theorem VRs.up (e : Evl.Ex F F') {vs : List V} {xs : List VL} (h : VRs K ρ F vs xs) : VRs K ρ F' vs xs := Paired.mapP h fun _ _ h => h.up e
theorem KVR.up {κ : Type} (e : Evl.Ex F F') {vs : List (κ × V)} {xs : List (κ × VL)} (h : KVR K ρ F vs xs) : KVR K ρ F' vs xs := Paired.mapP h fun _ _ h => ⟨h.1, h.2.up e⟩
theorem VR.more {D : Addr} : ∀ {v : V} {x : VL}, VR K ρ F v x → VR K (ρ ++ [D]) F v x
  | _, .d _, h => h
  | _, .o n, ⟨a, e, h⟩ => ⟨a, e, by
    rw [List.getElem?_append_left (List.getElem?_eq_some_iff.mp h).1]
    exact h⟩
theorem VRs.more {D : Addr} {vs : List V} {xs : List VL} (h : VRs K ρ F vs xs) : VRs K (ρ ++ [D]) F vs xs := Paired.mapP h fun _ _ h => h.more
theorem KVR.more {κ : Type} {D : Addr} {vs : List (κ × V)} {xs : List (κ × VL)} (h : KVR K ρ F vs xs) : KVR K (ρ ++ [D]) F vs xs := Paired.mapP h fun _ _ h => ⟨h.1, h.2.more⟩
/-- an object's picture over more data, a heap that is the same there -/
theorem ObR.up (e : Evl.Ex F F') {a : Addr} (hn : F a = none → F' a = none) (hH : H' a = H a) : ∀ {b : Ob}, ObR K P ρ F H a b → ObR K P ρ F' H' a b
  | .fr _, h => dq_mono e h
  | .lst _, ⟨h1, vs, h2, h3⟩ => ⟨hn h1, vs, hH.trans h2, h3.up e⟩
  | .dk _, ⟨h1, vs, h2, h3⟩ => ⟨hn h1, vs, hH.trans h2, h3.up e⟩
  | .dt _, ⟨h1, vs, h2, h3⟩ => ⟨hn h1, vs, hH.trans h2, h3.up e⟩
  | .ins _ _, ⟨h1, dx, vs, h2, h3⟩ => ⟨hn h1, dx, vs, hH.trans h2, h3.up e⟩
theorem ObR.more {D a : Addr} : ∀ {b : Ob}, ObR K P ρ F H a b → ObR K P (ρ ++ [D]) F H a b
  | .fr _, h => h
  | .lst _, ⟨h1, vs, h2, h3⟩ => ⟨h1, vs, h2, h3.more⟩
  | .dk _, ⟨h1, vs, h2, h3⟩ => ⟨h1, vs, h2, h3.more⟩
  | .dt _, ⟨h1, vs, h2, h3⟩ => ⟨h1, vs, h2, h3.more⟩
  | .ins _ _, ⟨h1, dx, vs, h2, h3⟩ => ⟨h1, dx, vs, h2, h3.more⟩
end
/-- the slots -/
structure EnvR (K : Kf) (ρ : List Addr) (F : Hp) (σ : L2.St) (env : Env) : Prop where
  len : env.length = σ.length
  at_ : ∀ (i : Nat) (x : VL), env[i]? = some (some x) → ∃ v, σ[i]? = some (some v) ∧ VR K ρ F v x
theorem EnvR.mono {K : Kf} {ρ ρ' : List Addr} {F F' H H' : Hp} {σ : L2.St} {env : Env} (t : Tr ρ F H ρ' F' H') (h : EnvR K ρ F σ env) : EnvR K ρ' F' σ env :=
  ⟨h.len, fun i x e => let ⟨v, h1, h2⟩ := h.at_ i x e; ⟨v, h1, h2.mono t⟩⟩
theorem EnvR.set {K : Kf} {ρ : List Addr} {F : Hp} {σ : L2.St} {env : Env} (h : EnvR K ρ F σ env) {i : Nat} {v : V} {x : VL} (r : VR K ρ F v x) : EnvR K ρ F (σ.set i (some v)) (env.set i (some x)) := by
  refine ⟨by simp [h.len], fun j y e => ?_⟩
  by_cases hj : i = j
  · subst hj
    by_cases hl : i < env.length
    · rw [List.getElem?_set_self hl] at e
      cases e
      exact ⟨v, List.getElem?_set_self (by rw [← h.len]; exact hl), r⟩
    · rw [List.getElem?_eq_none (by rw [List.length_set]; omega)] at e
      cases e
  · rw [List.getElem?_set_ne hj] at e
    rw [List.getElem?_set_ne hj]
    exact h.at_ j y e

/-- what stays: the store's picture over a heap that differs elsewhere alone -/
theorem Im.over {K : Kf} {P : Par} {ρ : List Addr} {F H F' H' : Hp} {st : Sto} (I : Im K P ρ F H st) (t : Tr ρ F H ρ F' H') (ex : Evl.Ex F' H') (same : ∀ a, a ∈ ρ → H' a = H a) (none_ : ∀ a, a ∈ ρ → F a = none → F' a = none) : Im K P ρ F' H' st := by
  refine ⟨I.len, I.nd, ex, fun a h => t.stay a (I.dom a h), fun i a b h1 h2 => ?_⟩
  have o := I.ob i a b h1 h2
  have hm : a ∈ ρ := List.mem_of_getElem? h1
  cases b with
  | fr x => exact dq_mono t.exF o
  | lst xs =>
    obtain ⟨h3, vs, h4, h5⟩ := o
    exact ⟨none_ a hm h3, vs, (same a hm).trans h4, VRs.mono t h5⟩
  | dk kvs =>
    obtain ⟨h3, vs, h4, h5⟩ := o
    exact ⟨none_ a hm h3, vs, (same a hm).trans h4, KVR.mono t h5⟩
  | dt kvs =>
    obtain ⟨h3, vs, h4, h5⟩ := o
    exact ⟨none_ a hm h3, vs, (same a hm).trans h4, KVR.mono t h5⟩
  | ins c fs =>
    obtain ⟨h3, dx, vs, h4, h5⟩ := o
    exact ⟨none_ a hm h3, dx, vs, (same a hm).trans h4, KVR.mono t h5⟩
/-- a new object that is data -/
theorem Im.data {K : Kf} {P : Par} {ρ : List Addr} {F H : Hp} {st : Sto} (I : Im K P ρ F H st) {p : Addr} (hp : H p = none) (o : HO) : Tr ρ F H ρ (upd F p o) (upd H p o) ∧ Im K P ρ (upd F p o) (upd H p o) st := by
  have hF : F p = none := by
    cases q : F p with
    | none => rfl
    | some u =>
      rw [I.ex p u q] at hp
      cases hp
  have hne : ∀ b, H b ≠ none → b ≠ p := fun b h e => h (by rw [e]; exact hp)
  have t : Tr ρ F H ρ (upd F p o) (upd H p o) := by
    refine ⟨⟨[], (List.append_nil _).symm⟩, fun _ h => .inl h, Evl.Ex.new hF, fun b u h _ => ?_, fun b h => ?_, fun b h => ?_⟩
    · rw [upd_ne (hne b (by rw [h]; exact fun z => nomatch z))]
      exact h
    · rw [upd_ne (hne b h)]
      exact h
    · by_cases e : b = p
      · subst e
        exact .inr (.inl hp)
      · rw [upd_ne e] at h
        exact .inl h
  refine ⟨t, I.over t (fun b u h => ?_) (fun b h => upd_ne (hne b (I.dom b h))) (fun b h h1 => ?_)⟩
  · by_cases e : b = p
    · subst e
      rw [upd_same] at h ⊢
      exact h
    · rw [upd_ne e] at h ⊢
      exact I.ex b u h
  · rw [upd_ne (hne b (I.dom b h))]
    exact h1
/-- a new object of the store -/
theorem Im.alloc {K : Kf} {P : Par} {ρ : List Addr} {F H : Hp} {st : Sto} (I : Im K P ρ F H st) {p : Addr} (hp : H p = none) {o : HO} {b : Ob} (hb : ∀ ρ' H', Tr ρ F H ρ' F H' → F p = none → H' p = some o → ρ' = ρ ++ [p] → ObR K P ρ' F H' p b) :
    Tr ρ F H (ρ ++ [p]) F (upd H p o) ∧ Im K P (ρ ++ [p]) F (upd H p o) (st ++ [b]) := by
  have hF : F p = none := by
    cases q : F p with
    | none => rfl
    | some u =>
      rw [I.ex p u q] at hp
      cases hp
  have hne : ∀ b, H b ≠ none → b ≠ p := fun b h e => h (by rw [e]; exact hp)
  have t : Tr ρ F H (ρ ++ [p]) F (upd H p o) := by
    refine ⟨⟨[p], rfl⟩, fun a h => ?_, Evl.Ex.refl F, fun b u h _ => ?_, fun b h => ?_, fun b h => .inl h⟩
    · rcases List.mem_append.mp h with h | h
      · exact .inl h
      · rw [List.mem_singleton.mp h]
        exact .inr hp
    · rw [upd_ne (hne b (by rw [h]; exact fun z => nomatch z))]
      exact h
    · rw [upd_ne (hne b h)]
      exact h
  have t0 : Tr ρ F H ρ F (upd H p o) := ⟨⟨[], (List.append_nil _).symm⟩, fun _ h => .inl h, t.exF, t.keep, t.stay, t.newF⟩
  have ex : Evl.Ex F (upd H p o) := fun b u h => by
    rw [upd_ne (hne b (by rw [I.ex b u h]; exact fun z => nomatch z))]
    exact I.ex b u h
  refine ⟨t, ⟨by simp [I.len], ?_, ex, fun a h => ?_, fun i a c h1 h2 => ?_⟩⟩
  · refine List.nodup_append.mpr ⟨I.nd, by simp, fun a h b h1 e => ?_⟩
    rw [List.mem_singleton.mp h1] at e
    subst e
    exact I.dom _ h hp
  · rcases List.mem_append.mp h with h | h
    · exact t.stay a (I.dom a h)
    · rw [List.mem_singleton.mp h, upd_same]
      exact fun z => nomatch z
  · by_cases hi : i < ρ.length
    · rw [List.getElem?_append_left hi] at h1
      rw [List.getElem?_append_left (by rw [← I.len]; exact hi)] at h2
      have o1 := I.ob i a c h1 h2
      have hm : a ∈ ρ := List.mem_of_getElem? h1
      have ea : upd H p o a = H a := upd_ne (hne a (I.dom a hm))
      cases c with
      | fr x => exact o1
      | lst xs =>
        obtain ⟨h3, vs, h4, h5⟩ := o1
        exact ⟨h3, vs, ea.trans h4, VRs.mono t h5⟩
      | dk kvs =>
        obtain ⟨h3, vs, h4, h5⟩ := o1
        exact ⟨h3, vs, ea.trans h4, KVR.mono t h5⟩
      | dt kvs =>
        obtain ⟨h3, vs, h4, h5⟩ := o1
        exact ⟨h3, vs, ea.trans h4, KVR.mono t h5⟩
      | ins c fs =>
        obtain ⟨h3, dx, vs, h4, h5⟩ := o1
        exact ⟨h3, dx, vs, ea.trans h4, KVR.mono t h5⟩
    · have hi2 : i = ρ.length := by
        have := (List.getElem?_eq_some_iff.mp h1).1
        simp at this
        omega
      subst hi2
      rw [List.getElem?_append_right (Nat.le_refl _), Nat.sub_self] at h1
      rw [List.getElem?_append_right (by rw [I.len]; exact Nat.le_refl _), I.len, Nat.sub_self] at h2
      cases h1
      cases h2
      exact hb _ _ t hF upd_same rfl
/-- an object of the store is changed -/
theorem Im.store {K : Kf} {P : Par} {ρ : List Addr} {F H : Hp} {st : Sto} (I : Im K P ρ F H st) {n : Nat} {a : Addr} (hn : ρ[n]? = some a) (hF : F a = none) {o : HO} {b : Ob} (hb : ObR K P ρ F (upd H a o) a b) :
    Tr ρ F H ρ F (upd H a o) ∧ Im K P ρ F (upd H a o) (st.set n b) := by
  have ha : a ∈ ρ := List.mem_of_getElem? hn
  have t : Tr ρ F H ρ F (upd H a o) := by
    refine ⟨⟨[], (List.append_nil _).symm⟩, fun _ h => .inl h, Evl.Ex.refl F, fun b u h hr => ?_, fun b h => ?_, fun b h => .inl h⟩
    · rw [upd_ne (fun e => hr (by rw [e]; exact ha))]
      exact h
    · by_cases e : b = a
      · subst e
        rw [upd_same]
        exact fun z => nomatch z
      · rw [upd_ne e]
        exact h
  have ex : Evl.Ex F (upd H a o) := fun b u h => by
    rw [upd_ne (fun e => by rw [e, hF] at h; cases h)]
    exact I.ex b u h
  refine ⟨t, ⟨by simp [I.len], I.nd, ex, fun c h => t.stay c (I.dom c h), fun i c d h1 h2 => ?_⟩⟩
  by_cases hi : n = i
  · subst hi
    rw [hn] at h1
    cases h1
    have hl : n < st.length := by
      rw [← I.len]
      exact (List.getElem?_eq_some_iff.mp hn).1
    rw [List.getElem?_set_self hl] at h2
    cases h2
    exact hb
  · rw [List.getElem?_set_ne hi] at h2
    have hne : c ≠ a := fun e => by
      subst e
      obtain ⟨l1, e1⟩ := List.getElem?_eq_some_iff.mp hn
      obtain ⟨l2, e2⟩ := List.getElem?_eq_some_iff.mp h1
      exact hi ((List.getElem_inj I.nd).mp (e1.trans e2.symm))
    have o1 := I.ob i c d h1 h2
    have ea : upd H a o c = H c := upd_ne hne
    cases d with
    | fr x => exact o1
    | lst xs =>
      obtain ⟨h3, vs, h4, h5⟩ := o1
      exact ⟨h3, vs, ea.trans h4, h5⟩
    | dk kvs =>
      obtain ⟨h3, vs, h4, h5⟩ := o1
      exact ⟨h3, vs, ea.trans h4, h5⟩
    | dt kvs =>
      obtain ⟨h3, vs, h4, h5⟩ := o1
      exact ⟨h3, vs, ea.trans h4, h5⟩
    | ins c fs =>
      obtain ⟨h3, dx, vs, h4, h5⟩ := o1
      exact ⟨h3, dx, vs, ea.trans h4, h5⟩
end Sl
set_option Elab.async false
set_option linter.all false
set_option autoImplicit false
set_option maxRecDepth 100000
set_option maxHeartbeats 4000000
namespace Sl
open PySem PySem.Spec PyProof.Rows L2

/-! ### ends -/
inductive Out where
  | ok (r : VL) (st : Sto)
  | ex (c : Nat) (fs : List PyData) (st : Sto)
inductive OutL where
  | ok (rs : List VL) (st : Sto)
  | ex (c : Nat) (fs : List PyData) (st : Sto)
inductive Fl where
  | nx (env : Env) (st : Sto)
  | rt (r : VL) (st : Sto)
  | bk (env : Env) (st : Sto)
  | ct (env : Env) (st : Sto)
  | ex (c : Nat) (fs : List PyData) (st : Sto)
abbrev SE := Env → Sto → Option Out
abbrev SL := Env → Sto → Option OutL
abbrev SS := Env → Sto → Option Fl
def obind (x : Option Out) (k : VL → Sto → Option Out) : Option Out := match x with
  | none => none
  | some (.ok r st) => k r st
  | some (.ex c fs st) => some (.ex c fs st)
def obindL (x : Option OutL) (k : List VL → Sto → Option Out) : Option Out := match x with
  | none => none
  | some (.ok r st) => k r st
  | some (.ex c fs st) => some (.ex c fs st)
def fbind (x : Option Out) (k : VL → Sto → Option Fl) : Option Fl := match x with
  | none => none
  | some (.ok r st) => k r st
  | some (.ex c fs st) => some (.ex c fs st)

section
variable (K : Kf) (P : Par)
def PostX (ρ : List Addr) (F H : Hp) (E : XK) (c : Nat) (fs : List PyData) (st : Sto) : Prop :=
  ∀ dx ρ' F' H', Tr ρ F H ρ' F' H' → Im K P ρ' F' H' st → P.exr c fs F' dx H' → E (.ref (P.cl c)) dx H'
def Post (ρ : List Addr) (F H : Hp) (Q : VK) (E : XK) : Out → Prop
  | .ok r st => ∀ v ρ' F' H', Tr ρ F H ρ' F' H' → Im K P ρ' F' H' st → VR K ρ' F' v r → Q v H'
  | .ex c fs st => PostX K P ρ F H E c fs st
def PostL (ρ : List Addr) (F H : Hp) (Q : List V → Hp → Prop) (E : XK) : OutL → Prop
  | .ok rs st => ∀ vs ρ' F' H', Tr ρ F H ρ' F' H' → Im K P ρ' F' H' st → VRs K ρ' F' vs rs → Q vs H'
  | .ex c fs st => PostX K P ρ F H E c fs st
def PostT (ρ : List Addr) (F H : Hp) (Q : Bool → Hp → Prop) (E : XK) : Out → Prop
  | .ok r st => ∃ b, r = .d (.bool b) ∧ ∀ ρ' F' H', Tr ρ F H ρ' F' H' → Im K P ρ' F' H' st → Q b H'
  | .ex c fs st => PostX K P ρ F H E c fs st
def PostS (ρ : List Addr) (F H : Hp) (D : Ends) (E : XK) : Fl → Prop
  | .nx env st => ∀ σ' ρ' F' H', Tr ρ F H ρ' F' H' → Im K P ρ' F' H' st → EnvR K ρ' F' σ' env → D.nx σ' H'
  | .rt r st => ∀ v ρ' F' H', Tr ρ F H ρ' F' H' → Im K P ρ' F' H' st → VR K ρ' F' v r → D.rt v H'
  | .bk env st => ∀ σ' ρ' F' H', Tr ρ F H ρ' F' H' → Im K P ρ' F' H' st → EnvR K ρ' F' σ' env → D.bk σ' H'
  | .ct env st => ∀ σ' ρ' F' H', Tr ρ F H ρ' F' H' → Im K P ρ' F' H' st → EnvR K ρ' F' σ' env → D.ct σ' H'
  | .ex c fs st => PostX K P ρ F H E c fs st
/-- the readings -/
def rdE (E : XK) (c : SE) : TE := fun σ H Q => ∃ ρ F st env o, Im K P ρ F H st ∧ EnvR K ρ F σ env ∧ c env st = some o ∧ Post K P ρ F H Q E o
def rdT (E : XK) (c : SE) : TT := fun σ H Q => ∃ ρ F st env o, Im K P ρ F H st ∧ EnvR K ρ F σ env ∧ c env st = some o ∧ PostT K P ρ F H Q E o
def rdL (E : XK) (c : SL) : TA := fun σ H Q => ∃ ρ F st env o, Im K P ρ F H st ∧ EnvR K ρ F σ env ∧ c env st = some o ∧ PostL K P ρ F H Q E o
def rdS (E : XK) (c : SS) : TS := fun D σ H => ∃ ρ F st env o, Im K P ρ F H st ∧ EnvR K ρ F σ env ∧ c env st = some o ∧ PostS K P ρ F H D E o
end
section
variable {K : Kf} {P : Par} {ρ ρ1 : List Addr} {F F1 H H1 : Hp} {E : XK}
theorem PostX.mono {c : Nat} {fs : List PyData} {st : Sto} (t : Tr ρ F H ρ1 F1 H1) (h : PostX K P ρ F H E c fs st) : PostX K P ρ1 F1 H1 E c fs st := fun dx ρ' F' H' t' => h dx ρ' F' H' (t.trans t')
theorem Post.mono {Q : VK} (t : Tr ρ F H ρ1 F1 H1) : ∀ {o : Out}, Post K P ρ F H Q E o → Post K P ρ1 F1 H1 Q E o
  | .ok _ _, h => fun v ρ' F' H' t' => h v ρ' F' H' (t.trans t')
  | .ex _ _ _, h => PostX.mono t h
theorem PostL.mono {Q : List V → Hp → Prop} (t : Tr ρ F H ρ1 F1 H1) : ∀ {o : OutL}, PostL K P ρ F H Q E o → PostL K P ρ1 F1 H1 Q E o
  | .ok _ _, h => fun v ρ' F' H' t' => h v ρ' F' H' (t.trans t')
  | .ex _ _ _, h => PostX.mono t h
theorem PostT.mono {Q : Bool → Hp → Prop} (t : Tr ρ F H ρ1 F1 H1) : ∀ {o : Out}, PostT K P ρ F H Q E o → PostT K P ρ1 F1 H1 Q E o
  | .ok _ _, ⟨b, e, h⟩ => ⟨b, e, fun ρ' F' H' t' => h ρ' F' H' (t.trans t')⟩
  | .ex _ _ _, h => PostX.mono t h
theorem PostS.mono {D : Ends} (t : Tr ρ F H ρ1 F1 H1) : ∀ {o : Fl}, PostS K P ρ F H D E o → PostS K P ρ1 F1 H1 D E o
  | .nx _ _, h => fun v ρ' F' H' t' => h v ρ' F' H' (t.trans t')
  | .rt _ _, h => fun v ρ' F' H' t' => h v ρ' F' H' (t.trans t')
  | .bk _ _, h => fun v ρ' F' H' t' => h v ρ' F' H' (t.trans t')
  | .ct _ _, h => fun v ρ' F' H' t' => h v ρ' F' H' (t.trans t')
  | .ex _ _ _, h => PostX.mono t h

/-! ### binds -/
/-- an expression inside an expression -/
theorem rdE_bind {c : SE} {k : VL → Sto → Option Out} {σ : L2.St} {env : Env} {st : Sto} {o : Out} {Q Q' : VK} (I : Im K P ρ F H st) (R : EnvR K ρ F σ env) (h : obind (c env st) k = some o) (p : Post K P ρ F H Q' E o)
    (g : ∀ v ρ1 F1 H1 x st1, Tr ρ F H ρ1 F1 H1 → Im K P ρ1 F1 H1 st1 → EnvR K ρ1 F1 σ env → VR K ρ1 F1 v x → k x st1 = some o → Post K P ρ1 F1 H1 Q' E o → Q v H1) : rdE K P E c σ H Q := by
  cases hc : c env st with
  | none =>
    rw [hc] at h
    cases h
  | some o1 =>
    rw [hc] at h
    refine ⟨ρ, F, st, env, o1, I, R, hc, ?_⟩
    cases o1 with
    | ok r st1 => exact fun v ρ1 F1 H1 t I1 r1 => g v ρ1 F1 H1 r st1 t I1 (R.mono t) r1 h (p.mono t)
    | ex c fs st1 =>
      cases h
      exact p
theorem rdE_bindT {c : SE} {k : VL → Sto → Option Out} {σ : L2.St} {env : Env} {st : Sto} {o : Out} {Q : VK} {Q' : Bool → Hp → Prop} (I : Im K P ρ F H st) (R : EnvR K ρ F σ env) (h : obind (c env st) k = some o) (p : PostT K P ρ F H Q' E o)
    (g : ∀ v ρ1 F1 H1 x st1, Tr ρ F H ρ1 F1 H1 → Im K P ρ1 F1 H1 st1 → EnvR K ρ1 F1 σ env → VR K ρ1 F1 v x → k x st1 = some o → PostT K P ρ1 F1 H1 Q' E o → Q v H1) : rdE K P E c σ H Q := by
  cases hc : c env st with
  | none =>
    rw [hc] at h
    cases h
  | some o1 =>
    rw [hc] at h
    refine ⟨ρ, F, st, env, o1, I, R, hc, ?_⟩
    cases o1 with
    | ok r st1 => exact fun v ρ1 F1 H1 t I1 r1 => g v ρ1 F1 H1 r st1 t I1 (R.mono t) r1 h (p.mono t)
    | ex c fs st1 =>
      cases h
      exact p
/-- an expression inside a statement -/
theorem rdE_bindS {c : SE} {k : VL → Sto → Option Fl} {σ : L2.St} {env : Env} {st : Sto} {o : Fl} {Q : VK} {D : Ends} (I : Im K P ρ F H st) (R : EnvR K ρ F σ env) (h : fbind (c env st) k = some o) (p : PostS K P ρ F H D E o)
    (g : ∀ v ρ1 F1 H1 x st1, Tr ρ F H ρ1 F1 H1 → Im K P ρ1 F1 H1 st1 → EnvR K ρ1 F1 σ env → VR K ρ1 F1 v x → k x st1 = some o → PostS K P ρ1 F1 H1 D E o → Q v H1) : rdE K P E c σ H Q := by
  cases hc : c env st with
  | none =>
    rw [hc] at h
    cases h
  | some o1 =>
    rw [hc] at h
    refine ⟨ρ, F, st, env, o1, I, R, hc, ?_⟩
    cases o1 with
    | ok r st1 => exact fun v ρ1 F1 H1 t I1 r1 => g v ρ1 F1 H1 r st1 t I1 (R.mono t) r1 h (p.mono t)
    | ex c fs st1 =>
      cases h
      exact p
/-- a test inside a test, an expression, a statement: k is asked of a bool alone -/
def tst (x : VL) : Option Bool := match x with
  | .d (.bool b) => some b
  | _ => none
theorem rdT_bindT {c : SE} {k : Bool → Sto → Option Out} {σ : L2.St} {env : Env} {st : Sto} {o : Out} {Q Q' : Bool → Hp → Prop} (I : Im K P ρ F H st) (R : EnvR K ρ F σ env) (h : (obind (c env st) fun x st1 => (tst x).bind fun b => k b st1) = some o) (p : PostT K P ρ F H Q' E o)
    (g : ∀ ρ1 F1 H1 b st1, Tr ρ F H ρ1 F1 H1 → Im K P ρ1 F1 H1 st1 → EnvR K ρ1 F1 σ env → k b st1 = some o → PostT K P ρ1 F1 H1 Q' E o → Q b H1) : rdT K P E c σ H Q := by
  cases hc : c env st with
  | none =>
    rw [hc] at h
    cases h
  | some o1 =>
    rw [hc] at h
    refine ⟨ρ, F, st, env, o1, I, R, hc, ?_⟩
    cases o1 with
    | ok r st1 =>
      obtain ⟨b, hb, hk⟩ := Option.bind_eq_some_iff.mp (show ((tst r).bind fun b => k b st1) = some o from h)
      have er : r = .d (.bool b) := by
        cases r with
        | o n => cases hb
        | d x =>
          cases x with
          | bool b' => cases hb; rfl
          | _ => cases hb
      exact ⟨b, er, fun ρ1 F1 H1 t I1 => g ρ1 F1 H1 b st1 t I1 (R.mono t) hk (p.mono t)⟩
    | ex c fs st1 =>
      cases h
      exact p
theorem rdT_bindE {c : SE} {k : Bool → Sto → Option Out} {σ : L2.St} {env : Env} {st : Sto} {o : Out} {Q : Bool → Hp → Prop} {Q' : VK} (I : Im K P ρ F H st) (R : EnvR K ρ F σ env) (h : (obind (c env st) fun x st1 => (tst x).bind fun b => k b st1) = some o) (p : Post K P ρ F H Q' E o)
    (g : ∀ ρ1 F1 H1 b st1, Tr ρ F H ρ1 F1 H1 → Im K P ρ1 F1 H1 st1 → EnvR K ρ1 F1 σ env → k b st1 = some o → Post K P ρ1 F1 H1 Q' E o → Q b H1) : rdT K P E c σ H Q := by
  cases hc : c env st with
  | none =>
    rw [hc] at h
    cases h
  | some o1 =>
    rw [hc] at h
    refine ⟨ρ, F, st, env, o1, I, R, hc, ?_⟩
    cases o1 with
    | ok r st1 =>
      obtain ⟨b, hb, hk⟩ := Option.bind_eq_some_iff.mp (show ((tst r).bind fun b => k b st1) = some o from h)
      have er : r = .d (.bool b) := by
        cases r with
        | o n => cases hb
        | d x =>
          cases x with
          | bool b' => cases hb; rfl
          | _ => cases hb
      exact ⟨b, er, fun ρ1 F1 H1 t I1 => g ρ1 F1 H1 b st1 t I1 (R.mono t) hk (p.mono t)⟩
    | ex c fs st1 =>
      cases h
      exact p
theorem rdT_bindS {c : SE} {k : Bool → Sto → Option Fl} {σ : L2.St} {env : Env} {st : Sto} {o : Fl} {Q : Bool → Hp → Prop} {D : Ends} (I : Im K P ρ F H st) (R : EnvR K ρ F σ env) (h : (fbind (c env st) fun x st1 => (tst x).bind fun b => k b st1) = some o) (p : PostS K P ρ F H D E o)
    (g : ∀ ρ1 F1 H1 b st1, Tr ρ F H ρ1 F1 H1 → Im K P ρ1 F1 H1 st1 → EnvR K ρ1 F1 σ env → k b st1 = some o → PostS K P ρ1 F1 H1 D E o → Q b H1) : rdT K P E c σ H Q := by
  cases hc : c env st with
  | none =>
    rw [hc] at h
    cases h
  | some o1 =>
    rw [hc] at h
    refine ⟨ρ, F, st, env, o1, I, R, hc, ?_⟩
    cases o1 with
    | ok r st1 =>
      obtain ⟨b, hb, hk⟩ := Option.bind_eq_some_iff.mp (show ((tst r).bind fun b => k b st1) = some o from h)
      have er : r = .d (.bool b) := by
        cases r with
        | o n => cases hb
        | d x =>
          cases x with
          | bool b' => cases hb; rfl
          | _ => cases hb
      exact ⟨b, er, fun ρ1 F1 H1 t I1 => g ρ1 F1 H1 b st1 t I1 (R.mono t) hk (p.mono t)⟩
    | ex c fs st1 =>
      cases h
      exact p
theorem rdL_bind {c : SL} {k : List VL → Sto → Option Out} {σ : L2.St} {env : Env} {st : Sto} {o : Out} {Q : List V → Hp → Prop} {Q' : VK} (I : Im K P ρ F H st) (R : EnvR K ρ F σ env) (h : obindL (c env st) k = some o) (p : Post K P ρ F H Q' E o)
    (g : ∀ vs ρ1 F1 H1 xs st1, Tr ρ F H ρ1 F1 H1 → Im K P ρ1 F1 H1 st1 → EnvR K ρ1 F1 σ env → VRs K ρ1 F1 vs xs → k xs st1 = some o → Post K P ρ1 F1 H1 Q' E o → Q vs H1) : rdL K P E c σ H Q := by
  cases hc : c env st with
  | none =>
    rw [hc] at h
    cases h
  | some o1 =>
    rw [hc] at h
    refine ⟨ρ, F, st, env, o1, I, R, hc, ?_⟩
    cases o1 with
    | ok r st1 => exact fun v ρ1 F1 H1 t I1 r1 => g v ρ1 F1 H1 r st1 t I1 (R.mono t) r1 h (p.mono t)
    | ex c fs st1 =>
      cases h
      exact p
end
/-! ### weakening -/
section
variable {X : Cx}
theorem pe_weak {e : Expr} {t t' : TE} (h : PE X e t) (w : ∀ σ H Q, t' σ H Q → t σ H Q) : PE X e t' := ⟨fun pins s σ H Q I q => h.run pins s σ H Q I (w σ H Q q)⟩
theorem pt_weak {e : Expr} {t t' : TT} (h : PT X e t) (w : ∀ σ H Q, t' σ H Q → t σ H Q) : PT X e t' := ⟨fun pins s σ H Q I q => h.run pins s σ H Q I (w σ H Q q)⟩
theorem pw_weak {e : Expr} {t t' : TT} (h : PW X e t) (w : ∀ σ H Q, t' σ H Q → t σ H Q) : PW X e t' := ⟨fun wh pins s σ H Q I q => h.run wh pins s σ H Q I (w σ H Q q)⟩
theorem pa_weak {e : List Expr} {t t' : TA} (h : PA X e t) (w : ∀ σ H Q, t' σ H Q → t σ H Q) : PA X e t' := ⟨fun po pins s σ H Q I q => h.run po pins s σ H Q I (w σ H Q q)⟩
theorem ps_weak {e : Stmt} {t t' : TS} (h : PS X e t) (w : ∀ D σ H, t' D σ H → t D σ H) : PS X e t' := ⟨fun pins s σ H D I q => h.run pins s σ H D I (w D σ H q)⟩
theorem pss_weak {e : List Stmt} {t t' : TS} (h : PSs X e t) (w : ∀ D σ H, t' D σ H → t D σ H) : PSs X e t' := ⟨fun pins s σ H D I q => h.run pins s σ H D I (w D σ H q)⟩
end

/-! ### names, constants -/
def eVar (i : Nat) : SE := fun env st => match env[i]? with
  | some (some x) => some (.ok x st)
  | _ => none
def eC (x : PyData) : SE := fun _ st => some (.ok (.d x) st)
section
variable {X : Cx} {P : Par} {E : XK}
theorem e_var (i : Nat) {x : Str} {pos : Pos} (hN : X.N[i]? = some x := by rfl) (hv : Vis X.env.scope x := by first | exact Or.inl rfl | exact Or.inr (Or.inl rfl) | exact Or.inr (Or.inr rfl)) (hd : (x == ("__debug__" : Str)) = false := by decide)
    (hcd : (x == ("__classdict__" : Str)) = false := by decide) : PE X (.Name x pos) (rdE X.K P E (eVar i)) :=
  pe_weak (pe_var hN hv hd hcd) fun σ H Q ⟨ρ, F, st, env, o, I, R, h, p⟩ => by
    unfold eVar at h
    cases he : env[i]? with
    | none =>
      rw [he] at h
      cases h
    | some y =>
      cases y with
      | none =>
        rw [he] at h
        cases h
      | some y =>
        rw [he] at h
        cases h
        obtain ⟨v, h1, h2⟩ := R.at_ i y he
        exact ⟨v, h1, p v ρ F H (Tr.refl ..) I h2⟩
theorem e_c {e : Expr} {v : V} {x : PyData} (h : PE X e (tC v)) (r : ∀ F, Dq X.K F v x) : PE X e (rdE X.K P E (eC x)) :=
  pe_weak h fun σ H Q ⟨ρ, F, st, env, o, I, R, h, p⟩ => by
    cases h
    exact p v ρ F H (Tr.refl ..) I (r F)
theorem e_int {i j pos} : PE X (.Constant (.int i) j pos) (rdE X.K P E (eC (.int i))) := e_c pe_int fun _ => .int i
theorem e_bl {i j pos} : PE X (.Constant (.bool i) j pos) (rdE X.K P E (eC (.bool i))) := e_c pe_bl fun _ => .bl i
theorem e_non {j pos} : PE X (.Constant .none j pos) (rdE X.K P E (eC .none)) := e_c pe_non fun _ => .non
theorem e_str {x j pos} : PE X (.Constant (.str x) j pos) (rdE X.K P E (eC (.str x))) := e_c pe_str fun _ => .str x
theorem e_globI {x : Str} {i : Int} {pos : Pos} (hg : Gl X x) (hm : ∃ t, X.mg x = some (.int i t)) (hd : (x == ("__debug__" : Str)) = false := by decide) : PE X (.Name x pos) (rdE X.K P E (eC (.int i))) := by
  obtain ⟨t, hm⟩ := hm
  exact e_c (pe_glob (v := .int i) hg hm ⟨t, rfl⟩ hd) fun _ => .int i
theorem e_globS {x y : Str} {pos : Pos} (hg : Gl X x) (hm : ∃ t, X.mg x = some (.str y t)) (hd : (x == ("__debug__" : Str)) = false := by decide) : PE X (.Name x pos) (rdE X.K P E (eC (.str y))) := by
  obtain ⟨t, hm⟩ := hm
  exact e_c (pe_glob (v := .str y) hg hm ⟨t, rfl⟩ hd) fun _ => .str y
end

/-! ### two-place operations by values -/
abbrev Op2 := Sto → VL → VL → Option (VL × Sto)
def eOp (f : Op2) (a b : SE) : SE := fun env st => obind (a env st) fun x st1 => obind (b env st1) fun y st2 => (f st2 x y).map fun z => .ok z.1 z.2
structure Pr2 (K : Kf) (r : R2) (f : Op2) : Prop where
  run : ∀ {P : Par} {ρ : List Addr} {F H : Hp} {st st' : Sto} {v w : V} {x y z : VL} {Q : VK}, Im K P ρ F H st → VR K ρ F v x → VR K ρ F w y → f st x y = some (z, st') →
    (∀ u ρ' F' H', Tr ρ F H ρ' F' H' → Im K P ρ' F' H' st' → VR K ρ' F' u z → Q u H') → r v w H Q
section
variable {K : Kf} {P : Par} {E : XK}
theorem op_rd {r : R2} {f : Op2} (hr : Pr2 K r f) {a b : SE} {σ : L2.St} {H : Hp} {Q : VK} (h : rdE K P E (eOp f a b) σ H Q) : tOp r (rdE K P E a) (rdE K P E b) σ H Q := by
  obtain ⟨ρ, F, st, env, o, I, R, h, p⟩ := h
  refine rdE_bind I R h p fun v ρ1 F1 H1 x st1 t1 I1 R1 r1 h1 p1 => ?_
  refine rdE_bind I1 R1 h1 p1 fun w ρ2 F2 H2 y st2 t2 I2 R2 r2 h2 p2 => ?_
  obtain ⟨z, hz, hk⟩ := Option.map_eq_some_iff.mp h2
  subst hk
  exact hr.run I2 (r1.mono t2) r2 hz p2
theorem op_rdT {r : R2} {f : Op2} (hr : Pr2 K r f) {a b : SE} {σ : L2.St} {H : Hp} {Q : Bool → Hp → Prop} (h : rdT K P E (eOp f a b) σ H Q) (hb : ∀ {ρ F v b}, VR K ρ F v (.d (.bool b)) → v = .bl b) : tTest (tOp r (rdE K P E a) (rdE K P E b)) σ H Q := by
  obtain ⟨ρ, F, st, env, o, I, R, h, p⟩ := h
  refine rdE_bindT I R h p fun v ρ1 F1 H1 x st1 t1 I1 R1 r1 h1 p1 => ?_
  refine rdE_bindT I1 R1 h1 p1 fun w ρ2 F2 H2 y st2 t2 I2 R2 r2 h2 p2 => ?_
  obtain ⟨z, hz, hk⟩ := Option.map_eq_some_iff.mp h2
  subst hk
  obtain ⟨b, hb1, p3⟩ := p2
  refine hr.run I2 (r1.mono t2) r2 hz fun u ρ' F' H' t I' ru => ?_
  rw [hb1] at ru
  exact ⟨b, hb ru, p3 ρ' F' H' t I'⟩
theorem vr_bool {ρ : List Addr} {F : Hp} {v : V} {b : Bool} (h : VR K ρ F v (.d (.bool b))) : v = .bl b := by
  cases (show Dq K F v (.bool b) from h)
  rfl
theorem vr_int {ρ : List Addr} {F : Hp} {v : V} {b : Int} (h : VR K ρ F v (.d (.int b))) : v = .int b := by
  cases (show Dq K F v (.int b) from h)
  rfl
theorem vr_str {ρ : List Addr} {F : Hp} {v : V} {b : Str} (h : VR K ρ F v (.d (.str b))) : v = .str b := by
  cases (show Dq K F v (.str b) from h)
  rfl
theorem vr_none {ρ : List Addr} {F : Hp} {v : V} (h : VR K ρ F v (.d .none)) : v = .non := by
  cases (show Dq K F v .none from h)
  rfl
end
section
variable {X : Cx} {P : Par} {E : XK} {a b : Expr} {ca cb : SE} {pos : Pos}
theorem e_bin {op : Operator} {r : R2} {f : Op2} (ho : OpR X (binaryOp op) r) (hr : Pr2 X.K r f) (ha : PE X a (rdE X.K P E ca)) (hb : PE X b (rdE X.K P E cb)) : PE X (.BinOp a op b pos) (rdE X.K P E (eOp f ca cb)) :=
  pe_weak (pe_op ho ha hb) fun _ _ _ h => op_rd hr h
theorem e_cmp {op : CmpOp} {r : R2} {f : Op2} (ho : OpR X (compareOp op) r) (hr : Pr2 X.K r f) (ha : PE X a (rdE X.K P E ca)) (hb : PE X b (rdE X.K P E cb)) (hm : behindInMarks op b = false) : PE X (.Compare a [op] [b] pos) (rdE X.K P E (eOp f ca cb)) :=
  pe_weak (pe_cmpR ho ha hb hm) fun _ _ _ h => op_rd hr h
theorem t_cmp {op : CmpOp} {r : R2} {f : Op2} (ho : OpR X (compareOp op) r) (hr : Pr2 X.K r f) (ha : PE X a (rdE X.K P E ca)) (hb : PE X b (rdE X.K P E cb)) (hm : behindInMarks op b = false) : PT X (.Compare a [op] [b] pos) (rdT X.K P E (eOp f ca cb)) :=
  pt_weak (pt_cmpR ho ha hb hm) fun _ _ _ h => op_rdT hr h vr_bool
theorem e_ix {r : R2} {f : Op2} (hr' : IxR X r) (hr : Pr2 X.K r f) (ha : PE X a (rdE X.K P E ca)) (hb : PE X b (rdE X.K P E cb)) (hs : PlainIx b) : PE X (.Subscript a b pos) (rdE X.K P E (eOp f ca cb)) :=
  pe_weak (pe_ix hr' ha hb hs) fun _ _ _ h => op_rd hr h
end
/-! ### tests -/
def eAnd (a b : SE) : SE := fun env st => obind (a env st) fun x st1 => (tst x).bind fun c => if c then b env st1 else some (.ok (.d (.bool false)) st1)
def eOr (a b : SE) : SE := fun env st => obind (a env st) fun x st1 => (tst x).bind fun c => if c then some (.ok (.d (.bool true)) st1) else b env st1
def eNot (a : SE) : SE := fun env st => obind (a env st) fun x st1 => (tst x).bind fun c => some (.ok (.d (.bool (!c))) st1)
def eIf (t a b : SE) : SE := fun env st => obind (t env st) fun x st1 => (tst x).bind fun c => if c then a env st1 else b env st1
section
variable {X : Cx} {P : Par} {E : XK} {a b e c : Expr} {ca cb ce cc : SE} {pos : Pos} {rest : List Expr}
theorem t_val (h : PE X e (rdE X.K P E ce)) (he : ∀ whole, isTrue e X.env whole = (do let v ← whole; standAt e.pos; holding [v] (truthy v)) := by intro _; rfl) : PT X e (rdT X.K P E ce) :=
  pt_weak (pt_val h he) fun σ H Q ⟨ρ, F, st, env, o, I, R, h, p⟩ => by
    refine ⟨ρ, F, st, env, o, I, R, h, ?_⟩
    cases o with
    | ok r st1 =>
      obtain ⟨b, e, q⟩ := p
      subst e
      exact fun v ρ' F' H' t I' r => ⟨b, vr_bool r, q ρ' F' H' t I'⟩
    | ex c fs st1 => exact p
theorem tand_rd {t u : SE} {σ : L2.St} {H : Hp} {Q : Bool → Hp → Prop} {K : Kf} (h : rdT K P E (eAnd t u) σ H Q) : tAnd (rdT K P E t) (rdT K P E u) σ H Q := by
  obtain ⟨ρ, F, st, env, o, I, R, h, p⟩ := h
  refine rdT_bindT (k := fun c st1 => if c then u env st1 else some (.ok (.d (.bool false)) st1)) I R h p fun ρ1 F1 H1 b st1 t1 I1 R1 h1 p1 => ?_
  cases b with
  | true => exact ⟨ρ1, F1, st1, env, o, I1, R1, h1, p1⟩
  | false =>
    cases h1
    obtain ⟨b, e, q⟩ := p1
    cases e
    exact q ρ1 F1 H1 (Tr.refl ..) I1
theorem tor_rd {t u : SE} {σ : L2.St} {H : Hp} {Q : Bool → Hp → Prop} {K : Kf} (h : rdT K P E (eOr t u) σ H Q) : tOr (rdT K P E t) (rdT K P E u) σ H Q := by
  obtain ⟨ρ, F, st, env, o, I, R, h, p⟩ := h
  refine rdT_bindT (k := fun c st1 => if c then some (.ok (.d (.bool true)) st1) else u env st1) I R h p fun ρ1 F1 H1 b st1 t1 I1 R1 h1 p1 => ?_
  cases b with
  | false => exact ⟨ρ1, F1, st1, env, o, I1, R1, h1, p1⟩
  | true =>
    cases h1
    obtain ⟨b, e, q⟩ := p1
    cases e
    exact q ρ1 F1 H1 (Tr.refl ..) I1
theorem w_and1 (ha : PT X a (rdT X.K P E ca)) : PW X (.BoolOp .And [a] pos) (rdT X.K P E ca) := pw_and1 ha
theorem w_or1 (ha : PT X a (rdT X.K P E ca)) : PW X (.BoolOp .Or [a] pos) (rdT X.K P E ca) := pw_or1 ha
theorem w_and (ha : PT X a (rdT X.K P E ca)) (hb : PW X (.BoolOp .And (b :: rest) pos) (rdT X.K P E cb)) : PW X (.BoolOp .And (a :: b :: rest) pos) (rdT X.K P E (eAnd ca cb)) := pw_weak (pw_and ha hb) fun _ _ _ h => tand_rd h
theorem w_or (ha : PT X a (rdT X.K P E ca)) (hb : PW X (.BoolOp .Or (b :: rest) pos) (rdT X.K P E cb)) : PW X (.BoolOp .Or (a :: b :: rest) pos) (rdT X.K P E (eOr ca cb)) := pw_weak (pw_or ha hb) fun _ _ _ h => tor_rd h
theorem t_w (h : PW X e (rdT X.K P E ce)) : PT X e (rdT X.K P E ce) := h.pt
theorem t_not (ha : PT X a (rdT X.K P E ca)) : PT X (.UnaryOp .Not a pos) (rdT X.K P E (eNot ca)) :=
  pt_weak (pt_not ha) fun σ H Q ⟨ρ, F, st, env, o, I, R, h, p⟩ => by
    refine rdT_bindT (k := fun c st1 => some (.ok (.d (.bool (!c))) st1)) I R h p fun ρ1 F1 H1 b st1 t1 I1 R1 h1 p1 => ?_
    cases h1
    obtain ⟨b, e, q⟩ := p1
    cases e
    exact q ρ1 F1 H1 (Tr.refl ..) I1
theorem e_not (ha : PE X a (rdE X.K P E ca)) : PE X (.UnaryOp .Not a pos) (rdE X.K P E (eNot ca)) :=
  pe_weak (pe_not ha) fun σ H Q ⟨ρ, F, st, env, o, I, R, h, p⟩ => by
    refine rdE_bind I R h p fun v ρ1 F1 H1 x st1 t1 I1 R1 r1 h1 p1 => ?_
    obtain ⟨b, hb, hk⟩ := Option.bind_eq_some_iff.mp h1
    cases x with
    | o n => cases hb
    | d y =>
      cases y with
      | bool c =>
        cases hb
        cases hk
        exact ⟨b, vr_bool r1, p1 _ ρ1 F1 H1 (Tr.refl ..) I1 (.bl _)⟩
      | _ => cases hb
theorem e_one {op} (ha : PE X a (rdE X.K P E ca)) : PE X (.BoolOp op [a] pos) (rdE X.K P E ca) := pe_one ha
theorem e_and (ha : PE X a (rdE X.K P E ca)) (hb : PE X (.BoolOp .And (b :: rest) pos) (rdE X.K P E cb)) : PE X (.BoolOp .And (a :: b :: rest) pos) (rdE X.K P E (eAnd ca cb)) :=
  pe_weak (pe_and ha hb) fun σ H Q ⟨ρ, F, st, env, o, I, R, h, p⟩ => by
    refine rdE_bind I R h p fun v ρ1 F1 H1 x st1 t1 I1 R1 r1 h1 p1 => ?_
    obtain ⟨b, hb, hk⟩ := Option.bind_eq_some_iff.mp h1
    cases x with
    | o n => cases hb
    | d y =>
      cases y with
      | bool c =>
        cases hb
        refine ⟨b, vr_bool r1, ?_⟩
        cases b with
        | true => exact ⟨ρ1, F1, st1, env, o, I1, R1, hk, p1⟩
        | false =>
          cases hk
          exact p1 _ ρ1 F1 H1 (Tr.refl ..) I1 (.bl _)
      | _ => cases hb
theorem e_or (ha : PE X a (rdE X.K P E ca)) (hb : PE X (.BoolOp .Or (b :: rest) pos) (rdE X.K P E cb)) : PE X (.BoolOp .Or (a :: b :: rest) pos) (rdE X.K P E (eOr ca cb)) :=
  pe_weak (pe_or ha hb) fun σ H Q ⟨ρ, F, st, env, o, I, R, h, p⟩ => by
    refine rdE_bind I R h p fun v ρ1 F1 H1 x st1 t1 I1 R1 r1 h1 p1 => ?_
    obtain ⟨b, hb, hk⟩ := Option.bind_eq_some_iff.mp h1
    cases x with
    | o n => cases hb
    | d y =>
      cases y with
      | bool c =>
        cases hb
        refine ⟨b, vr_bool r1, ?_⟩
        cases b with
        | false => exact ⟨ρ1, F1, st1, env, o, I1, R1, hk, p1⟩
        | true =>
          cases hk
          exact p1 _ ρ1 F1 H1 (Tr.refl ..) I1 (.bl _)
      | _ => cases hb
theorem e_if (hc : PT X c (rdT X.K P E cc)) (ha : PE X a (rdE X.K P E ca)) (hb : PE X b (rdE X.K P E cb)) : PE X (.IfExp c a b pos) (rdE X.K P E (eIf cc ca cb)) :=
  pe_weak (pe_ifExp hc ha hb) fun σ H Q ⟨ρ, F, st, env, o, I, R, h, p⟩ => by
    refine rdT_bindE (k := fun c st1 => if c then ca env st1 else cb env st1) I R h p fun ρ1 F1 H1 b st1 t1 I1 R1 h1 p1 => ?_
    cases b with
    | true => exact ⟨ρ1, F1, st1, env, o, I1, R1, h1, p1⟩
    | false => exact ⟨ρ1, F1, st1, env, o, I1, R1, h1, p1⟩
end
/-! ### argument lists -/
def aNil : SL := fun _ st => some (.ok [] st)
def aCons (c : SE) (cs : SL) : SL := fun env st => match c env st with
  | none => none
  | some (.ex k fs st1) => some (.ex k fs st1)
  | some (.ok r st1) => match cs env st1 with
    | none => none
    | some (.ex k fs st2) => some (.ex k fs st2)
    | some (.ok rs st2) => some (.ok (r :: rs) st2)
section
variable {X : Cx} {P : Par} {E : XK} {e : Expr} {es : List Expr} {ce : SE} {cs : SL} {pos : Pos}
theorem a_nil : PA X [] (rdL X.K P E aNil) := pa_weak pa_nil fun σ H Q ⟨ρ, F, st, env, o, I, R, h, p⟩ => by
  cases h
  exact p [] ρ F H (Tr.refl ..) I .nil
theorem a_cons (he : PE X e (rdE X.K P E ce)) (hs : PA X es (rdL X.K P E cs)) (hst : starEach (e :: es) X.env = (false, eval e X.env) :: starEach es X.env := by rfl) : PA X (e :: es) (rdL X.K P E (aCons ce cs)) :=
  pa_weak (pa_cons he hs hst) fun σ H Q ⟨ρ, F, st, env, o, I, R, h, p⟩ => by
    unfold aCons at h
    cases hc : ce env st with
    | none =>
      rw [hc] at h
      cases h
    | some o1 =>
      rw [hc] at h
      refine ⟨ρ, F, st, env, o1, I, R, hc, ?_⟩
      cases o1 with
      | ex k fs st1 =>
        cases h
        exact p
      | ok r st1 =>
        intro v ρ1 F1 H1 t1 I1 r1
        cases hd : cs env st1 with
        | none =>
          simp only [hd] at h
          cases h
        | some o2 =>
          simp only [hd] at h
          refine ⟨ρ1, F1, st1, env, o2, I1, R.mono t1, hd, ?_⟩
          cases o2 with
          | ex k fs st2 =>
            cases h
            exact PostX.mono t1 p
          | ok rs st2 =>
            cases h
            exact fun vs ρ2 F2 H2 t2 I2 r2 => p (v :: vs) ρ2 F2 H2 (t1.trans t2) I2 (.cons (r1.mono t2) r2)
end
end Sl
set_option Elab.async false
set_option linter.all false
set_option autoImplicit false
set_option maxRecDepth 100000
set_option maxHeartbeats 4000000
namespace Sl
open PySem PySem.Spec PyProof.Rows L2

/-! ### values of the store as data, as sequences -/
def allD : List VL → Option (List PyData)
  | [] => some []
  | .d x :: r => (allD r).map (x :: ·)
  | .o _ :: _ => none
def seqOf : PyData → Option (Bool × List VL)
  | .list ds => some (false, ds.map .d)
  | .tuple ds => some (true, ds.map .d)
  | _ => none
def asSeq (st : Sto) : VL → Option (Bool × List VL)
  | .d x => seqOf x
  | .o n => match st[n]? with
    | some (.lst xs) => some (false, xs)
    | some (.fr x) => seqOf x
    | _ => none
def asD (st : Sto) : VL → Option PyData
  | .d x => some x
  | .o n => match st[n]? with
    | some (.lst xs) => (allD xs).map .list
    | some (.fr x) => some x
    | _ => none
section
variable {K : Kf} {P : Par} {ρ : List Addr} {F H : Hp} {st : Sto}
theorem vrs_of : ∀ {vs : List V} {ds : List PyData}, DqAll K F vs ds → VRs K ρ F vs (ds.map .d)
  | _, _, .nil => .nil
  | _, _, .cons h t => .cons h (vrs_of t)
theorem dqa_of : ∀ {vs : List V} {xs : List VL} {ds : List PyData}, VRs K ρ F vs xs → allD xs = some ds → DqAll K F vs ds
  | _, _, _, .nil, e => by
    cases e
    exact .nil
  | _, .d x :: r, _, .cons h t, e => by
    obtain ⟨ds, h1, h2⟩ := Option.map_eq_some_iff.mp (show (allD r).map (x :: ·) = some _ from e)
    subst h2
    exact .cons h (dqa_of t h1)
  | _, .o n :: r, _, .cons h t, e => by cases e
/-- what a sequence is -/
structure IsSeq (K : Kf) (ρ : List Addr) (F H : Hp) (v : V) (b : Bool) (xs : List VL) : Prop where
  ex : ∃ a vs, v = .ref a ∧ (b = false → SqL K H a vs) ∧ (b = true → H a = some (.tup vs) ∧ ∃ ds, xs = ds.map .d ∧ Dq K F v (.tuple ds)) ∧ VRs K ρ F vs xs
theorem allD_map : ∀ l : List PyData, allD (l.map VL.d) = some l
  | [] => rfl
  | a :: r => by
    show (allD (r.map VL.d)).map _ = _
    rw [allD_map r]
    rfl
theorem seqOf_ok (e : Evl.Ex F H) {v : V} {x : PyData} {b : Bool} {xs : List VL} (r : Dq K F v x) (h : seqOf x = some (b, xs)) : IsSeq K ρ F H v b xs := by
  cases r with
  | lst hs hd =>
    cases h
    exact ⟨_, _, rfl, fun _ => Evl.ex_l e hs, fun z => Bool.noConfusion z, vrs_of hd⟩
  | tup hs hd =>
    cases h
    exact ⟨_, _, rfl, fun z => Bool.noConfusion z, fun _ => ⟨e _ _ hs, _, rfl, .tup hs hd⟩, vrs_of hd⟩
  | _ => cases h
theorem Im.at_ (I : Im K P ρ F H st) {n : Nat} {b : Ob} {v : V} (r : VR K ρ F v (.o n)) (h : st[n]? = some b) : ∃ a, v = .ref a ∧ ρ[n]? = some a ∧ ObR K P ρ F H a b := by
  obtain ⟨a, rfl, ha⟩ := r
  exact ⟨a, rfl, ha, I.ob n a b ha h⟩
theorem asSeq_ok (I : Im K P ρ F H st) {v : V} {x : VL} {b : Bool} {xs : List VL} (r : VR K ρ F v x) (h : asSeq st x = some (b, xs)) : IsSeq K ρ F H v b xs := by
  cases x with
  | d x => exact seqOf_ok I.ex r h
  | o n =>
    unfold asSeq at h
    cases hs : st[n]? with
    | none => simp [hs] at h
    | some ob =>
      obtain ⟨a, rfl, ha, hb⟩ := I.at_ r hs
      cases ob with
      | lst ys =>
        simp only [hs, Option.some.injEq, Prod.mk.injEq] at h
        obtain ⟨rfl, rfl⟩ := h
        obtain ⟨_, vs, h1, h2⟩ := hb
        exact ⟨a, vs, rfl, fun _ => SqL.of h1, fun z => Bool.noConfusion z, h2⟩
      | fr y =>
        simp only [hs] at h
        exact seqOf_ok I.ex hb h
      | _ => simp [hs] at h
theorem asD_ok (I : Im K P ρ F H st) {v : V} {x : VL} {y : PyData} (r : VR K ρ F v x) (h : asD st x = some y) : Dp K H v y := by
  cases x with
  | d x =>
    cases h
    exact dq_dp I.ex r
  | o n =>
    unfold asD at h
    cases hs : st[n]? with
    | none => simp [hs] at h
    | some ob =>
      obtain ⟨a, rfl, ha, hb⟩ := I.at_ r hs
      cases ob with
      | lst ys =>
        simp only [hs] at h
        obtain ⟨ds, h1, h2⟩ := Option.map_eq_some_iff.mp h
        subst h2
        obtain ⟨_, vs, h3, h4⟩ := hb
        exact .lst (SqL.of h3) (dqa_dp I.ex (dqa_of h4 h1))
      | fr y =>
        simp only [hs, Option.some.injEq] at h
        subst h
        exact dq_dp I.ex hb
      | _ => simp [hs] at h
/-! ### new lists, new tuples -/
abbrev Mk := List VL → Sto → Option (VL × Sto)
theorem junk (I : Im K P ρ F H st) {p : Addr} (hp : H p = none) (o : HO) : Tr ρ F H ρ F (upd H p o) ∧ Im K P ρ F (upd H p o) st := by
  have hne : ∀ b, H b ≠ none → b ≠ p := fun b h e => h (by rw [e]; exact hp)
  have t : Tr ρ F H ρ F (upd H p o) := by
    refine ⟨⟨[], (List.append_nil _).symm⟩, fun _ h => .inl h, Evl.Ex.refl F, fun b u h _ => ?_, fun b h => ?_, fun b h => .inl h⟩
    · rw [upd_ne (hne b (by rw [h]; exact fun z => nomatch z))]
      exact h
    · rw [upd_ne (hne b h)]
      exact h
  exact ⟨t, I.over t (fun b u h => by
    rw [upd_ne (hne b (by rw [I.ex b u h]; exact fun z => nomatch z))]
    exact I.ex b u h) (fun b h => upd_ne (hne b (I.dom b h))) fun b h h1 => h1⟩
/-- a list at D, laid since H0, untold so far, becomes data or an object -/
structure MkOk (K : Kf) (mk : Mk) : Prop where
  fin : ∀ {P : Par} {ρ0 ρ : List Addr} {F0 H0 F H : Hp} {st st' : Sto} {vs : List V} {xs : List VL} {z : VL} {D : Addr}, Tr ρ0 F0 H0 ρ F H → Im K P ρ F H st → H0 D = none → H D = some (.lst vs) → D ∉ ρ → F D = none → VRs K ρ F vs xs → mk xs st = some (z, st') →
    ∃ ρ' F', Tr ρ0 F0 H0 ρ' F' H ∧ Im K P ρ' F' H st' ∧ VR K ρ' F' (.ref D) z
theorem ex_new {F H : Hp} (e : Evl.Ex F H) {D : Addr} {o : HO} (hD : H D = some o) : Evl.Ex (upd F D o) H := fun b u h => by
  by_cases hb : b = D
  · subst hb
    rw [upd_same] at h
    rw [hD]
    exact h
  · rw [upd_ne hb] at h
    exact e b u h
/-- what was laid since H0 is data from now on -/
theorem Im.later {ρ0 : List Addr} {F0 H0 : Hp} (T : Tr ρ0 F0 H0 ρ F H) (I : Im K P ρ F H st) {D : Addr} {o : HO} (h0 : H0 D = none) (hD : H D = some o) (hr : D ∉ ρ) (hF : F D = none) : Tr ρ0 F0 H0 ρ (upd F D o) H ∧ Im K P ρ (upd F D o) H st ∧ Evl.Ex F (upd F D o) := by
  have e1 : Evl.Ex F (upd F D o) := Evl.Ex.new hF
  refine ⟨⟨T.pre, T.fresh, T.exF.trans e1, T.keep, T.stay, fun b h => ?_⟩, ?_, e1⟩
  · by_cases hb : b = D
    · subst hb
      exact .inr (.inl h0)
    · rw [upd_ne hb] at h
      exact T.newF b h
  · refine ⟨I.len, I.nd, ex_new I.ex hD, I.dom, fun i a b h1 h2 => ?_⟩
    have hm : a ∈ ρ := List.mem_of_getElem? h1
    exact ObR.up e1 (fun h => by rw [upd_ne (fun e : a = D => hr (by rw [← e]; exact hm))]; exact h) rfl (I.ob i a b h1 h2)
/-- .. or an object of the store -/
theorem Im.later2 {ρ0 : List Addr} {F0 H0 : Hp} (T : Tr ρ0 F0 H0 ρ F H) (I : Im K P ρ F H st) {D : Addr} {b : Ob} (h0 : H0 D = none) (hD : H D ≠ none) (hr : D ∉ ρ) (hb : ObR K P (ρ ++ [D]) F H D b) :
    Tr ρ0 F0 H0 (ρ ++ [D]) F H ∧ Im K P (ρ ++ [D]) F H (st ++ [b]) := by
  obtain ⟨new, hnew⟩ := T.pre
  refine ⟨⟨⟨new ++ [D], by rw [hnew, List.append_assoc]⟩, fun a h => ?_, T.exF, T.keep, T.stay, T.newF⟩, ⟨by simp [I.len], ?_, I.ex, fun a h => ?_, fun i a c h1 h2 => ?_⟩⟩
  · rcases List.mem_append.mp h with h | h
    · exact T.fresh a h
    · rw [List.mem_singleton.mp h]
      exact .inr h0
  · refine List.nodup_append.mpr ⟨I.nd, by simp, fun a h b h1 e => ?_⟩
    rw [List.mem_singleton.mp h1] at e
    exact hr (e ▸ h)
  · rcases List.mem_append.mp h with h | h
    · exact I.dom a h
    · rw [List.mem_singleton.mp h]
      exact hD
  · by_cases hi : i < ρ.length
    · rw [List.getElem?_append_left hi] at h1
      rw [List.getElem?_append_left (by rw [← I.len]; exact hi)] at h2
      exact ObR.more (I.ob i a c h1 h2)
    · have hi2 : i = ρ.length := by
        have := (List.getElem?_eq_some_iff.mp h1).1
        simp at this
        omega
      subst hi2
      rw [List.getElem?_append_right (Nat.le_refl _), Nat.sub_self] at h1
      rw [List.getElem?_append_right (by rw [I.len]; exact Nat.le_refl _), I.len, Nat.sub_self] at h2
      cases h1
      cases h2
      exact hb
theorem MkOk.run {mk : Mk} (hm : MkOk K mk) {st' : Sto} {vs : List V} {xs : List VL} {z : VL} {p : Addr} (I : Im K P ρ F H st) (hp : H p = none) (r : VRs K ρ F vs xs) (h : mk xs st = some (z, st')) :
    ∃ ρ' F', Tr ρ F H ρ' F' (upd H p (.lst vs)) ∧ Im K P ρ' F' (upd H p (.lst vs)) st' ∧ VR K ρ' F' (.ref p) z := by
  obtain ⟨t, I'⟩ := junk I hp (.lst vs)
  refine hm.fin t I' hp upd_same (fun h => I.dom p h hp) ?_ r h
  cases q : F p with
  | none => rfl
  | some u =>
    rw [I.ex p u q] at hp
    cases hp
def mkD : Mk := fun xs st => (allD xs).map fun ds => (.d (.list ds), st)
def mkN : Mk := fun xs st => some (.o st.length, st ++ [.lst xs])
def mkT : Mk := fun xs st => (allD xs).map fun ds => (.d (.tuple ds), st)
theorem mkD_ok : MkOk K mkD := ⟨fun {P ρ0 ρ F0 H0 F H st st' vs xs z D} T I h0 hD hr hF r h => by
  obtain ⟨ds, h1, h2⟩ := Option.map_eq_some_iff.mp h
  cases h2
  obtain ⟨T', I', e⟩ := I.later T h0 hD hr hF
  exact ⟨ρ, _, T', I', .lst (SqL.of upd_same) (dqa_mono e (dqa_of r h1))⟩⟩
theorem mkN_ok : MkOk K mkN := ⟨fun {P ρ0 ρ F0 H0 F H st st' vs xs z D} T I h0 hD hr hF r h => by
  cases h
  obtain ⟨T', I'⟩ := I.later2 (b := .lst xs) T h0 (by rw [hD]; exact fun z => nomatch z) hr ⟨hF, vs, hD, VRs.more r⟩
  refine ⟨_, F, T', I', D, rfl, ?_⟩
  rw [List.getElem?_append_right (by rw [I.len]; exact Nat.le_refl _), I.len, Nat.sub_self]
  rfl⟩
theorem mkT_ok {st' : Sto} {vs : List V} {xs : List VL} {z : VL} {p : Addr} (I : Im K P ρ F H st) (hp : H p = none) (r : VRs K ρ F vs xs) (h : mkT xs st = some (z, st')) :
    ∃ ρ' F', Tr ρ F H ρ' F' (upd H p (.tup vs)) ∧ Im K P ρ' F' (upd H p (.tup vs)) st' ∧ VR K ρ' F' (.ref p) z := by
  obtain ⟨ds, h1, h2⟩ := Option.map_eq_some_iff.mp h
  cases h2
  obtain ⟨t, I'⟩ := I.data hp (.tup vs)
  exact ⟨ρ, upd F p (.tup vs), t, I', .tup upd_same (dqa_mono t.exF (dqa_of r h1))⟩
end

/-! ### arithmetic -/
def asI : VL → Option Int
  | .d (.int i) => some i
  | _ => none
theorem asI_eq {x : VL} {i : Int} (h : asI x = some i) : x = .d (.int i) := by
  cases x with
  | o n => cases h
  | d y =>
    cases y with
    | int j => cases h; rfl
    | _ => cases h
/-- an operation on two ints -/
def oI (C : Int → Int → Bool) (g : Int → Int → PyData) : Op2 := fun st x y => match asI x, asI y with
  | some i, some j => if C i j then some (.d (g i j), st) else none
  | _, _ => none
theorem oI_some {C : Int → Int → Bool} {g : Int → Int → PyData} {st st' : Sto} {x y z : VL} (h : oI C g st x y = some (z, st')) : ∃ i j, x = .d (.int i) ∧ y = .d (.int j) ∧ C i j = true ∧ z = .d (g i j) ∧ st' = st := by
  unfold oI at h
  cases hx : asI x with
  | none => rw [hx] at h; cases h
  | some i =>
    cases hy : asI y with
    | none => rw [hx, hy] at h; cases h
    | some j =>
      rw [hx, hy] at h
      by_cases c : C i j = true
      · simp only [c, if_true, Option.some.injEq, Prod.mk.injEq] at h
        exact ⟨i, j, asI_eq hx, asI_eq hy, c, h.1.symm, h.2.symm⟩
      · simp only [c] at h
        cases h
theorem pr_I {K : Kf} {C : Int → Int → Bool} {C' : Int → Int → Prop} {g : Int → Int → PyData} {g' : Int → Int → V} (hC : ∀ i j, C i j = true → C' i j) (hg : ∀ F i j, Dq K F (g' i j) (g i j)) : Pr2 K (rI C' g') (oI C g) := ⟨fun {P ρ F H st st' v w x y z Q} I rx ry h q => by
  obtain ⟨i, j, rfl, rfl, c, rfl, rfl⟩ := oI_some h
  exact ⟨i, j, vr_int rx, vr_int ry, hC i j c, q _ ρ F H (Tr.refl ..) I (hg F i j)⟩⟩
theorem pr_I0 {K : Kf} {g : Int → Int → PyData} {g' : Int → Int → V} (hg : ∀ F i j, Dq K F (g' i j) (g i j)) : Pr2 K (rI0 g') (oI (fun _ _ => true) g) := ⟨fun {P ρ F H st st' v w x y z Q} I rx ry h q => by
  obtain ⟨i, j, rfl, rfl, c, rfl, rfl⟩ := oI_some h
  exact ⟨i, j, vr_int rx, vr_int ry, q _ ρ F H (Tr.refl ..) I (hg F i j)⟩⟩
def oSub : Op2 := oI (fun _ _ => true) fun i j => .int (i - j)
def oMul : Op2 := oI (fun i j => (decide (-(2 ^ 64) < i) && decide (i < 2 ^ 64)) || (decide (-(2 ^ 64) < j) && decide (j < 2 ^ 64))) fun i j => .int (i * j)
def oDiv : Op2 := oI (fun _ j => decide (0 < j) && decide (j < 1073741824)) fun i j => .int (i / j)
def oDivW : Op2 := oI (fun _ j => decide (0 < j) && decide (j.natAbs.log2 < 9000)) fun i j => .int (i / j)
def oMod : Op2 := oI (fun _ j => decide (0 < j)) fun i j => .int (i % j)
def oPow : Op2 := oI (fun i j => (decide (0 ≤ j) && decide (j ≤ 1000000)) && decide (i.natAbs < 2 ^ 64)) fun i j => .int (i ^ j.toNat)
def oLt : Op2 := oI (fun _ _ => true) fun i j => .bool (decide (i < j))
def oLe : Op2 := oI (fun _ _ => true) fun i j => .bool (decide (i ≤ j))
def oGt : Op2 := oI (fun _ _ => true) fun i j => .bool (decide (j < i))
def oGe : Op2 := oI (fun _ _ => true) fun i j => .bool (decide (j ≤ i))
section
variable {K : Kf}
theorem pr_sub : Pr2 K (rI0 fun i j => .int (i - j)) oSub := pr_I0 fun _ _ _ => .int _
theorem pr_mul : Pr2 K (rI CMul fun i j => .int (i * j)) oMul := pr_I (fun i j h => by
  simp only [Bool.or_eq_true, Bool.and_eq_true, decide_eq_true_eq] at h
  exact h) fun _ _ _ => .int _
theorem pr_div : Pr2 K (rI CDiv fun i j => .int (i / j)) oDiv := pr_I (fun i j h => by
  simp only [Bool.and_eq_true, decide_eq_true_eq] at h
  exact h) fun _ _ _ => .int _
theorem pr_divW : Pr2 K (rI CDivW fun i j => .int (i / j)) oDivW := pr_I (fun i j h => by
  simp only [Bool.and_eq_true, decide_eq_true_eq] at h
  exact h) fun _ _ _ => .int _
theorem pr_mod : Pr2 K (rI (fun _ j => 0 < j) fun i j => .int (i % j)) oMod := pr_I (fun i j h => by
  simp only [decide_eq_true_eq] at h
  exact h) fun _ _ _ => .int _
theorem pr_pow : Pr2 K (rI CPow fun i j => .int (i ^ j.toNat)) oPow := pr_I (fun i j h => by
  simp only [Bool.and_eq_true, decide_eq_true_eq] at h
  exact ⟨h.1.1, h.1.2, h.2⟩) fun _ _ _ => .int _
theorem pr_lt : Pr2 K (rI0 fun i j => .bl (decide (i < j))) oLt := pr_I0 fun _ _ _ => .bl _
theorem pr_le : Pr2 K (rI0 fun i j => .bl (decide (i ≤ j))) oLe := pr_I0 fun _ _ _ => .bl _
theorem pr_gt : Pr2 K (rI0 fun i j => .bl (decide (j < i))) oGt := pr_I0 fun _ _ _ => .bl _
theorem pr_ge : Pr2 K (rI0 fun i j => .bl (decide (j ≤ i))) oGe := pr_I0 fun _ _ _ => .bl _
end
/-! ### + -/
section
variable {X : Cx}
/-- two lists, wherever they stand -/
def rCatS (K : Kf) : R2 := fun x y H Q => ∃ l b xs zs, x = .ref l ∧ y = .ref b ∧ SqL K H l xs ∧ SqL K H b zs ∧ xs.length + zs.length ≤ sizeLine ∧ ∀ p, H p = none → Q (.ref p) (upd H p (.lst (xs ++ zs)))
theorem op_catS : OpR X (binaryOp .Add) (rCatS X.K) := by
  intro pins s σ H x y v u Q I rx ry h
  obtain ⟨l, b, xs, zs, rfl, rfl, hH, hB, hz, q⟩ := h
  cases rx
  cases ry
  obtain ⟨its, r, p1, z1⟩ := I.list hH
  obtain ⟨its2, r2, p2, z2⟩ := I.list hB
  obtain ⟨⟨cls, dd, data, sl⟩, n, ho, hc, hdd, hd⟩ := p1
  obtain ⟨⟨cls2, dd2, data2, sl2⟩, n2, ho2, hc2, hdd2, hd2⟩ := p2
  simp only at hc hd hc2 hd2
  subst hc hd hc2 hd2
  have e : its.toArray ++ its2.toArray = (its ++ its2).toArray := by simp
  have l1 := r.length
  have l2 := r2.length
  refine concat_meets ⟨_, ho, rfl⟩ ⟨_, ho2, rfl⟩ noFill_list_add seq_list_add PySem.F.slot_list_add PySem.F.entry_list_add (PySem.F.args_list_add_2 _ _) (list_addW l b its.toArray its2.toArray n n2 dd dd2 sl sl2 (by simp only [List.size_toArray]; omega)) ⟨ho, ho2, ?_⟩
  rw [e]
  exact ⟨.ref _, _, I.lnew (t' := s.toks) (r.append r2) (by rw [List.length_append]; omega), rfl, q _ I.fresh⟩
def rAddI : R2 := rI0 fun i j => .int (i + j)
def rAddT : R2 := fun x y H Q => ∃ i j, x = .str i ∧ y = .str j ∧ i.length + j.length ≤ sizeLine ∧ Q (.str (i ++ j)) H
def rAddA (K : Kf) : R2 := fun x y H Q => rAddI x y H Q ∨ (fun x y H Q => rAddT x y H Q ∨ (fun x y H Q => rCatS K x y H Q ∨ rCatA K x y H Q) x y H Q) x y H Q
theorem op_addA : OpR X (binaryOp .Add) (rAddA X.K) := OpR.or op_add (OpR.or op_add_str (OpR.or op_catS op_catA))
def oAdd (mk : Mk) : Op2 := fun st x y => match x, y with
  | .d (.int i), .d (.int j) => some (.d (.int (i + j)), st)
  | .d (.str i), .d (.str j) => if i.length + j.length ≤ sizeLine then some (.d (.str (i ++ j)), st) else none
  | x, y => match asSeq st x, asSeq st y with
    | some (false, xs), some (false, ys) => if xs.length + ys.length ≤ sizeLine then mk (xs ++ ys) st else none
    | some (true, xs), some (true, ys) => if xs.length + ys.length ≤ sizeLine then mkT (xs ++ ys) st else none
    | _, _ => none
theorem paired_append {α β : Type} {R : α → β → Prop} : ∀ {a a' : List α} {b b' : List β}, Paired R a b → Paired R a' b' → Paired R (a ++ a') (b ++ b')
  | _, _, _, _, .nil, h => h
  | _, _, _, _, .cons h t, h' => .cons h (paired_append t h')
theorem paired_len {α β : Type} {R : α → β → Prop} : ∀ {a : List α} {b : List β}, Paired R a b → a.length = b.length
  | _, _, .nil => rfl
  | _, _, .cons h t => congrArg (· + 1) (paired_len t)
theorem add_seq {K : Kf} {mk : Mk} (hm : MkOk K mk) {P : Par} {ρ : List Addr} {F H : Hp} {st st' : Sto} {v w : V} {x y z : VL} {Q : VK} (I : Im K P ρ F H st) (rx : VR K ρ F v x) (ry : VR K ρ F w y)
    (h : (match asSeq st x, asSeq st y with
    | some (false, xs), some (false, ys) => if xs.length + ys.length ≤ sizeLine then mk (xs ++ ys) st else none
    | some (true, xs), some (true, ys) => if xs.length + ys.length ≤ sizeLine then mkT (xs ++ ys) st else none
    | _, _ => none) = some (z, st'))
    (q : ∀ u ρ' F' H', Tr ρ F H ρ' F' H' → Im K P ρ' F' H' st' → VR K ρ' F' u z → Q u H') : rCatS K v w H Q ∨ rCatA K v w H Q := by
  cases hx : asSeq st x with
  | none => simp [hx] at h
  | some bx =>
    cases hy : asSeq st y with
    | none => simp [hx, hy] at h
    | some by_ =>
      obtain ⟨b1, xs⟩ := bx
      obtain ⟨b2, ys⟩ := by_
      obtain ⟨a, vs, rfl, h1, h2, h3⟩ := asSeq_ok I rx hx
      obtain ⟨a', ws, rfl, h1', h2', h3'⟩ := asSeq_ok I ry hy
      have l1 := paired_len h3
      have l2 := paired_len h3'
      cases b1 with
      | false =>
        cases b2 with
        | true => simp [hx, hy] at h
        | false =>
          simp only [hx, hy] at h
          by_cases hz : xs.length + ys.length ≤ sizeLine
          · rw [if_pos hz] at h
            refine .inl ⟨a, a', vs, ws, rfl, rfl, h1 rfl, h1' rfl, by omega, fun p hp => ?_⟩
            obtain ⟨ρ', F', t, I', r'⟩ := hm.run I hp (paired_append h3 h3') h
            exact q _ ρ' F' _ t I' r'
          · rw [if_neg hz] at h
            cases h
      | true =>
        cases b2 with
        | false => simp [hx, hy] at h
        | true =>
          simp only [hx, hy] at h
          by_cases hz : xs.length + ys.length ≤ sizeLine
          · rw [if_pos hz] at h
            obtain ⟨e1, d1, g1, k1⟩ := h2 rfl
            obtain ⟨e2, d2, g2, k2⟩ := h2' rfl
            refine .inr ⟨a, a', vs, ws, rfl, rfl, SqT.of e1, SqT.of e2, by omega, fun e => ?_, fun _ e => ?_, fun _ _ p hp => ?_⟩
            · subst e
              cases h3
              rw [List.nil_append, g2] at h
              unfold mkT at h
              rw [allD_map] at h
              cases h
              exact q _ ρ F H (Tr.refl ..) I k2
            · subst e
              cases h3'
              rw [List.append_nil, g1] at h
              unfold mkT at h
              rw [allD_map] at h
              cases h
              exact q _ ρ F H (Tr.refl ..) I k1
            · obtain ⟨ρ', F', t, I', r'⟩ := mkT_ok I hp (paired_append h3 h3') h
              exact q _ ρ' F' _ t I' r'
          · rw [if_neg hz] at h
            cases h
end
end Sl
set_option Elab.async false
set_option linter.all false
set_option autoImplicit false
set_option maxRecDepth 100000
set_option maxHeartbeats 4000000
namespace Sl
open PySem PySem.Spec PyProof.Rows L2

/-! ### + again, == and !=, is None -/
section
variable {K : Kf}
theorem pr_add {mk : Mk} (hm : MkOk K mk) : Pr2 K (rAddA K) (oAdd mk) := ⟨fun {P ρ F H st st' v w x y z Q} I rx ry h q => by
  unfold oAdd at h
  split at h
  · cases h
    exact .inl ⟨_, _, vr_int rx, vr_int ry, q _ ρ F H (Tr.refl ..) I (.int _)⟩
  · split at h
    · cases h
      exact .inr (.inl ⟨_, _, vr_str rx, vr_str ry, by assumption, q _ ρ F H (Tr.refl ..) I (.str _)⟩)
    · cases h
  · exact .inr (.inr (add_seq hm I rx ry h q))⟩
def scalD : PyData → PyData → Bool
  | .none, .none => true | .none, .int _ => true | .int _, .none => true | .none, .bool _ => true | .bool _, .none => true | .none, .str _ => true | .str _, .none => true
  | .int _, .int _ => true | .bool _, .bool _ => true | .str _, .str _ => true
  | .int _, .str _ => true | .str _, .int _ => true | .bool _, .str _ => true | .str _, .bool _ => true
  | _, _ => false
theorem scal_eq {F : Hp} {v w : V} {d e : PyData} (h1 : Dp K F v d) (h2 : Dp K F w e) (h : scalD d e = true) : scal v w = true ∧ decide (v = w) = PyData.eqv d e := by
  cases h1 <;> cases h2 <;> first
    | (simp [scalD] at h; done)
    | (refine ⟨rfl, ?_⟩; simp [PyData.eqv]; done)
    | (refine ⟨rfl, ?_⟩; simp only [PyData.eqv]; rw [Bool.eq_iff_iff]; simp; done)
def oEqC (neg : Bool) : Op2 := fun st x y => match asD st x, asD st y with
  | some d, some e => if scalD d e || (SeqAt.shaped d && SeqAt.shaped e) then some (.d (.bool (if neg then !PyData.eqv d e else PyData.eqv d e)), st) else none
  | _, _ => none
def oEq : Op2 := oEqC false
def oNe : Op2 := oEqC true
def rEqA (K : Kf) : R2 := fun x y H Q => rEq x y H Q ∨ rEqD K x y H Q
def rNeA (K : Kf) : R2 := fun x y H Q => rNe x y H Q ∨ rNeD K x y H Q
theorem op_eqA {X : Cx} (hu : X.A.units + 64 < cLine) : OpR X (compareOp .Eq) (rEqA X.K) := OpR.or op_eq (op_eqD hu)
theorem op_neA {X : Cx} (hu : X.A.units + 64 < cLine) : OpR X (compareOp .NotEq) (rNeA X.K) := OpR.or op_ne (op_neD hu)
theorem pr_eq : Pr2 K (rEqA K) oEq := ⟨fun {P ρ F H st st' v w x y z Q} I rx ry h q => by
  unfold oEq oEqC at h
  split at h
  · rename_i d e hd he
    have h1 := asD_ok I rx hd
    have h2 := asD_ok I ry he
    split at h
    · rename_i c
      cases h
      rcases Bool.or_eq_true_iff.mp c with c | c
      · obtain ⟨s1, s2⟩ := scal_eq h1 h2 c
        exact .inl ⟨s1, by rw [s2]; exact q _ ρ F H (Tr.refl ..) I (.bl _)⟩
      · obtain ⟨c1, c2⟩ := Bool.and_eq_true_iff.mp c
        exact .inr ⟨d, e, h1, h2, c1, c2, q _ ρ F H (Tr.refl ..) I (.bl _)⟩
    · cases h
  · cases h⟩
theorem pr_ne : Pr2 K (rNeA K) oNe := ⟨fun {P ρ F H st st' v w x y z Q} I rx ry h q => by
  unfold oNe oEqC at h
  split at h
  · rename_i d e hd he
    have h1 := asD_ok I rx hd
    have h2 := asD_ok I ry he
    split at h
    · rename_i c
      cases h
      rcases Bool.or_eq_true_iff.mp c with c | c
      · obtain ⟨s1, s2⟩ := scal_eq h1 h2 c
        exact .inl ⟨s1, by rw [s2]; exact q _ ρ F H (Tr.refl ..) I (.bl _)⟩
      · obtain ⟨c1, c2⟩ := Bool.and_eq_true_iff.mp c
        exact .inr ⟨d, e, h1, h2, c1, c2, q _ ρ F H (Tr.refl ..) I (.bl _)⟩
    · cases h
  · cases h⟩
def isN : VL → Bool
  | .d .none => true
  | _ => false
theorem isN_ok {ρ : List Addr} {F : Hp} {v : V} {x : VL} (r : VR K ρ F v x) : decide (v = .non) = isN x := by
  cases x with
  | o n =>
    obtain ⟨a, rfl, _⟩ := r
    rfl
  | d y => cases (show Dq K F v y from r) <;> rfl
def rIsNo : R2 := fun x y H Q => y = .non ∧ Q (.bl (decide (x = .non))) H
def rNotNo : R2 := fun x y H Q => y = .non ∧ Q (.bl (!decide (x = .non))) H
def oIsN : Op2 := fun st x y => match y with
  | .d .none => some (.d (.bool (isN x)), st)
  | _ => none
def oNotN : Op2 := fun st x y => match y with
  | .d .none => some (.d (.bool (!isN x)), st)
  | _ => none
theorem pr_isN : Pr2 K rIsNo oIsN := ⟨fun {P ρ F H st st' v w x y z Q} I rx ry h q => by
  unfold oIsN at h
  split at h
  · cases h
    exact ⟨vr_none ry, by rw [isN_ok rx]; exact q _ ρ F H (Tr.refl ..) I (.bl _)⟩
  · cases h⟩
theorem pr_notN : Pr2 K rNotNo oNotN := ⟨fun {P ρ F H st st' v w x y z Q} I rx ry h q => by
  unfold oNotN at h
  split at h
  · cases h
    exact ⟨vr_none ry, by rw [isN_ok rx]; exact q _ ρ F H (Tr.refl ..) I (.bl _)⟩
  · cases h⟩
/-! ### in -/
def flatD : PyData → Bool
  | .none => true
  | .bool _ => true
  | .int _ => true
  | .str _ => true
  | _ => false
theorem flat_ok {F : Hp} {v : V} {d : PyData} (h : Dq K F v d) (f : flatD d = true) : flatV v = true := by cases h <;> first | rfl | (simp [flatD] at f; done)
theorem flat_eq {F F' : Hp} {v w : V} {d e : PyData} (h : Dq K F v d) (h' : Dq K F' w e) (f : flatD d = true) (f' : flatD e = true) : eqV v w = PyData.eqv d e := by
  cases h <;> cases h' <;> first
    | (simp [flatD] at f; done)
    | (simp [flatD] at f'; done)
    | simp [eqV, PyData.eqv]
def flats : List VL → Option (List PyData)
  | [] => some []
  | .d x :: r => if flatD x then (flats r).map (x :: ·) else none
  | .o _ :: _ => none
theorem flats_ok {ρ : List Addr} {F F' : Hp} {v : V} {d : PyData} (hv : Dq K F' v d) (fv : flatD d = true) : ∀ {vs : List V} {xs : List VL} {ds : List PyData}, VRs K ρ F vs xs → flats xs = some ds → vs.all flatV = true ∧ inV v vs = ds.any (fun e => PyData.eqv e d)
  | _, _, _, .nil, e => by
    cases e
    exact ⟨rfl, rfl⟩
  | w :: _, .d x :: r, _, .cons h t, e => by
    have e' : (if flatD x then (flats r).map (x :: ·) else none) = some _ := e
    split at e'
    · rename_i fx
      obtain ⟨ds, h1, h2⟩ := Option.map_eq_some_iff.mp e'
      subst h2
      obtain ⟨a1, a2⟩ := flats_ok hv fv t h1
      refine ⟨?_, ?_⟩
      · rw [List.all_cons, a1, flat_ok (show Dq K F w x from h) fx]
        rfl
      · show (eqV w v || inV v _) = (PyData.eqv x d || _)
        rw [a2, flat_eq (show Dq K F w x from h) hv fx fv]
    · cases e'
  | _, .o n :: r, _, .cons h t, e => by cases e
def asF : VL → Option PyData
  | .d x => if flatD x then some x else none
  | _ => none
/-- x in a list or tuple of flat things -/
def oInS (neg : Bool) : Op2 := fun st x y => match asF x, asSeq st y with
  | some d, some (_, ys) => (flats ys).map fun es => (.d (.bool (if neg then !(es.any fun e => PyData.eqv e d) else es.any fun e => PyData.eqv e d)), st)
  | _, _ => none
theorem pr_in {neg : Bool} : Pr2 K (rIn K neg) (oInS neg) := ⟨fun {P ρ F H st st' v w x y z Q} I rx ry h q => by
  unfold oInS at h
  split at h
  · rename_i d b ys hd hy
    obtain ⟨es, h1, h2⟩ := Option.map_eq_some_iff.mp h
    cases h2
    cases x with
    | o n => cases hd
    | d x =>
      have hd' : (if flatD x then some x else none) = some d := hd
      split at hd'
      · rename_i fx
        cases hd'
        obtain ⟨a, vs, rfl, h3, h4, h5⟩ := asSeq_ok I ry hy
        obtain ⟨a1, a2⟩ := flats_ok (show Dq K F v _ from rx) fx h5 h1
        refine ⟨a, vs, rfl, ?_, flat_ok (show Dq K F v _ from rx) fx, a1, ?_⟩
        · cases b with
          | false => exact .inl (h3 rfl)
          | true => exact .inr (SqT.of (h4 rfl).1)
        · rw [a2]
          exact q _ ρ F H (Tr.refl ..) I (.bl _)
      · cases hd'
  · cases h⟩
/-! ### subscripts -/
def oIx : Op2 := fun st x y => match asSeq st x, asI y with
  | some (_, xs), some i => (atI xs i).map fun z => (z, st)
  | _, _ => none
theorem vrs_get {ρ : List Addr} {F : Hp} : ∀ {vs : List V} {xs : List VL} {i : Nat} {x : VL}, VRs K ρ F vs xs → xs[i]? = some x → ∃ v, vs[i]? = some v ∧ VR K ρ F v x
  | _, _, _, _, .nil, e => by simp at e
  | _, _, 0, _, .cons h _, e => by
    simp at e
    subst e
    exact ⟨_, rfl, h⟩
  | _, _, i + 1, _, .cons _ t, e => vrs_get (i := i) t (by simpa using e)
theorem vrs_at {ρ : List Addr} {F : Hp} {vs : List V} {xs : List VL} {i : Int} {x : VL} (h : VRs K ρ F vs xs) (e : atI xs i = some x) : ∃ v, atI vs i = some v ∧ VR K ρ F v x := by
  unfold atI at e ⊢
  rw [paired_len h]
  obtain ⟨j, h1, h2⟩ := Option.bind_eq_some_iff.mp e
  obtain ⟨v, h3, h4⟩ := vrs_get h h2
  exact ⟨v, by rw [h1]; exact h3, h4⟩
def rIxA (K : Kf) : R2 := fun x y H Q => rIxL K x y H Q ∨ rIxT K x y H Q
theorem ix_A {X : Cx} : IxR X (rIxA X.K) := ix_list.or ix_tup
theorem pr_ix : Pr2 K (rIxA K) oIx := ⟨fun {P ρ F H st st' v w x y z Q} I rx ry h q => by
  unfold oIx at h
  split at h
  · rename_i b xs i hx hi
    obtain ⟨u, h1, h2⟩ := Option.map_eq_some_iff.mp h
    cases h2
    rw [asI_eq hi] at ry
    obtain ⟨a, vs, rfl, h3, h4, h5⟩ := asSeq_ok I rx hx
    obtain ⟨v, h6, h7⟩ := vrs_at h5 h1
    cases b with
    | false => exact .inl ⟨a, vs, i, v, rfl, vr_int ry, h3 rfl, h6, q _ ρ F H (Tr.refl ..) I h7⟩
    | true => exact .inr ⟨a, vs, i, v, rfl, vr_int ry, SqT.of (h4 rfl).1, h6, q _ ρ F H (Tr.refl ..) I h7⟩
  · cases h⟩
end
/-! ### slices -/
def cutL (xs : List VL) (lo hi : Option Int) : List VL := (xs.drop (HT.sIx xs.length 0 lo)).take (HT.sIx xs.length xs.length hi - HT.sIx xs.length 0 lo)
abbrev SO := Env → Sto → Option (Option Int × Sto)
def oNone : SO := fun _ st => some (none, st)
def oSome (c : SE) : SO := fun env st => match c env st with
  | some (.ok (.d (.int i)) st1) => some (some i, st1)
  | _ => none
def eSl (mk : Mk) (a : SE) (lo hi : SO) : SE := fun env st => obind (a env st) fun x st1 => match lo env st1 with
  | none => none
  | some (l, st2) => match hi env st2 with
    | none => none
    | some (h, st3) => match asSeq st3 x with
      | some (false, xs) => (mk (cutL xs l h) st3).map fun z => .ok z.1 z.2
      | some (true, xs) => (mkT (cutL xs l h) st3).map fun z => .ok z.1 z.2
      | none => none
section
variable {X : Cx} {P : Par} {E : XK}
theorem paired_drop {α β : Type} {R : α → β → Prop} : ∀ {a : List α} {b : List β} (n : Nat), Paired R a b → Paired R (a.drop n) (b.drop n)
  | _, _, 0, h => h
  | _, _, _ + 1, .nil => .nil
  | _, _, n + 1, .cons _ t => paired_drop n t
theorem paired_take {α β : Type} {R : α → β → Prop} : ∀ {a : List α} {b : List β} (n : Nat), Paired R a b → Paired R (a.take n) (b.take n)
  | _, _, 0, h => .nil
  | _, _, _ + 1, .nil => .nil
  | _, _, n + 1, .cons h t => .cons h (paired_take n t)
def rdO (K : Kf) (P : Par) (c : SO) : TO := fun σ H Q => ∃ ρ F st env j st', Im K P ρ F H st ∧ EnvR K ρ F σ env ∧ c env st = some (j, st') ∧ ∀ ρ' F' H', Tr ρ F H ρ' F' H' → Im K P ρ' F' H' st' → Q j H'
theorem o_none : PO X none (rdO X.K P oNone) := ⟨fun pins s σ H Q I ⟨ρ, F, st, env, j, st', I', R, h, p⟩ => by
  cases h
  exact po_none.run pins s σ H Q I (p ρ F H (Tr.refl ..) I')⟩
theorem o_some {e : Expr} {c : SE} (h : PE X e (rdE X.K P E c)) : PO X (some e) (rdO X.K P (oSome c)) := ⟨fun pins s σ H Q I ⟨ρ, F, st, env, j, st', I', R, h1, p⟩ => by
  refine (po_some h).run pins s σ H Q I ?_
  unfold oSome at h1
  split at h1
  · rename_i i st1 hc
    cases h1
    exact ⟨ρ, F, st, env, _, I', R, hc, fun v ρ1 F1 H1 t1 I1 r1 => ⟨i, vr_int r1, p ρ1 F1 H1 t1 I1⟩⟩
  · cases h1⟩
def rSlS (K : Kf) : V → Option Int → Option Int → Hp → VK → Prop := fun x lo hi H Q => rSlL K x lo hi H Q ∨ rSlA K x lo hi H Q
theorem sl_S : SlR X (rSlS X.K) := SlR.or sl_list sl_tupA
theorem take_all {α : Type} (xs : List α) (lo hi : Option Int) (h : HT.sIx xs.length 0 lo = 0 ∧ HT.sIx xs.length xs.length hi = xs.length) : (xs.drop (HT.sIx xs.length 0 lo)).take (HT.sIx xs.length xs.length hi - HT.sIx xs.length 0 lo) = xs := by
  rw [h.1, h.2]
  simp
theorem e_slice {mk : Mk} (hm : MkOk X.K mk) {a : Expr} {lo hi : Option Expr} {ca : SE} {cl ch : SO} {pos p2 : Pos} (ha : PE X a (rdE X.K P E ca)) (hl : PO X lo (rdO X.K P cl)) (hh : PO X hi (rdO X.K P ch)) : PE X (.Subscript a (.Slice lo hi none p2) pos) (rdE X.K P E (eSl mk ca cl ch)) := by
  refine pe_weak (pe_slice sl_S ha hl hh) fun σ H Q ⟨ρ, F, st, env, o, I, R, h, p⟩ => ?_
  refine rdE_bind I R h p fun v ρ1 F1 H1 x st1 t1 I1 R1 r1 h1 p1 => ?_
  split at h1
  · cases h1
  · rename_i l st2 e2
    refine ⟨ρ1, F1, st1, env, l, st2, I1, R1, e2, fun ρ2 F2 H2 t2 I2 => ?_⟩
    split at h1
    · cases h1
    · rename_i hv st3 e3
      refine ⟨ρ2, F2, st2, env, hv, st3, I2, R1.mono t2, e3, fun ρ3 F3 H3 t3 I3 => ?_⟩
      have rv := (r1.mono t2).mono t3
      have p3 := (p1.mono t2).mono t3
      split at h1
      · rename_i xs e1
        obtain ⟨z, hz, hk⟩ := Option.map_eq_some_iff.mp h1
        subst hk
        obtain ⟨a', vs, rfl, g1, g2, g3⟩ := asSeq_ok I3 rv e1
        refine .inl ⟨a', vs, rfl, g1 rfl, fun p hp => ?_⟩
        have g4 : VRs X.K ρ3 F3 (cutV vs l hv) (cutL xs l hv) := by
          unfold cutV cutL
          rw [paired_len g3]
          exact paired_take _ (paired_drop _ g3)
        obtain ⟨ρ', F', t, I', r'⟩ := hm.run I3 hp g4 hz
        exact p3 _ ρ' F' _ t I' r'
      · rename_i xs e1
        obtain ⟨z, hz, hk⟩ := Option.map_eq_some_iff.mp h1
        subst hk
        obtain ⟨a', vs, rfl, g1, g2, g3⟩ := asSeq_ok I3 rv e1
        obtain ⟨g5, ds, g6, g7⟩ := g2 rfl
        refine .inr ⟨a', vs, rfl, SqT.of g5, fun hw => ?_, fun hw p hp => ?_⟩
        · unfold mkT cutL at hz
          rw [paired_len g3] at hw
          rw [take_all xs l hv hw, g6, allD_map] at hz
          cases hz
          exact p3 _ ρ3 F3 H3 (Tr.refl ..) I3 g7
        · have g4 : VRs X.K ρ3 F3 (cutV vs l hv) (cutL xs l hv) := by
            unfold cutV cutL
            rw [paired_len g3]
            exact paired_take _ (paired_drop _ g3)
          obtain ⟨ρ', F', t, I', r'⟩ := mkT_ok I3 hp g4 hz
          exact p3 _ ρ' F' _ t I' r'
      · cases h1
end
end Sl
set_option Elab.async false
set_option linter.all false
set_option autoImplicit false
set_option maxRecDepth 100000
set_option maxHeartbeats 4000000
namespace Sl
open PySem PySem.Spec PyProof.Rows L2

/-! ### calls of built-ins by values -/
abbrev OpC := Sto → List VL → Option (VL × Sto)
structure PrC (K : Kf) (r : List V → Hp → VK → Prop) (f : OpC) : Prop where
  run : ∀ {P : Par} {ρ : List Addr} {F H : Hp} {st st' : Sto} {vs : List V} {xs : List VL} {z : VL} {Q : VK}, Im K P ρ F H st → VRs K ρ F vs xs → f st xs = some (z, st') →
    (∀ u ρ' F' H', Tr ρ F H ρ' F' H' → Im K P ρ' F' H' st' → VR K ρ' F' u z → Q u H') → r vs H Q
def eCB (f : OpC) (args : SL) : SE := fun env st => obindL (args env st) fun xs st1 => (f st1 xs).map fun z => .ok z.1 z.2
section
variable {X : Cx} {P : Par} {E : XK} {x : Str} {p pos : Pos} {e : Expr} {es : List Expr} {cs : SL} {id T : String} {r : List V → Hp → VK → Prop} {f : OpC}
theorem cb_rd {K : Kf} (hr : PrC K r f) {σ : L2.St} {H : Hp} {Q : VK} (h : rdE K P E (eCB f cs) σ H Q) : tCB r (rdL K P E cs) σ H Q := by
  obtain ⟨ρ, F, st, env, o, I, R, h, p⟩ := h
  refine rdL_bind I R h p fun vs ρ1 F1 H1 xs st1 t1 I1 R1 r1 h1 p1 => ?_
  obtain ⟨z, hz, hk⟩ := Option.map_eq_some_iff.mp h1
  subst hk
  exact hr.run I1 r1 hz p1
theorem e_callB (hc : CallR X (.builtin id) r) (hr : PrC X.K r f) (hg : Gl X x) (hm : X.mg x = none) (hv : bootBuiltins x = some (.builtin id)) (ha : PA X (e :: es) (rdL X.K P E cs)) (hn : x ≠ "__name__" := by decide) (hdb : (x == ("__debug__" : Str)) = false := by decide)
    (he : starEach (e :: es) X.env = (false, eval e X.env) :: starEach es X.env := by rfl) (hpl : (backTo pos (starEach es X.env)).any (·.1) = false := by rfl) : PE X (.Call (.Name x p) (e :: es) [] pos) (rdE X.K P E (eCB f cs)) :=
  pe_weak (pe_callB hc hg hm hv ha hn hdb he hpl) fun _ _ _ h => cb_rd hr h
theorem e_callTy (hc : CallR X (.type T) r) (hr : PrC X.K r f) (hg : Gl X x) (hm : X.mg x = none) (hv : bootBuiltins x = some (.type T)) (ha : PA X (e :: es) (rdL X.K P E cs)) (hn : x ≠ "__name__" := by decide) (hdb : (x == ("__debug__" : Str)) = false := by decide)
    (he : starEach (e :: es) X.env = (false, eval e X.env) :: starEach es X.env := by rfl) (hpl : (backTo pos (starEach es X.env)).any (·.1) = false := by rfl) : PE X (.Call (.Name x p) (e :: es) [] pos) (rdE X.K P E (eCB f cs)) :=
  pe_weak (pe_callTy hc hg hm hv ha hn hdb he hpl) fun _ _ _ h => cb_rd hr h
end
section
variable {K : Kf}
theorem vrs1 {ρ : List Addr} {F : Hp} {vs : List V} {x : VL} (h : VRs K ρ F vs [x]) : ∃ v, vs = [v] ∧ VR K ρ F v x := by
  cases h with
  | cons h t =>
    cases t
    exact ⟨_, rfl, h⟩
/-- len -/
def cLen : OpC := fun st xs => match xs with
  | [x] => (asSeq st x).map fun y => (.d (.int y.2.length), st)
  | _ => none
def rLenS (K : Kf) : List V → Hp → VK → Prop := fun xs H Q => ∃ p ys, xs = [.ref p] ∧ (SqL K H p ys ∨ SqT K H p ys) ∧ Q (.int ys.length) H
theorem pr_len : PrC K (rLenS K) cLen := ⟨fun {P ρ F H st st' vs xs z Q} I r h q => by
  unfold cLen at h
  split at h
  · obtain ⟨v, rfl, rv⟩ := vrs1 r
    obtain ⟨⟨b, ys⟩, h1, h2⟩ := Option.map_eq_some_iff.mp h
    cases h2
    obtain ⟨a, ws, rfl, h3, h4, h5⟩ := asSeq_ok I rv h1
    refine ⟨a, ws, rfl, ?_, ?_⟩
    · cases b with
      | false => exact .inl (h3 rfl)
      | true => exact .inr (SqT.of (h4 rfl).1)
    · rw [paired_len h5]
      exact q _ ρ F H (Tr.refl ..) I (.int _)
  · cases h⟩
theorem call_lenS {X : Cx} : CallR X (.builtin "len") (rLenS X.K) := call_len_seq
/-- int of an int or a bool -/
def cInt : OpC := fun st xs => match xs with
  | [.d (.int i)] => some (.d (.int i), st)
  | [.d (.bool b)] => some (.d (.int (if b then 1 else 0)), st)
  | _ => none
def rInt1 : List V → Hp → VK → Prop := fun xs H Q => (∃ i, xs = [.int i] ∧ Q (.int i) H) ∨ ∃ k, xs = [.bl k] ∧ Q (.int (if k then 1 else 0)) H
theorem call_intA {X : Cx} : CallR X (.type "int") rInt1 := call_int1
theorem pr_int : PrC K rInt1 cInt := ⟨fun {P ρ F H st st' vs xs z Q} I r h q => by
  unfold cInt at h
  split at h
  · obtain ⟨v, rfl, rv⟩ := vrs1 r
    cases h
    exact .inl ⟨_, by rw [vr_int rv], q _ ρ F H (Tr.refl ..) I (.int _)⟩
  · obtain ⟨v, rfl, rv⟩ := vrs1 r
    cases h
    exact .inr ⟨_, by rw [vr_bool rv], q _ ρ F H (Tr.refl ..) I (.int _)⟩
  · cases h⟩
def cAbs : OpC := fun st xs => match xs with
  | [.d (.int i)] => some (.d (.int (if i < 0 then -i else i)), st)
  | _ => none
def rAbs : List V → Hp → VK → Prop := fun xs H Q => ∃ i, xs = [.int i] ∧ Q (.int (if i < 0 then -i else i)) H
theorem call_absA {X : Cx} : CallR X (.builtin "abs") rAbs := call_abs
theorem pr_abs : PrC K rAbs cAbs := ⟨fun {P ρ F H st st' vs xs z Q} I r h q => by
  unfold cAbs at h
  split at h
  · obtain ⟨v, rfl, rv⟩ := vrs1 r
    cases h
    exact ⟨_, by rw [vr_int rv], q _ ρ F H (Tr.refl ..) I (.int _)⟩
  · cases h⟩
/-- list of a sequence -/
def cList (mk : Mk) : OpC := fun st xs => match xs with
  | [x] => (asSeq st x).bind fun y => mk y.2 st
  | _ => none
def rListS (K : Kf) : List V → Hp → VK → Prop := fun xs H Q => ∃ p ys, xs = [.ref p] ∧ (SqL K H p ys ∨ SqT K H p ys) ∧ ∀ l, H l = none → Q (.ref l) (upd H l (.lst ys))
theorem call_listS {X : Cx} : CallR X (.type "list") (rListS X.K) := call_list_of
theorem pr_list {mk : Mk} (hm : MkOk K mk) : PrC K (rListS K) (cList mk) := ⟨fun {P ρ F H st st' vs xs z Q} I r h q => by
  unfold cList at h
  split at h
  · obtain ⟨v, rfl, rv⟩ := vrs1 r
    obtain ⟨⟨b, ys⟩, h1, h2⟩ := Option.bind_eq_some_iff.mp h
    obtain ⟨a, ws, rfl, h3, h4, h5⟩ := asSeq_ok I rv h1
    refine ⟨a, ws, rfl, ?_, fun l hl => ?_⟩
    · cases b with
      | false => exact .inl (h3 rfl)
      | true => exact .inr (SqT.of (h4 rfl).1)
    · obtain ⟨ρ', F', t, I', r'⟩ := hm.run I hl h5 h2
      exact q _ ρ' F' _ t I' r'
  · cases h⟩
def cTuple : OpC := fun st xs => match xs with
  | [x] => (asSeq st x).bind fun y => mkT y.2 st
  | _ => none
def rTupleS (K : Kf) : List V → Hp → VK → Prop := fun xs H Q => ∃ p ys, xs = [.ref p] ∧ ((SqL K H p ys ∧ ∀ l, H l = none → Q (.ref l) (upd H l (.tup ys))) ∨ (SqT K H p ys ∧ Q (.ref p) H))
theorem call_tupleS {X : Cx} : CallR X (.type "tuple") (rTupleS X.K) := call_tuple_of
theorem pr_tuple : PrC K (rTupleS K) cTuple := ⟨fun {P ρ F H st st' vs xs z Q} I r h q => by
  unfold cTuple at h
  split at h
  · obtain ⟨v, rfl, rv⟩ := vrs1 r
    obtain ⟨⟨b, ys⟩, h1, h2⟩ := Option.bind_eq_some_iff.mp h
    obtain ⟨a, ws, rfl, h3, h4, h5⟩ := asSeq_ok I rv h1
    refine ⟨a, ws, rfl, ?_⟩
    cases b with
    | false =>
      refine .inl ⟨h3 rfl, fun l hl => ?_⟩
      obtain ⟨ρ', F', t, I', r'⟩ := mkT_ok I hl h5 h2
      exact q _ ρ' F' _ t I' r'
    | true =>
      obtain ⟨h6, ds, h7, h8⟩ := h4 rfl
      unfold mkT at h2
      rw [show ys = ds.map VL.d from h7, allD_map] at h2
      cases h2
      exact .inr ⟨SqT.of h6, q _ ρ F H (Tr.refl ..) I h8⟩
  · cases h⟩
/-- sorted of ints -/
def intsOf : List VL → Option (List Int)
  | [] => some []
  | .d (.int i) :: r => (intsOf r).map (i :: ·)
  | _ => none
def sortI (ns : List Int) : List Int := ns.mergeSort fun a b => decide (a ≤ b)
theorem sortI_perm (ns : List Int) : (sortI ns).Perm ns := List.mergeSort_perm _ _
theorem sortI_rises (ns : List Int) : (sortI ns).Pairwise (· ≤ ·) := by
  have h := List.pairwise_mergeSort (le := fun a b : Int => decide (a ≤ b)) (fun a b c h1 h2 => by simp at *; omega) (fun a b => by simp; omega) ns
  exact h.imp fun h => by simpa using h
theorem sortI_only {ns ms : List Int} (hp : ms.Perm ns) (hs : ms.Pairwise (· ≤ ·)) : ms = sortI ns :=
  List.Perm.eq_of_pairwise (fun _ _ _ _ a b => Int.le_antisymm a b) hs (sortI_rises ns) (hp.trans (sortI_perm ns).symm)
theorem intsOf_ok {ρ : List Addr} {F : Hp} : ∀ {vs : List V} {xs : List VL} {ns : List Int}, VRs K ρ F vs xs → intsOf xs = some ns → vs = ns.map V.int
  | _, _, _, .nil, e => by
    cases e
    rfl
  | v :: _, .d (.int i) :: r, _, .cons h t, e => by
    obtain ⟨ns, h1, h2⟩ := Option.map_eq_some_iff.mp (show (intsOf r).map (i :: ·) = some _ from e)
    subst h2
    rw [vr_int h, intsOf_ok t h1]
    rfl
  | _, .d .none :: _, _, _, e => by cases e
  | _, .d (.bool _) :: _, _, _, e => by cases e
  | _, .d (.str _) :: _, _, _, e => by cases e
  | _, .d (.list _) :: _, _, _, e => by cases e
  | _, .d (.tuple _) :: _, _, _, e => by cases e
  | _, .d (.dict _) :: _, _, _, e => by cases e
  | _, .o _ :: _, _, _, e => by cases e
theorem vrs_ints {ρ : List Addr} {F : Hp} : ∀ ns : List Int, VRs K ρ F (ns.map V.int) (ns.map fun i => .d (.int i))
  | [] => .nil
  | i :: r => .cons (.int i) (vrs_ints r)
def cSorted (mk : Mk) : OpC := fun st xs => match xs with
  | [x] => match asSeq st x with
    | some (false, ys) => (intsOf ys).bind fun ns => mk ((sortI ns).map fun i => .d (.int i)) st
    | _ => none
  | _ => none
theorem pr_sorted {mk : Mk} (hm : MkOk K mk) : PrC K (rSortedI K) (cSorted mk) := ⟨fun {P ρ F H st st' vs xs z Q} I r h q => by
  unfold cSorted at h
  split at h
  · split at h
    · rename_i ys hy
      obtain ⟨v, rfl, rv⟩ := vrs1 r
      obtain ⟨ns, h1, h2⟩ := Option.bind_eq_some_iff.mp h
      obtain ⟨a, ws, rfl, h3, h4, h5⟩ := asSeq_ok I rv hy
      have e := intsOf_ok h5 h1
      subst e
      refine ⟨a, ns, rfl, h3 rfl, fun ns' p hp hs hn => ?_⟩
      rw [sortI_only hp hs]
      obtain ⟨ρ', F', t, I', r'⟩ := hm.run I hn (vrs_ints _) h2
      exact q _ ρ' F' _ t I' r'
    · cases h
  · cases h⟩
end
/-! ### isinstance -/
inductive Ty where
  | non | bool | int | str | list | tuple | dict
  deriving DecidableEq
def Ty.name : Ty → String
  | .non => "NoneType" | .bool => "bool" | .int => "int" | .str => "str" | .list => "list" | .tuple => "tuple" | .dict => "dict"
def Ty.sub (a b : Ty) : Bool := decide (a = b) || (decide (a = .bool) && decide (b = .int))
def tyD : PyData → Ty
  | .none => .non
  | .bool _ => .bool
  | .int _ => .int
  | .str _ => .str
  | .list _ => .list
  | .tuple _ => .tuple
  | .dict _ => .dict
def tyOf (st : Sto) : VL → Option Ty
  | .d x => some (tyD x)
  | .o n => match st[n]? with
    | some (.lst _) => some .list
    | some (.dk _) => some .dict
    | some (.dt _) => some .dict
    | some (.fr x) => some (tyD x)
    | _ => none
def eIsi (cs : List Ty) (a : SE) : SE := fun env st => obind (a env st) fun x st1 => (tyOf st1 x).map fun t => .ok (.d (.bool (cs.any fun c => t.sub c))) st1
section
variable {K : Kf}
theorem ty_kit (a b : Ty) (hb : b ≠ .non) : PySem.W.kitOne K (.type a.name) (.type b.name) = some (a.sub b) := by
  cases a <;> cases b <;> first
    | exact absurd rfl hb
    | exact kit_ty (by decide +kernel)
theorem tyD_ok {F H : Hp} (e : Evl.Ex F H) {v : V} {d : PyData} (h : Dq K F v d) : TyX K H v (.type (tyD d).name) := by
  cases h with
  | non => exact .base .non
  | bl b => exact .base (.bl b)
  | int b => exact .base (.int b)
  | str b => exact .base (.str b)
  | lst h _ =>
    rcases Evl.ex_l e h with (h | ⟨o, h⟩) | ⟨o, its, n, h1, h2, _⟩
    · exact .base (.lst h)
    · exact .base (.frz h)
    · exact .kList h1 h2
  | tup h _ => exact .base (.tup (e _ _ h))
theorem tyOf_ok {P : Par} {ρ : List Addr} {F H : Hp} {st : Sto} (I : Im K P ρ F H st) {v : V} {x : VL} {t : Ty} (r : VR K ρ F v x) (h : tyOf st x = some t) : TyX K H v (.type t.name) := by
  cases x with
  | d y =>
    cases h
    exact tyD_ok I.ex r
  | o n =>
    unfold tyOf at h
    cases hs : st[n]? with
    | none => simp [hs] at h
    | some ob =>
      obtain ⟨a, rfl, ha, hb⟩ := I.at_ r hs
      cases ob with
      | lst ys =>
        simp only [hs, Option.some.injEq] at h
        subst h
        exact .base (.lst hb.2.choose_spec.1)
      | dk ys =>
        simp only [hs, Option.some.injEq] at h
        subst h
        exact .base (.dK hb.2.choose_spec.1)
      | dt ys =>
        simp only [hs, Option.some.injEq] at h
        subst h
        exact .base (.dT hb.2.choose_spec.1)
      | fr y =>
        simp only [hs, Option.some.injEq] at h
        subst h
        exact tyD_ok I.ex hb
      | ins _ _ => simp [hs] at h
end
section
variable {X : Cx} {P : Par} {E : XK} {p pos p2 p3 : Pos} {a b : Expr} {ca : SE}
/-- isinstance(e, C): b names the class -/
theorem e_isi (c : Ty) (hc : c ≠ .non) (hg : Gl X "isinstance") (hm : X.mg "isinstance" = none) (ha : PE X a (rdE X.K P E ca)) (hb : PE X b (tC (.ty c.name)))
    (he : starEach [a, b] X.env = (false, eval a X.env) :: starEach [b] X.env := by rfl) (he2 : starEach [b] X.env = (false, eval b X.env) :: starEach [] X.env := by rfl) (hpl : (backTo pos (starEach [b] X.env)).any (·.1) = false := by rfl) :
    PE X (.Call (.Name "isinstance" p) [a, b] [] pos) (rdE X.K P E (eIsi [c] ca)) :=
  pe_weak (pe_callB call_isi hg hm (by decide +kernel) (pa_cons ha (pa_cons hb pa_nil he2) he) (by decide) (by decide) he hpl) fun σ H Q ⟨ρ, F, st, env, o, I, R, h, p⟩ => by
    refine rdE_bind I R h p fun v ρ1 F1 H1 x st1 t1 I1 R1 r1 h1 p1 => ?_
    obtain ⟨t, h2, h3⟩ := Option.map_eq_some_iff.mp h1
    subst h3
    refine ⟨v, .ty c.name, _, _, t.sub c, rfl, .ty _, tyOf_ok I1 r1 h2, ty_kit t c hc, ?_⟩
    have e : ([c].any fun c => t.sub c) = t.sub c := by simp
    rw [e] at p1
    exact p1 _ ρ1 F1 H1 (Tr.refl ..) I1 (.bl _)
theorem e_isi2 (c d : Ty) (hc : c ≠ .non) (hd : d ≠ .non) (hg : Gl X "isinstance") (hm : X.mg "isinstance" = none) (ha : PE X a (rdE X.K P E ca)) (hb : PE X b (tTup (tCons (tC (.ty c.name)) (tCons (tC (.ty d.name)) tNil))))
    (he : starEach [a, b] X.env = (false, eval a X.env) :: starEach [b] X.env := by rfl) (he2 : starEach [b] X.env = (false, eval b X.env) :: starEach [] X.env := by rfl) (hpl : (backTo pos (starEach [b] X.env)).any (·.1) = false := by rfl) :
    PE X (.Call (.Name "isinstance" p) [a, b] [] pos) (rdE X.K P E (eIsi [c, d] ca)) :=
  pe_weak (pe_callB call_isiT hg hm (by decide +kernel) (pa_cons ha (pa_cons hb pa_nil he2) he) (by decide) (by decide) he hpl) fun σ H Q ⟨ρ, F, st, env, o, I, R, h, p⟩ => by
    refine rdE_bind I R h p fun v ρ1 F1 H1 x st1 t1 I1 R1 r1 h1 p1 => ?_
    obtain ⟨t, h2, h3⟩ := Option.map_eq_some_iff.mp h1
    subst h3
    refine ⟨by show 2 ≤ sizeLine; decide, fun tp htp => ?_⟩
    obtain ⟨t2, I2⟩ := junk I1 htp (.tup [.ty c.name, .ty d.name])
    refine ⟨v, tp, _, _, _, t.sub c || t.sub d, rfl, upd_same, .cons (.ty _) (.cons (.ty _) .nil), tyOf_ok I2 (r1.mono t2) h2, ?_, ?_⟩
    · refine kitAny_cons (ty_kit t c hc) (fun e => ?_) (fun e => by rw [e] <;> rfl)
      rw [e]
      refine kitAny_cons (ty_kit t d hd) (fun e => ?_) (fun e => by rw [e] <;> rfl)
      rw [e]
      exact kitAny_nil
    · have e : ([c, d].any fun c => t.sub c) = (t.sub c || t.sub d) := by simp
      rw [e] at p1
      exact p1 _ ρ1 F1 _ t2 I2 (.bl _)
end
/-! ### displays -/
def eLst (mk : Mk) (args : SL) : SE := fun env st => obindL (args env st) fun xs st1 => if xs.length ≤ sizeLine then (mk xs st1).map fun z => .ok z.1 z.2 else none
def eTup (args : SL) : SE := fun env st => obindL (args env st) fun xs st1 => if xs.length ≤ sizeLine then (mkT xs st1).map fun z => .ok z.1 z.2 else none
def repOk (n : Nat) (k : Int) : Bool := (decide (-(2 ^ 63) ≤ k) && decide (k < 2 ^ 63)) && decide (n * k.toNat ≤ sizeLine)
def eRep (mk : Mk) (args : SL) (n : SE) : SE := fun env st => obindL (args env st) fun xs st1 => if xs.length ≤ sizeLine then obind (n env st1) fun y st2 => (asI y).bind fun k =>
  if repOk xs.length k = true then (mk (List.replicate k.toNat xs).flatten st2).map fun z => .ok z.1 z.2 else none else none
section
variable {X : Cx} {P : Par} {E : XK} {pos pos2 : Pos} {es : List Expr} {cs : SL} {b : Expr} {cb : SE}
theorem e_lst {mk : Mk} (hm : MkOk X.K mk) (ha : PA X es (rdL X.K P E cs)) : PE X (.List es pos) (rdE X.K P E (eLst mk cs)) :=
  pe_weak (pe_lst ha) fun σ H Q ⟨ρ, F, st, env, o, I, R, h, p⟩ => by
    refine rdL_bind I R h p fun vs ρ1 F1 H1 xs st1 t1 I1 R1 r1 h1 p1 => ?_
    split at h1
    · rename_i hz
      obtain ⟨z, h2, h3⟩ := Option.map_eq_some_iff.mp h1
      subst h3
      refine ⟨by rw [paired_len r1]; exact hz, fun l hl => ?_⟩
      obtain ⟨ρ', F', t, I', r'⟩ := hm.run I1 hl r1 h2
      exact p1 _ ρ' F' _ t I' r'
    · cases h1
theorem e_tup {x1} (ha : PA X es (rdL X.K P E cs)) : PE X (.Tuple es x1 pos) (rdE X.K P E (eTup cs)) :=
  pe_weak (pe_tup ha) fun σ H Q ⟨ρ, F, st, env, o, I, R, h, p⟩ => by
    refine rdL_bind I R h p fun vs ρ1 F1 H1 xs st1 t1 I1 R1 r1 h1 p1 => ?_
    split at h1
    · rename_i hz
      obtain ⟨z, h2, h3⟩ := Option.map_eq_some_iff.mp h1
      subst h3
      refine ⟨by rw [paired_len r1]; exact hz, fun l hl => ?_⟩
      obtain ⟨ρ', F', t, I', r'⟩ := mkT_ok I1 hl r1 h2
      exact p1 _ ρ' F' _ t I' r'
    · cases h1
theorem vrs_rep {K : Kf} {ρ : List Addr} {F : Hp} {vs : List V} {xs : List VL} (h : VRs K ρ F vs xs) : ∀ n : Nat, VRs K ρ F (List.replicate n vs).flatten (List.replicate n xs).flatten
  | 0 => .nil
  | n + 1 => by
    rw [List.replicate_succ, List.replicate_succ, List.flatten_cons, List.flatten_cons]
    exact paired_append h (vrs_rep h n)
theorem e_rep {mk : Mk} (hm : MkOk X.K mk) (ha : PA X es (rdL X.K P E cs)) (hb : PE X b (rdE X.K P E cb)) : PE X (.BinOp (.List es pos) .Mult b pos2) (rdE X.K P E (eRep mk cs cb)) :=
  pe_weak (pe_op op_rep (pe_lst ha) hb) fun σ H Q ⟨ρ, F, st, env, o, I, R, h, p⟩ => by
    refine rdL_bind I R h p fun vs ρ1 F1 H1 xs st1 t1 I1 R1 r1 h1 p1 => ?_
    split at h1
    · rename_i hz
      refine ⟨by rw [paired_len r1]; exact hz, fun l hl => ?_⟩
      obtain ⟨t2, I2⟩ := junk I1 hl (.lst vs)
      have hH : upd H1 l (.lst vs) l = some (.lst vs) := upd_same
      refine rdE_bind I2 (R1.mono t2) h1 (p1.mono t2) fun w ρ3 F3 H3 y st3 t3 I3 R3 r3 h3 p3 => ?_
      obtain ⟨k, h4, h5⟩ := Option.bind_eq_some_iff.mp h3
      split at h5
      · rename_i hc
        obtain ⟨z, h6, h7⟩ := Option.map_eq_some_iff.mp h5
        subst h7
        unfold repOk at hc
        simp only [Bool.and_eq_true, decide_eq_true_eq] at hc
        rw [asI_eq h4] at r3
        have hl2 : l ∉ ρ1 := fun hm2 => I1.dom l hm2 hl
        refine ⟨l, k, vs, rfl, vr_int r3, t3.keep l _ hH hl2, hc.1.1, hc.1.2, by rw [paired_len r1]; exact hc.2, fun p hp => ?_⟩
        obtain ⟨ρ', F', t, I', r'⟩ := hm.run I3 hp (vrs_rep ((r1.mono t2).mono t3) k.toNat) h6
        exact p3 _ ρ' F' _ t I' r'
      · cases h5
    · cases h1
end
end Sl
set_option Elab.async false
set_option linter.all false
set_option autoImplicit false
set_option maxRecDepth 100000
set_option maxHeartbeats 4000000
namespace Sl
open PySem PySem.Spec PyProof.Rows L2

/-! ### a def: its meaning, its promise, its call -/
abbrev Fn := List VL → Sto → Option Out
def spF (K : Kf) (P : Par) (n : Nat) (m : Fn) : Sp := fun vs H Q E => ∃ ρ F st xs o, Im K P ρ F H st ∧ VRs K ρ F vs xs ∧ xs.length = n ∧ m xs st = some o ∧ Post K P ρ F H Q E o
def eCall (m : Fn) (args : SL) : SE := fun env st => obindL (args env st) fun xs st1 => m xs st1
/-- the call of a def of n parameters -/
def nFn (n : Nat) (m : Fn) : Fn := fun xs st => if xs.length = n then m xs st else none
section
variable {X : Cx} {P : Par} {E : XK} {x : Str} {p pos : Pos} {e : Expr} {es : List Expr} {cs : SL} {CX : CXT} {k n : Nat} {f : Addr} {fd : FuncData} {ps : List Str} {m : Fn}
theorem e_call (F : FnOk X.prog X.w X.K X.mg X.base CX k f fd ps (spF X.K P n m)) (hr : Room k X.A) (hg : Gl X x) (hm : X.mg x = some (.ref f)) (hk : PySem.W.keepIn X.K (.ref f) = true) (hb : Binds X.K fd ps []) (hx : Passes CX X E)
    (ha : PA X (e :: es) (rdL X.K P E cs)) (hdb : (x == ("__debug__" : Str)) = false := by decide) (he : starEach (e :: es) X.env = (false, eval e X.env) :: starEach es X.env := by rfl) (hpl : (backTo pos (starEach es X.env)).any (·.1) = false := by rfl) :
    PE X (.Call (.Name x p) (e :: es) [] pos) (rdE X.K P E (eCall (nFn n m) cs)) :=
  pe_weak (pe_call F hr hg hm hk hb .nil hx ha hdb he hpl) fun σ H Q ⟨ρ, F, st, env, o, I, R, h, p⟩ => by
    refine rdL_bind I R h p fun vs ρ1 F1 H1 xs st1 t1 I1 R1 r1 h1 p1 => ?_
    unfold nFn at h1
    split at h1
    · rw [List.append_nil]
      exact ⟨ρ1, F1, st1, xs, o, I1, r1, by assumption, h1, p1⟩
    · cases h1
end
/-! ### lists of the store, changed -/
def lstAt (st : Sto) (x : VL) : Option (Nat × List VL) := match x with
  | .o n => match st[n]? with
    | some (.lst xs) => some (n, xs)
    | _ => none
  | _ => none
section
variable {K : Kf} {P : Par} {ρ : List Addr} {F H : Hp} {st : Sto}
theorem lstAt_ok (I : Im K P ρ F H st) {v : V} {x : VL} {n : Nat} {xs : List VL} (r : VR K ρ F v x) (h : lstAt st x = some (n, xs)) : ∃ a vs, v = .ref a ∧ ρ[n]? = some a ∧ F a = none ∧ H a = some (.lst vs) ∧ VRs K ρ F vs xs := by
  cases x with
  | d y => cases h
  | o m =>
    unfold lstAt at h
    cases hs : st[m]? with
    | none => simp [hs] at h
    | some ob =>
      obtain ⟨a, rfl, ha, hb⟩ := I.at_ r hs
      cases ob with
      | lst ys =>
        simp only [hs, Option.some.injEq, Prod.mk.injEq] at h
        obtain ⟨rfl, rfl⟩ := h
        obtain ⟨h1, vs, h2, h3⟩ := hb
        exact ⟨a, vs, rfl, ha, h1, h2, h3⟩
      | _ => simp [hs] at h
theorem lst_put (I : Im K P ρ F H st) {n : Nat} {a : Addr} {vs : List V} {xs : List VL} (hn : ρ[n]? = some a) (hF : F a = none) (r : VRs K ρ F vs xs) : Tr ρ F H ρ F (upd H a (.lst vs)) ∧ Im K P ρ F (upd H a (.lst vs)) (st.set n (.lst xs)) :=
  I.store (b := .lst xs) hn hF ⟨hF, vs, upd_same, r⟩
end
/-- x.append(e) -/
def eAppend (a e : SE) : SE := fun env st => obind (a env st) fun x st1 => if (lstAt st1 x).isSome then obind (e env st1) fun y st2 => match lstAt st2 x with
  | some (n, xs) => if xs.length < sizeLine then some (.ok (.d .none) (st2.set n (.lst (xs ++ [y])))) else none
  | none => none else none
/-- x.pop() -/
def ePop (a : SE) : SE := fun env st => obind (a env st) fun x st1 => match lstAt st1 x with
  | some (n, xs) => match xs[xs.length - 1]? with
    | some y => some (.ok y (st1.set n (.lst xs.dropLast)))
    | none => none
  | none => none
section
variable {X : Cx} {P : Par} {E : XK} {a e : Expr} {ca ce : SE} {apos cpos : Pos}
theorem e_append (ha : PE X a (rdE X.K P E ca)) (he : PE X e (rdE X.K P E ce)) (hbase : attributeBase a (Str.ofString "append") X.env (eval a X.env) = eval a X.env := by rfl)
    (hfew : ((backTo cpos (starEach [e] X.env)).all (fun x => !x.1) && (backToKw cpos (keywordEach [] X.env)).all (fun x => x.1.isSome)
      && decide (([e] : List Expr).length + ([] : List Keyword).length + (if ([] : List Keyword).isEmpty then 0 else 1) < 30)) = true := by rfl)
    (hline : (apos.endLine == cpos.line) = true := by rfl) (hs : starEach [e] X.env = (false, eval e X.env) :: starEach [] X.env := by rfl) (hplain : (backTo cpos (starEach [] X.env)).any (·.1) = false := by rfl) :
    PE X (.Call (.Attribute a (Str.ofString "append") apos) [e] [] cpos) (rdE X.K P E (eAppend ca ce)) :=
  pe_weak (pe_bm PySem.F.plainAttrs_list PySem.F.slot_list_append PySem.F.type_list_append mt_append ha (pa_cons he pa_nil hs) hbase hfew hline hs hplain) fun σ H Q ⟨ρ, F, st, env, o, I, R, h, p⟩ => by
    refine rdE_bind I R h p fun v ρ1 F1 H1 x st1 t1 I1 R1 r1 h1 p1 => ?_
    split at h1
    · rename_i hs1
      obtain ⟨⟨n, xs⟩, hx⟩ := Option.isSome_iff_exists.mp hs1
      obtain ⟨b, vs, rfl, g1, g2, g3, g4⟩ := lstAt_ok I1 r1 hx
      refine ⟨.inl ⟨rfl, vs, SqL.of g3⟩, ?_⟩
      refine rdE_bind I1 R1 h1 p1 fun w ρ2 F2 H2 y st2 t2 I2 R2 r2 h2 p2 => ?_
      split at h2
      · rename_i n2 xs2 hx2
        split at h2
        · rename_i hz
          cases h2
          obtain ⟨b', vs', e1, k1, k2, k3, k4⟩ := lstAt_ok I2 (r1.mono t2) hx2
          cases e1
          refine ⟨b, vs', w, rfl, rfl, k3, by rw [paired_len k4]; exact hz, ?_⟩
          obtain ⟨T, I3⟩ := lst_put I2 k1 k2 (paired_append k4 (.cons r2 .nil))
          exact p2 _ ρ2 F2 _ T I3 .non
        · cases h2
      · cases h2
    · cases h1
theorem paired_dropLast {α β : Type} {R : α → β → Prop} : ∀ {a : List α} {b : List β}, Paired R a b → Paired R a.dropLast b.dropLast
  | _, _, .nil => .nil
  | _, _, .cons _ .nil => .nil
  | _, _, .cons h (.cons h2 t) => .cons h (paired_dropLast (.cons h2 t))
theorem e_pop (ha : PE X a (rdE X.K P E ca)) (hbase : attributeBase a (Str.ofString "pop") X.env (eval a X.env) = eval a X.env := by rfl) (hline : (apos.endLine == cpos.line) = true := by rfl) :
    PE X (.Call (.Attribute a (Str.ofString "pop") apos) [] [] cpos) (rdE X.K P E (ePop ca)) :=
  pe_weak (pe_bm0 PySem.F.plainAttrs_list PySem.F.slot_list_pop PySem.F.type_list_pop mt_pop ha hbase hline) fun σ H Q ⟨ρ, F, st, env, o, I, R, h, p⟩ => by
    refine rdE_bind I R h p fun v ρ1 F1 H1 x st1 t1 I1 R1 r1 h1 p1 => ?_
    split at h1
    · rename_i n xs hx
      obtain ⟨b, vs, rfl, g1, g2, g3, g4⟩ := lstAt_ok I1 r1 hx
      refine ⟨.inl ⟨rfl, vs, SqL.of g3⟩, ?_⟩
      split at h1
      · rename_i y hy
        cases h1
        obtain ⟨w, hw, rw'⟩ := vrs_get g4 hy
        refine ⟨b, vs, w, rfl, rfl, g3, by rw [paired_len g4]; exact hw, ?_⟩
        obtain ⟨T, I3⟩ := lst_put I1 g1 g2 (paired_dropLast g4)
        exact p1 _ ρ1 F1 _ T I3 rw'
      · cases h1
    · cases h1
end
/-! ### dicts -/
def keyD : PyData → Option Key
  | .int i => some (.inl i)
  | .str x => some (.inr x)
  | _ => none
def keysD : List PyData → Option (List Key)
  | [] => some []
  | d :: r => match keyD d, keysD r with
    | some k, some ks => some (k :: ks)
    | _, _ => none
section
variable {K : Kf} {P : Par} {ρ : List Addr} {F H : Hp} {st : Sto}
theorem keyD_ok {v : V} {d : PyData} {k : Key} (r : Dq K F v d) (h : keyD d = some k) : v = kV k := by
  cases r <;> cases h <;> rfl
theorem keysD_ok : ∀ {vs : List V} {ds : List PyData} {ks : List Key}, DqAll K F vs ds → keysD ds = some ks → vs = ks.map kV
  | _, _, _, .nil, e => by
    cases e
    rfl
  | _, d :: r, _, .cons h t, e => by
    have e' : (match keyD d, keysD r with
      | some k, some ks => some (k :: ks)
      | _, _ => none) = some _ := e
    split at e'
    · rename_i k ks h1 h2
      cases e'
      rw [keyD_ok h h1, keysD_ok t h2]
      rfl
    · cases e'
end
/-- a dict's place and what it holds at a key -/
inductive DK where
  | k (n : Nat) (kvs : List (Key × VL)) (y : Key)
  | t (n : Nat) (kvs : List (List Key × VL)) (y : List Key)
def valL {κ : Type} [DecidableEq κ] (kvs : List (κ × VL)) (k : κ) : Option VL := (kvs.find? fun kv => decide (kv.1 = k)).map (·.2)
def putL {κ : Type} [DecidableEq κ] (kvs : List (κ × VL)) (k : κ) (v : VL) : List (κ × VL) :=
  if (kvs.any fun kv => decide (kv.1 = k)) = true then kvs.map (fun kv => if kv.1 = k then (kv.1, v) else kv) else kvs ++ [(k, v)]
def dctAt (st : Sto) (x y : VL) : Option DK := match x, y with
  | .o n, .d d => match st[n]?, d with
    | some (.dk kvs), d => (keyD d).map fun k => .k n kvs k
    | some (.dt kvs), .tuple ds => (keysD ds).map fun k => .t n kvs k
    | _, _ => none
  | _, _ => none
def DK.get : DK → Option VL
  | .k _ kvs y => valL kvs y
  | .t _ kvs y => valL kvs y
def DK.put (st : Sto) (v : VL) : DK → Option Sto
  | .k n kvs y => if kvs.length < sizeLine then some (st.set n (.dk (putL kvs y v))) else none
  | .t n kvs y => if kvs.length < sizeLine then some (st.set n (.dt (putL kvs y v))) else none
section
variable {K : Kf} {P : Par} {ρ : List Addr} {F H : Hp} {st : Sto}
theorem kvr_val {κ : Type} [DecidableEq κ] {k : κ} : ∀ {vs : List (κ × V)} {xs : List (κ × VL)}, KVR K ρ F vs xs → (∀ x, valL xs k = some x → ∃ v, valV vs k = some v ∧ VR K ρ F v x) ∧ (valV vs k).isSome = (valL xs k).isSome
  | _, _, .nil => ⟨fun x h => absurd (show (none : Option VL) = some x from h) (by simp), rfl⟩
  | (a, v) :: r, (b, x) :: s, .cons ⟨h1, h2⟩ t => by
    obtain ⟨i1, i2⟩ := kvr_val (k := k) t
    simp only at h1 h2
    subst h1
    by_cases e : a = k
    · have e1 : valV ((a, v) :: r) k = some v := valV_pos e
      have e2 : valL ((a, x) :: s) k = some x := by simp [valL, List.find?_cons, e]
      rw [e1, e2]
      refine ⟨fun y hy => ?_, rfl⟩
      cases hy
      exact ⟨v, rfl, h2⟩
    · have e1 : valV ((a, v) :: r) k = valV r k := valV_neg e
      have e2 : valL ((a, x) :: s) k = valL s k := by simp [valL, List.find?_cons, e]
      rw [e1, e2]
      exact ⟨i1, i2⟩
theorem kvr_any {κ : Type} [DecidableEq κ] {k : κ} : ∀ {vs : List (κ × V)} {xs : List (κ × VL)}, KVR K ρ F vs xs → (vs.any fun kv => decide (kv.1 = k)) = (xs.any fun kv => decide (kv.1 = k))
  | _, _, .nil => rfl
  | (a, v) :: r, (b, x) :: s, .cons ⟨h1, h2⟩ t => by
    simp only at h1
    subst h1
    rw [List.any_cons, List.any_cons, kvr_any t]
theorem kvr_map {κ : Type} [DecidableEq κ] {k : κ} {v : V} {x : VL} (h : VR K ρ F v x) : ∀ {vs : List (κ × V)} {xs : List (κ × VL)}, KVR K ρ F vs xs → KVR K ρ F (vs.map fun kv => if kv.1 = k then (kv.1, v) else kv) (xs.map fun kv => if kv.1 = k then (kv.1, x) else kv)
  | _, _, .nil => .nil
  | (a, w) :: r, (b, y) :: s, .cons ⟨h1, h2⟩ t => by
    simp only at h1 h2
    subst h1
    rw [List.map_cons, List.map_cons]
    refine .cons ?_ (kvr_map h t)
    by_cases e : a = k
    · dsimp only
      rw [if_pos e, if_pos e]
      exact ⟨rfl, h⟩
    · dsimp only
      rw [if_neg e, if_neg e]
      exact ⟨rfl, h2⟩
theorem kvr_put {κ : Type} [DecidableEq κ] {k : κ} {v : V} {x : VL} (h : VR K ρ F v x) {vs : List (κ × V)} {xs : List (κ × VL)} (r : KVR K ρ F vs xs) : KVR K ρ F (putK vs k v) (putL xs k x) := by
  unfold putK putL
  rw [kvr_any r]
  split
  · exact kvr_map h r
  · exact paired_append r (.cons ⟨rfl, h⟩ .nil)
theorem dctAt_ok (I : Im K P ρ F H st) {v w : V} {x y : VL} {q : DK} (rx : VR K ρ F v x) (ry : VR K ρ F w y) (h : dctAt st x y = some q) :
    ∃ a, v = .ref a ∧ (∃ o, DGet H a w o ∧ o.isSome = q.get.isSome ∧ ∀ z, q.get = some z → ∃ u, o = some u ∧ VR K ρ F u z) ∧
      ∀ u z st', VR K ρ F u z → q.put st z = some st' → ∃ H', DPut H a w u H' ∧ Tr ρ F H ρ F H' ∧ Im K P ρ F H' st' := by
  unfold dctAt at h
  split at h
  · rename_i n d
    split at h
    · rename_i kvs hs
      obtain ⟨k, h1, rfl⟩ := Option.map_eq_some_iff.mp h
      obtain ⟨a, rfl, ha, hF, kws, hH, hk⟩ := I.at_ rx hs
      have e := keyD_ok ry h1
      subst e
      obtain ⟨g1, g2⟩ := kvr_val (k := k) hk
      refine ⟨a, rfl, ⟨_, DGet.k hH, g2, fun z hz => g1 z hz⟩, fun u z st' ru hp => ?_⟩
      have hp' : (if kvs.length < sizeLine then some (st.set n (.dk (putL kvs k z))) else none) = some st' := hp
      split at hp'
      · rename_i hl
        cases hp'
        exact ⟨_, DPut.k hH (by rw [paired_len hk]; exact hl), I.store (b := .dk (putL kvs k z)) ha hF ⟨hF, _, upd_same, kvr_put ru hk⟩⟩
      · cases hp'
    · rename_i kvs ds hs
      obtain ⟨k, h1, rfl⟩ := Option.map_eq_some_iff.mp h
      obtain ⟨a, rfl, ha, hF, kws, hH, hk⟩ := I.at_ rx hs
      cases (show Dq K F w (.tuple ds) from ry) with
      | tup hq hd =>
        have e := keysD_ok hd h1
        subst e
        obtain ⟨g1, g2⟩ := kvr_val (k := k) hk
        refine ⟨a, rfl, ⟨_, DGet.t hH (I.ex _ _ hq), g2, fun z hz => g1 z hz⟩, fun u z st' ru hp => ?_⟩
        have hp' : (if kvs.length < sizeLine then some (st.set n (.dt (putL kvs k z))) else none) = some st' := hp
        split at hp'
        · rename_i hl
          cases hp'
          exact ⟨_, DPut.t hH (I.ex _ _ hq) (by rw [paired_len hk]; exact hl), I.store (b := .dt (putL kvs k z)) ha hF ⟨hF, _, upd_same, kvr_put ru hk⟩⟩
        · cases hp'
    · cases h
  · cases h
end
/-- k in d -/
def oInD (neg : Bool) : Op2 := fun st y x => (dctAt st x y).map fun q => (.d (.bool (if neg then !q.get.isSome else q.get.isSome)), st)
/-- d[k] -/
def oDget : Op2 := fun st x y => (dctAt st x y).bind fun q => q.get.map fun z => (z, st)
def rInD (neg : Bool) : R2 := fun y x H Q => ∃ a o, x = .ref a ∧ DGet H a y o ∧ Q (.bl (if neg then !o.isSome else o.isSome)) H
def rDget : R2 := fun x y H Q => ∃ a v, x = .ref a ∧ DGet H a y (some v) ∧ Q v H
section
variable {K : Kf}
theorem pr_inD {neg : Bool} : Pr2 K (rInD neg) (oInD neg) := ⟨fun {P ρ F H st st' v w x y z Q} I rx ry h q => by
  obtain ⟨d, h1, h2⟩ := Option.map_eq_some_iff.mp h
  cases h2
  obtain ⟨a, rfl, ⟨o, g1, g2, _⟩, _⟩ := dctAt_ok I ry rx h1
  refine ⟨a, o, rfl, g1, ?_⟩
  rw [g2]
  exact q _ ρ F H (Tr.refl ..) I (.bl _)⟩
theorem pr_dget : Pr2 K rDget oDget := ⟨fun {P ρ F H st st' v w x y z Q} I rx ry h q => by
  obtain ⟨d, h1, h2⟩ := Option.bind_eq_some_iff.mp h
  obtain ⟨u, h3, h4⟩ := Option.map_eq_some_iff.mp h2
  cases h4
  obtain ⟨a, rfl, ⟨o, g1, g2, g3⟩, _⟩ := dctAt_ok I rx ry h1
  obtain ⟨u', rfl, ru⟩ := g3 _ h3
  exact ⟨a, u', rfl, g1, q _ ρ F H (Tr.refl ..) I ru⟩⟩
end
section
variable {X : Cx} {P : Par} {E : XK} {a b : Expr} {ca cb : SE} {pos : Pos}
theorem op_inD (hu : X.A.units + 1 < cLine) : OpR X (compareOp .In) (rInD false) := by
  intro pins s σ H x y v u Q I rx ry h
  obtain ⟨a, o, rfl, g, q⟩ := h
  cases ry
  exact d_in hu I g rx fun s3 I3 => ⟨.bl o.isSome, H, I3, rfl, q⟩
theorem op_notInD (hu : X.A.units + 1 < cLine) : OpR X (compareOp .NotIn) (rInD true) := by
  intro pins s σ H x y v u Q I rx ry h
  obtain ⟨a, o, rfl, g, q⟩ := h
  cases ry
  exact d_notIn hu I g rx fun s3 I3 => ⟨.bl (!o.isSome), H, I3, rfl, q⟩
theorem e_dget (hu : X.A.units + 1 < cLine) (ha : PE X a (rdE X.K P E ca)) (hb : PE X b (rdE X.K P E cb)) (hs : NoSl b) : PE X (.Subscript a b pos) (rdE X.K P E (eOp oDget ca cb)) :=
  pe_weak (pe_dget hu ha hb hs) fun _ _ _ h => op_rd pr_dget h
/-- {} : a new dict of the store -/
def eDnew (tup : Bool) : SE := fun _ st => some (.ok (.o st.length) (st ++ [if tup then .dt [] else .dk []]))
theorem e_dnew : PE X (.Dict [] [] pos) (rdE X.K P E (eDnew false)) :=
  pe_weak pe_dnewK fun σ H Q ⟨ρ, F, st, env, o, I, R, h, p⟩ d hd => by
    cases h
    obtain ⟨T, I'⟩ := I.alloc (b := .dk []) hd (o := .dK []) fun ρ' H' t hF hH _ => ⟨hF, [], hH, .nil⟩
    refine p _ _ F _ T I' ⟨d, rfl, ?_⟩
    rw [List.getElem?_append_right (by rw [I.len]; exact Nat.le_refl _), I.len, Nat.sub_self]
    rfl
theorem e_dnewT : PE X (.Dict [] [] pos) (rdE X.K P E (eDnew true)) :=
  pe_weak pe_dnewT fun σ H Q ⟨ρ, F, st, env, o, I, R, h, p⟩ d hd => by
    cases h
    obtain ⟨T, I'⟩ := I.alloc (b := .dt []) hd (o := .dT []) fun ρ' H' t hF hH _ => ⟨hF, [], hH, .nil⟩
    refine p _ _ F _ T I' ⟨d, rfl, ?_⟩
    rw [List.getElem?_append_right (by rw [I.len]; exact Nat.le_refl _), I.len, Nat.sub_self]
    rfl
/-- len of a dict -/
def cLenD : OpC := fun st xs => match xs with
  | [.o n] => match st[n]? with
    | some (.dk kvs) => some (.d (.int kvs.length), st)
    | some (.dt kvs) => some (.d (.int kvs.length), st)
    | _ => none
  | _ => none
def rLenD : List V → Hp → VK → Prop := fun xs H Q => (∃ a kvs, xs = [V.ref a] ∧ H a = some (.dK kvs) ∧ Q (.int kvs.length) H) ∨ rLenT xs H Q
theorem call_lenDD : CallR X (.builtin "len") rLenD := CallR.or call_lenD call_len_dT
theorem pr_lenD {K : Kf} : PrC K rLenD cLenD := ⟨fun {P ρ F H st st' vs xs z Q} I r h q => by
  unfold cLenD at h
  split at h
  · obtain ⟨v, rfl, rv⟩ := vrs1 r
    split at h
    · rename_i kvs hs
      cases h
      obtain ⟨a, rfl, ha, hF, kws, hH, hk⟩ := I.at_ rv hs
      exact .inl ⟨a, kws, rfl, hH, by rw [paired_len hk]; exact q _ ρ F H (Tr.refl ..) I (.int _)⟩
    · rename_i kvs hs
      cases h
      obtain ⟨a, rfl, ha, hF, kws, hH, hk⟩ := I.at_ rv hs
      exact .inr ⟨a, kws, rfl, hH, by rw [paired_len hk]; exact q _ ρ F H (Tr.refl ..) I (.int _)⟩
    · cases h
  · cases h⟩
end
end Sl
set_option Elab.async false
set_option linter.all false
set_option autoImplicit false
set_option maxRecDepth 100000
set_option maxHeartbeats 4000000
namespace Sl
open PySem PySem.Spec PyProof.Rows L2

/-! ### targets -/
abbrev Tg := VL → Env → Option Env
/-- the slots outside of T are as they were -/
def Off (T : List Nat) (σ σ' : L2.St) : Prop := σ'.length = σ.length ∧ ∀ i, i ∉ T → σ'[i]? = σ[i]?
def rdG (K : Kf) (T : List Nat) (c : Tg) : TG := fun v σ H Q => ∃ ρ F env x env', Evl.Ex F H ∧ EnvR K ρ F σ env ∧ VR K ρ F v x ∧ c x env = some env' ∧ ∀ σ', EnvR K ρ F σ' env' → Off T σ σ' → Q σ' H
def gN (i : Nat) : Tg := fun x env => some (env.set i (some x))
def gsNil : List VL → Env → Option Env
  | [], env => some env
  | _ :: _, _ => none
def gsCons (g : Tg) (gs : List VL → Env → Option Env) : List VL → Env → Option Env
  | [], _ => none
  | x :: xs, env => (g x env).bind fun env1 => gs xs env1
/-- (a, b, ..) = a tuple of data -/
def gT (n : Nat) (gs : List VL → Env → Option Env) : Tg := fun x env => match x with
  | .d (.tuple ds) => if ds.length = n then gs (ds.map .d) env else none
  | _ => none
def rdGs (K : Kf) (T : List Nat) (c : List VL → Env → Option Env) : TGs := fun vs σ H Q => ∃ ρ F env xs env', Evl.Ex F H ∧ EnvR K ρ F σ env ∧ VRs K ρ F vs xs ∧ c xs env = some env' ∧ ∀ σ', EnvR K ρ F σ' env' → Off T σ σ' → Q σ' H
section
variable {X : Cx}
theorem pg_weak {e : Expr} {t t' : TG} (h : PG X e t) (w : ∀ v σ H Q, t' v σ H Q → t v σ H Q) : PG X e t' := ⟨fun pins s σ H v u Q I r q => h.run pins s σ H v u Q I r (w v σ H Q q)⟩
theorem pgs_weak {e : List Expr} {t t' : TGs} (h : PGs X e t) (w : ∀ v σ H Q, t' v σ H Q → t v σ H Q) : PGs X e t' := ⟨fun pins s σ H v u Q I r q => h.run pins s σ H v u Q I r (w v σ H Q q)⟩
theorem g_name {i : Nat} {x : Str} {pos : Pos} (hN : X.N.Nodup) (hi : X.N[i]? = some x) (hx : Loc X.env.scope x) (hf : X.fn x = true ∨ X.env.scope.names.lookup x = some .local := by first | exact .inl rfl | exact .inr rfl | assumption) : PG X (.Name x pos) (rdG X.K [i] (gN i)) :=
  pg_weak (pg_name hN hi hx hf) fun v σ H Q ⟨ρ, F, env, x, env', e, R, r, h, q⟩ => by
    cases h
    exact q _ (R.set r) ⟨List.length_set, fun j hj => List.getElem?_set_ne fun e => hj (by rw [← e]; exact List.mem_singleton.mpr rfl)⟩
theorem Off.refl (T : List Nat) (σ : L2.St) : Off T σ σ := ⟨rfl, fun _ _ => rfl⟩
theorem Off.trans {T T' : List Nat} {σ σ1 σ2 : L2.St} (a : Off T σ σ1) (b : Off T' σ1 σ2) : Off (T ++ T') σ σ2 := ⟨b.1.trans a.1, fun i hi => (b.2 i fun h => hi (List.mem_append_right _ h)).trans (a.2 i fun h => hi (List.mem_append_left _ h))⟩
theorem gs_nil : PGs X [] (rdGs X.K [] gsNil) := pgs_weak pgs_nil fun v σ H Q ⟨ρ, F, env, xs, env', e, R, r, h, q⟩ => by
  cases r with
  | nil =>
    cases h
    exact ⟨rfl, q _ R (Off.refl ..)⟩
  | cons _ _ => cases h
theorem gs_cons {e : Expr} {es : List Expr} {g : Tg} {T T' : List Nat} {gs : List VL → Env → Option Env} (h1 : PG X e (rdG X.K T g)) (h2 : PGs X es (rdGs X.K T' gs)) (hs : (assignEach (e :: es) X.env).map (·.2) = assign e X.env :: (assignEach es X.env).map (·.2) := by rfl) :
    PGs X (e :: es) (rdGs X.K (T ++ T') (gsCons g gs)) := pgs_weak (pgs_cons h1 h2 hs) fun v σ H Q ⟨ρ, F, env, xs, env', e, R, r, h, q⟩ => by
  cases r with
  | nil => cases h
  | cons r rr =>
    obtain ⟨env1, k1, k2⟩ := Option.bind_eq_some_iff.mp h
    exact ⟨_, _, rfl, ρ, F, env, _, env1, e, R, r, k1, fun σ' R' O' => ⟨ρ, F, env1, _, env', e, R', rr, k2, fun σ2 R2 O2 => q σ2 R2 (O'.trans O2)⟩⟩
theorem g_tup {es : List Expr} {k : Nat} {T : List Nat} {gs : List VL → Env → Option Env} {n : Nat} {pos : Pos} (hc : X.calm = true) (h : PGs X es (rdGs X.K T gs)) (hn : (assignEach es X.env).length = n := by rfl) (hst : (assignEach es X.env).findIdx? (·.1) = none := by rfl) :
    PG X (.Tuple es k pos) (rdG X.K T (gT n gs)) := pg_weak (pg_tup hc h hn hst) fun v σ H Q ⟨ρ, F, env, x, env', e, R, r, h, q⟩ => by
  unfold gT at h
  split at h
  · rename_i ds
    split at h
    · rename_i hl
      cases (show Dq X.K F v (.tuple ds) from r) with
      | tup hq hd =>
        have hv : VRs X.K ρ F _ (ds.map .d) := vrs_of hd
        refine ⟨_, _, rfl, SqT.of (e _ _ hq), ?_, ρ, F, env, _, env', e, R, hv, h, q⟩
        rw [paired_len hv, List.length_map]
        exact hl
    · cases h
  · cases h
end
/-! ### small statements -/
def sNx : SS := fun env st => some (.nx env st)
def sSeq (a b : SS) : SS := fun env st => match a env st with
  | none => none
  | some (.nx env1 st1) => b env1 st1
  | some o => some o
def sAsg (c : SE) (g : Tg) : SS := fun env st => fbind (c env st) fun x st1 => (g x env).map fun env1 => .nx env1 st1
def sDrop (c : SE) : SS := fun env st => fbind (c env st) fun _ st1 => some (.nx env st1)
def sRet (c : SE) : SS := fun env st => fbind (c env st) fun x st1 => some (.rt x st1)
def sRetN : SS := fun env st => some (.rt (.d .none) st)
def sIf (c : SE) (a b : SS) : SS := fun env st => fbind (c env st) fun x st1 => (tst x).bind fun t => if t then a env st1 else b env st1
def sBk : SS := fun env st => some (.bk env st)
def sCt : SS := fun env st => some (.ct env st)
section
variable {X : Cx} {P : Par} {E : XK} {pos : Pos} {e c : Expr} {ce cc : SE} {s : Stmt} {ss ts : List Stmt} {cs ct : SS}
theorem ss_nil : PSs X [] (rdS X.K P E sNx) := pss_weak pss_nil fun D σ H ⟨ρ, F, st, env, o, I, R, h, p⟩ => by
  cases h
  exact p _ ρ F H (Tr.refl ..) I R
theorem seq_rd {K : Kf} {a b : SS} {D : Ends} {σ : L2.St} {H : Hp} (h : rdS K P E (sSeq a b) D σ H) : tSeq (rdS K P E a) (rdS K P E b) D σ H := by
  obtain ⟨ρ, F, st, env, o, I, R, h, p⟩ := h
  unfold sSeq at h
  split at h
  · cases h
  · rename_i env1 st1 ha
    exact ⟨ρ, F, st, env, _, I, R, ha, fun σ' ρ1 F1 H1 t1 I1 R1 => ⟨ρ1, F1, st1, env1, o, I1, R1, h, p.mono t1⟩⟩
  · rename_i hne ha
    cases h
    refine ⟨ρ, F, st, env, o, I, R, ha, ?_⟩
    cases o with
    | nx env1 st1 => exact (hne env1 st1 rfl).elim
    | rt _ _ => exact p
    | bk _ _ => exact p
    | ct _ _ => exact p
    | ex _ _ _ => exact p
theorem ss_cons (h1 : PS X s (rdS X.K P E cs)) (h2 : PSs X ss (rdS X.K P E ct)) : PSs X (s :: ss) (rdS X.K P E (sSeq cs ct)) := pss_weak (pss_cons h1 h2) fun _ _ _ h => seq_rd h
theorem ss_one (h1 : PS X s (rdS X.K P E cs)) : PSs X [s] (rdS X.K P E cs) := pss_one h1
theorem s_pass : PS X (.Pass pos) (rdS X.K P E sNx) := ps_weak ps_pass fun D σ H ⟨ρ, F, st, env, o, I, R, h, p⟩ => by
  cases h
  exact p _ ρ F H (Tr.refl ..) I R
theorem s_break : PS X (.Break pos) (rdS X.K P E sBk) := ps_weak ps_break fun D σ H ⟨ρ, F, st, env, o, I, R, h, p⟩ => by
  cases h
  exact p _ ρ F H (Tr.refl ..) I R
theorem s_continue : PS X (.Continue pos) (rdS X.K P E sCt) := ps_weak ps_continue fun D σ H ⟨ρ, F, st, env, o, I, R, h, p⟩ => by
  cases h
  exact p _ ρ F H (Tr.refl ..) I R
theorem s_expr (he : PE X e (rdE X.K P E ce)) (hs : swapsWith e none pos.line X.env = pure false := by rfl) : PS X (.Expr e pos) (rdS X.K P E (sDrop ce)) := ps_weak (ps_expr he hs) fun D σ H ⟨ρ, F, st, env, o, I, R, h, p⟩ => by
  refine rdE_bindS I R h p fun v ρ1 F1 H1 x st1 t1 I1 R1 r1 h1 p1 => ?_
  cases h1
  exact p1 _ ρ1 F1 H1 (Tr.refl ..) I1 R1
theorem s_ret (he : PE X e (rdE X.K P E ce)) : PS X (.Return (some e) pos) (rdS X.K P E (sRet ce)) := ps_weak (ps_ret he) fun D σ H ⟨ρ, F, st, env, o, I, R, h, p⟩ => by
  refine rdE_bindS I R h p fun v ρ1 F1 H1 x st1 t1 I1 R1 r1 h1 p1 => ?_
  cases h1
  exact p1 _ ρ1 F1 H1 (Tr.refl ..) I1 r1
theorem s_retN : PS X (.Return none pos) (rdS X.K P E sRetN) := ps_weak ps_retN fun D σ H ⟨ρ, F, st, env, o, I, R, h, p⟩ => by
  cases h
  exact p _ ρ F H (Tr.refl ..) I .non
theorem s_if (hc : PT X c (rdT X.K P E cc)) (ha : PSs X ss (rdS X.K P E cs)) (hb : PSs X ts (rdS X.K P E ct)) : PS X (.If c ss ts pos) (rdS X.K P E (sIf cc cs ct)) := ps_weak (ps_if hc ha hb) fun D σ H ⟨ρ, F, st, env, o, I, R, h, p⟩ => by
  refine rdT_bindS (k := fun t st1 => if t then cs env st1 else ct env st1) I R h p fun ρ1 F1 H1 b st1 t1 I1 R1 h1 p1 => ?_
  cases b with
  | true => exact ⟨ρ1, F1, st1, env, o, I1, R1, h1, p1⟩
  | false => exact ⟨ρ1, F1, st1, env, o, I1, R1, h1, p1⟩
theorem asg_rd {K : Kf} {T : List Nat} {g : Tg} {D : Ends} {σ : L2.St} {H : Hp} (h : rdS K P E (sAsg ce g) D σ H) : tAsg (rdE K P E ce) (rdG K T g) D σ H := by
  obtain ⟨ρ, F, st, env, o, I, R, h, p⟩ := h
  refine rdE_bindS I R h p fun v ρ1 F1 H1 x st1 t1 I1 R1 r1 h1 p1 => ?_
  obtain ⟨env1, k1, k2⟩ := Option.map_eq_some_iff.mp h1
  cases k2
  exact ⟨ρ1, F1, env, x, env1, I1.ex, R1, r1, k1, fun σ' R' _ => p1 _ ρ1 F1 H1 (Tr.refl ..) I1 R'⟩
theorem s_asg {tg : Expr} {T : List Nat} {g : Tg} (he : PE X e (rdE X.K P E ce)) (hg : PG X tg (rdG X.K T g)) (hs : swapsWithSole [tg] e pos.line X.env = pure false := by rfl) (hw : swappedStores [tg] e X.env = pure none := by rfl)
    (h1 : (assignEach [tg] X.env).map (·.2) = [assign tg X.env] := by rfl) : PS X (.Assign [tg] e pos) (rdS X.K P E (sAsg ce g)) := ps_weak (ps_asg he hg hs hw h1) fun _ _ _ h => asg_rd h
theorem s_set {i : Nat} {x : Str} {pos' : Pos} (hN : X.N.Nodup) (hi : X.N[i]? = some x) (hx : Loc X.env.scope x) (he : PE X e (rdE X.K P E ce)) (hs : swapsWith e (some (.Name x pos')) pos.line X.env = pure false := by rfl) (hf : X.fn x = true ∨ X.env.scope.names.lookup x = some .local := by first | exact .inl rfl | exact .inr rfl | assumption) :
    PS X (.Assign [.Name x pos'] e pos) (rdS X.K P E (sAsg ce (gN i))) := ps_weak (ps_set hN hi hx he hs hf) fun D σ H ⟨ρ, F, st, env, o, I, R, h, p⟩ => by
  refine rdE_bindS I R h p fun v ρ1 F1 H1 x st1 t1 I1 R1 r1 h1 p1 => ?_
  obtain ⟨env1, k1, k2⟩ := Option.map_eq_some_iff.mp h1
  cases k2
  cases k1
  exact p1 _ ρ1 F1 H1 (Tr.refl ..) I1 (R1.set r1)
/-- x[i] = e, a list of the store -/
def sSetL (e a i : SE) : SS := fun env st => fbind (e env st) fun y st1 => fbind (a env st1) fun x st2 => fbind (i env st2) fun k st3 => match lstAt st3 x, asI k with
  | some (n, xs), some j => (ixN xs.length j).map fun j => .nx env (st3.set n (.lst (xs.set j y)))
  | _, _ => none
theorem paired_set {α β : Type} {R : α → β → Prop} {x : α} {y : β} (h : R x y) : ∀ {a : List α} {b : List β} (i : Nat), Paired R a b → Paired R (a.set i x) (b.set i y)
  | _, _, _, .nil => .nil
  | _, _, 0, .cons _ t => .cons h t
  | _, _, i + 1, .cons q t => .cons q (paired_set h i t)
theorem s_setL {o i : Expr} {co ci : SE} {p2 : Pos} (he : PE X e (rdE X.K P E ce)) (ho : PE X o (rdE X.K P E co)) (hi : PE X i (rdE X.K P E ci)) (hs : swapsWithSole [.Subscript o i p2] e pos.line X.env = pure false := by rfl) (hw : swappedStores [.Subscript o i p2] e X.env = pure none := by rfl)
    (h1 : (assignEach [.Subscript o i p2] X.env).map (·.2) = [assign (.Subscript o i p2) X.env] := by rfl)
    (ha : ∀ v, assign (.Subscript o i p2) X.env v = (do
      let ov ← holding [v] (eval o X.env)
      let iv ← holding [v, ov] (eval i X.env)
      standAt p2
      holding [v, ov, iv] (setItem ov iv v)
      release [v, ov, iv] []) := by intro _; rfl) : PS X (.Assign [.Subscript o i p2] e pos) (rdS X.K P E (sSetL ce co ci)) :=
  ps_weak (ps_asg he (pg_sub ho hi set_list ha) hs hw h1) fun D σ H ⟨ρ, F, st, env, o, I, R, h, p⟩ => by
    refine rdE_bindS I R h p fun v ρ1 F1 H1 y st1 t1 I1 R1 r1 h1 p1 => ?_
    refine rdE_bindS I1 R1 h1 p1 fun w ρ2 F2 H2 x st2 t2 I2 R2 r2 h2 p2 => ?_
    refine rdE_bindS I2 R2 h2 p2 fun u ρ3 F3 H3 k st3 t3 I3 R3 r3 h3 p3 => ?_
    split at h3
    · rename_i n xs j hx hj
      obtain ⟨m, h4, h5⟩ := Option.map_eq_some_iff.mp h3
      cases h5
      obtain ⟨b, vs, e1, k1, k2, k3, k4⟩ := lstAt_ok I3 (r2.mono t3) hx
      rw [asI_eq hj] at r3
      refine ⟨b, vs, j, m, e1, vr_int r3, k3, by rw [paired_len k4]; exact h4, ?_⟩
      obtain ⟨T, I4⟩ := lst_put I3 k1 k2 (paired_set ((r1.mono t2).mono t3) m k4)
      exact p3 _ ρ3 F3 _ T I4 (R3.mono T)
    · cases h3
/-- d[k] = e -/
def sDput (e a i : SE) : SS := fun env st => fbind (e env st) fun z st1 => fbind (a env st1) fun x st2 => fbind (i env st2) fun y st3 => (dctAt st3 x y).bind fun q => (q.put st3 z).map fun st4 => .nx env st4
theorem s_dput {o i : Expr} {co ci : SE} {pos' : Pos} (hu : X.A.units + 1 < cLine) (he : PE X e (rdE X.K P E ce)) (ho : PE X o (rdE X.K P E co)) (hi : PE X i (rdE X.K P E ci)) (hs : swapsWith e (some (.Subscript o i pos')) pos.line X.env = pure false := by rfl) :
    PS X (.Assign [.Subscript o i pos'] e pos) (rdS X.K P E (sDput ce co ci)) :=
  ps_weak (ps_dput hu ho hi he hs) fun D σ H ⟨ρ, F, st, env, o, I, R, h, p⟩ => by
    refine rdE_bindS I R h p fun v ρ1 F1 H1 z st1 t1 I1 R1 r1 h1 p1 => ?_
    refine rdE_bindS I1 R1 h1 p1 fun w ρ2 F2 H2 x st2 t2 I2 R2 r2 h2 p2 => ?_
    refine rdE_bindS I2 R2 h2 p2 fun u ρ3 F3 H3 y st3 t3 I3 R3 r3 h3 p3 => ?_
    obtain ⟨q, h4, h5⟩ := Option.bind_eq_some_iff.mp h3
    obtain ⟨st4, h6, h7⟩ := Option.map_eq_some_iff.mp h5
    cases h7
    obtain ⟨a, e1, _, g⟩ := dctAt_ok I3 (r2.mono t3) r3 h4
    obtain ⟨H', g1, g2, g3⟩ := g v z st4 ((r1.mono t2).mono t3) h6
    exact ⟨a, H', e1, g1, p3 _ ρ3 F3 _ g2 g3 (R3.mono g2)⟩
end
/-! ### what is walked -/
inductive OutI where
  | ok (xs : List VL) (st : Sto)
  | ex (c : Nat) (fs : List PyData) (st : Sto)
abbrev SI := Env → Sto → Option OutI
/-- the iterator yields these, whatever is laid or changed meanwhile -/
def ItR (K : Kf) (ρ : List Addr) (F : Hp) (J : It) (xs : List VL) : Prop :=
  (∀ i x, xs[i]? = some x → ∀ H, Evl.Ex F H → J.go i H ∧ ∀ v H', J.yld i H v H' → H' = H ∧ VR K ρ F v x) ∧ ∀ H, Evl.Ex F H → J.stop xs.length H
def PostI (K : Kf) (P : Par) (ρ : List Addr) (F H : Hp) (Q : It → Hp → Prop) (E : XK) : OutI → Prop
  | .ok xs st => ∀ J ρ' F' H', Tr ρ F H ρ' F' H' → Im K P ρ' F' H' st → ItR K ρ' F' J xs → Q J H'
  | .ex c fs st => PostX K P ρ F H E c fs st
def rdI (K : Kf) (P : Par) (E : XK) (c : SI) : TI := fun σ H R => ∃ ρ F st env o, Im K P ρ F H st ∧ EnvR K ρ F σ env ∧ c env st = some o ∧ PostI K P ρ F H R E o
def ibind (x : Option Out) (k : VL → Sto → Option OutI) : Option OutI := match x with
  | none => none
  | some (.ok r st) => k r st
  | some (.ex c fs st) => some (.ex c fs st)
def ibindL (x : Option OutL) (k : List VL → Sto → Option OutI) : Option OutI := match x with
  | none => none
  | some (.ok r st) => k r st
  | some (.ex c fs st) => some (.ex c fs st)
/-- a list or tuple of data -/
def sqI (x : VL) (st : Sto) : Option OutI := match x with
  | .d (.list ds) => some (.ok (ds.map .d) st)
  | .d (.tuple ds) => some (.ok (ds.map .d) st)
  | _ => none
theorem sqI_some {x : VL} {st : Sto} {o : OutI} (h : sqI x st = some o) : ∃ ds, (x = .d (.list ds) ∨ x = .d (.tuple ds)) ∧ o = .ok (ds.map .d) st := by
  unfold sqI at h
  split at h
  · cases h
    exact ⟨_, .inl rfl, rfl⟩
  · cases h
    exact ⟨_, .inr rfl, rfl⟩
  · cases h
def iSeq (a : SE) : SI := fun env st => ibind (a env st) sqI
def rgL (lo : Int) (n : Nat) : List VL := (List.range n).map fun (i : Nat) => VL.d (.int (lo + (i : Int)))
def rg1 (xs : List VL) (st : Sto) : Option OutI := match xs with
  | [.d (.int j)] => if decide (-(2 ^ 62) ≤ j) && decide (j < 2 ^ 62) then some (.ok (rgL 0 j.toNat) st) else none
  | _ => none
def rg2 (xs : List VL) (st : Sto) : Option OutI := match xs with
  | [.d (.int i), .d (.int j)] => if (decide (-(2 ^ 62) ≤ i) && decide (i < 2 ^ 62)) && (decide (-(2 ^ 62) ≤ j) && decide (j < 2 ^ 62)) then some (.ok (rgL i (j - i).toNat) st) else none
  | _ => none
theorem rg1_some {xs : List VL} {st : Sto} {o : OutI} (h : rg1 xs st = some o) : ∃ j, xs = [.d (.int j)] ∧ -(2 ^ 62) ≤ j ∧ j < 2 ^ 62 ∧ o = .ok (rgL 0 j.toNat) st := by
  unfold rg1 at h
  split at h
  · split at h
    · rename_i hb
      cases h
      simp only [Bool.and_eq_true, decide_eq_true_eq] at hb
      exact ⟨_, rfl, hb.1, hb.2, rfl⟩
    · cases h
  · cases h
theorem rg2_some {xs : List VL} {st : Sto} {o : OutI} (h : rg2 xs st = some o) : ∃ i j, xs = [.d (.int i), .d (.int j)] ∧ (-(2 ^ 62) ≤ i ∧ i < 2 ^ 62 ∧ -(2 ^ 62) ≤ j ∧ j < 2 ^ 62) ∧ o = .ok (rgL i (j - i).toNat) st := by
  unfold rg2 at h
  split at h
  · split at h
    · rename_i hb
      cases h
      simp only [Bool.and_eq_true, decide_eq_true_eq] at hb
      exact ⟨_, _, rfl, ⟨hb.1.1, hb.1.2, hb.2.1, hb.2.2⟩, rfl⟩
    · cases h
  · cases h
def iR1 (a : SL) : SI := fun env st => ibindL (a env st) rg1
def iR2 (a : SL) : SI := fun env st => ibindL (a env st) rg2
section
variable {X : Cx} {P : Par} {E : XK} {tg e : Expr} {ce : SE} {ca : SL}
theorem pi_weak {w w' : TI} (h : PI X tg e w) (k : ∀ σ H R, w' σ H R → w σ H R) : PI X tg e w' := ⟨fun pins s σ H R I q => h.run pins s σ H R I (k σ H R q)⟩
/-- a list or a tuple -/
def iEither (K : Kf) (tl : TE) : TI := fun σ H R => tl σ H fun x H1 => (∃ a, x = .ref a ∧ (∃ xs, SqL K H1 a xs) ∧ R (Itl K a) H1) ∨ ∃ a, x = .ref a ∧ (∃ xs, SqT K H1 a xs) ∧ R (Itt K a) H1
theorem pi_either {tl : TE} (hl : PE X e tl) : PI X tg e (iEither X.K tl) := by
  refine ⟨fun pins s σ H R I h => ?_⟩
  refine thn (hl.run pins s σ H _ I h) fun v s1 ⟨x, H1, I1, r1, q1⟩ => ?_
  rcases q1 with ⟨a, e, ⟨xs, hq⟩, q⟩ | ⟨a, e, ⟨xs, hq⟩, q⟩
  · subst e
    cases r1
    obtain ⟨its, rv, p, hz⟩ := I1.list hq
    refine wpAny_pyIter_list p.isList ⟨_, [s1.heap.objs.size], _, _, H1, rfl, I1.kept (t' := s1.toks) fun b o e => Heap.get?_push_of_some _ e, turn_list a s1.heap.objs.size, ⟨_, Heap.get?_push_size _ rfl, rfl, rfl⟩, fun b hb => ?_, q⟩
    rw [List.mem_singleton.mp hb]
    exact I1.fpOk (Nat.le_refl _) (I1.hok.fresh (Nat.le_refl _))
  · subst e
    cases r1
    obtain ⟨its, rv, p, hz⟩ := I1.tuple hq
    refine wpAny_pyIter_tuple (show s1.heap.IsTuple a its.toArray from p) ⟨_, [s1.heap.objs.size], _, _, H1, rfl, I1.kept (t' := s1.toks) fun b o e => Heap.get?_push_of_some _ e, turn_tuple a s1.heap.objs.size, ⟨_, Heap.get?_push_size _ rfl, rfl, rfl⟩, fun b hb => ?_, q⟩
    rw [List.mem_singleton.mp hb]
    exact I1.fpOk (Nat.le_refl _) (I1.hok.fresh (Nat.le_refl _))
theorem vrs_ix {K : Kf} {ρ : List Addr} {F : Hp} : ∀ {vs : List V} {xs : List VL}, VRs K ρ F vs xs → ∀ (i : Nat) (x : VL), xs[i]? = some x → ∃ v, vs[i]? = some v ∧ VR K ρ F v x := fun h i x e => vrs_get h e
theorem itt_ok {K : Kf} {ρ : List Addr} {F : Hp} {a : Addr} {vs : List V} {xs : List VL} (hs : F a = some (.tup vs)) (h : VRs K ρ F vs xs) : ItR K ρ F (Itt K a) xs := by
  refine ⟨fun i x hx H e => ?_, fun H e => ?_⟩
  · obtain ⟨v, hv, rv⟩ := vrs_get h hx
    refine ⟨⟨vs, v, SqT.of (e _ _ hs), hv⟩, fun w H' hy => ⟨hy.1, ?_⟩⟩
    have h3 := hy.2 vs (SqT.of (e _ _ hs))
    rw [hv] at h3
    cases h3
    exact rv
  · exact ⟨vs, SqT.of (e _ _ hs), by rw [paired_len h]; exact Nat.le_refl _⟩
theorem itl_ok' {K : Kf} {ρ : List Addr} {F : Hp} {a : Addr} {vs : List V} {xs : List VL} (hs : SqL K F a vs) (h : VRs K ρ F vs xs) : ItR K ρ F (Itl K a) xs := by
  refine ⟨fun i x hx H e => ?_, fun H e => ?_⟩
  · obtain ⟨v, hv, rv⟩ := vrs_get h hx
    refine ⟨⟨vs, v, Evl.ex_l e hs, hv⟩, fun w H' hy => ⟨hy.1, ?_⟩⟩
    have h3 := hy.2 vs (Evl.ex_l e hs)
    rw [hv] at h3
    cases h3
    exact rv
  · exact ⟨vs, Evl.ex_l e hs, by rw [paired_len h]; exact Nat.le_refl _⟩
theorem i_seq (he : PE X e (rdE X.K P E ce)) : PI X tg e (rdI X.K P E (iSeq ce)) := pi_weak (pi_either he) fun σ H R ⟨ρ, F, st, env, o, I, R', h, p⟩ => by
  unfold iSeq at h
  cases hc : ce env st with
  | none => rw [hc] at h; cases h
  | some o1 =>
    rw [hc] at h
    refine ⟨ρ, F, st, env, o1, I, R', hc, ?_⟩
    cases o1 with
    | ex c fs st1 =>
      cases h
      exact p
    | ok r st1 =>
      intro v ρ1 F1 H1 t1 I1 r1
      obtain ⟨ds, hr, rfl⟩ := sqI_some (show sqI r st1 = some o from h)
      rcases hr with rfl | rfl
      · cases (show Dq X.K F1 v (.list ds) from r1) with
        | lst hs hd => exact .inl ⟨_, rfl, ⟨_, Evl.ex_l I1.ex hs⟩, p _ ρ1 F1 H1 t1 I1 (itl_ok' hs (vrs_of hd))⟩
      · cases (show Dq X.K F1 v (.tuple ds) from r1) with
        | tup hs hd => exact .inr ⟨_, rfl, ⟨_, SqT.of (I1.ex _ _ hs)⟩, p _ ρ1 F1 H1 t1 I1 (itt_ok hs (vrs_of hd))⟩
theorem itr_ok {K : Kf} {ρ : List Addr} {F : Hp} (lo : Int) (n : Nat) : ItR K ρ F (Itr lo n) (rgL lo n) := by
  refine ⟨fun i x hx H e => ?_, fun H e => ?_⟩
  · unfold rgL at hx
    rw [List.getElem?_map] at hx
    obtain ⟨j, h1, h2⟩ := Option.map_eq_some_iff.mp hx
    obtain ⟨hl, h3⟩ := List.getElem?_eq_some_iff.mp h1
    rw [List.getElem_range] at h3
    rw [List.length_range] at hl
    subst h3 h2
    refine ⟨hl, fun v H' hy => ⟨hy.1, ?_⟩⟩
    rw [hy.2]
    exact .int _
  · show n ≤ (rgL lo n).length
    unfold rgL
    rw [List.length_map, List.length_range]
    exact Nat.le_refl _
theorem i_r1 {a : Expr} {p pos : Pos} (hg : Gl X (Str.ofString "range")) (hm : X.mg (Str.ofString "range") = none) (ha : PA X [a] (rdL X.K P E ca)) (hs : starEach [a] X.env = [(false, eval a X.env)] := by rfl) :
    PI X tg (.Call (.Name (Str.ofString "range") p) [a] [] pos) (rdI X.K P E (iR1 ca)) := pi_weak (pi_range1 hg hm ha hs) fun σ H R ⟨ρ, F, st, env, o, I, R', h, p⟩ => by
  unfold iR1 at h
  cases hc : ca env st with
  | none => rw [hc] at h; cases h
  | some o1 =>
    rw [hc] at h
    refine ⟨ρ, F, st, env, o1, I, R', hc, ?_⟩
    cases o1 with
    | ex c fs st1 =>
      cases h
      exact p
    | ok xs st1 =>
      intro vs ρ1 F1 H1 t1 I1 r1
      obtain ⟨j, rfl, h1, h2, rfl⟩ := rg1_some (show rg1 xs st1 = some o from h)
      obtain ⟨v, rfl, rv⟩ := vrs1 r1
      exact ⟨j, by rw [vr_int rv], h1, h2, p _ ρ1 F1 H1 t1 I1 (itr_ok 0 _)⟩
theorem vrs2 {K : Kf} {ρ : List Addr} {F : Hp} {vs : List V} {x y : VL} (h : VRs K ρ F vs [x, y]) : ∃ v w, vs = [v, w] ∧ VR K ρ F v x ∧ VR K ρ F w y := by
  cases h with
  | cons h t =>
    cases t with
    | cons h2 t =>
      cases t
      exact ⟨_, _, rfl, h, h2⟩
theorem i_r2 {a b : Expr} {p pos : Pos} (hg : Gl X (Str.ofString "range")) (hm : X.mg (Str.ofString "range") = none) (ha : PA X [a, b] (rdL X.K P E ca)) (hs : starEach [a, b] X.env = [(false, eval a X.env), (false, eval b X.env)] := by rfl) (hs2 : starEach [b] X.env = [(false, eval b X.env)] := by rfl) :
    PI X tg (.Call (.Name (Str.ofString "range") p) [a, b] [] pos) (rdI X.K P E (iR2 ca)) := pi_weak (pi_range2 hg hm ha hs hs2) fun σ H R ⟨ρ, F, st, env, o, I, R', h, p⟩ => by
  unfold iR2 at h
  cases hc : ca env st with
  | none => rw [hc] at h; cases h
  | some o1 =>
    rw [hc] at h
    refine ⟨ρ, F, st, env, o1, I, R', hc, ?_⟩
    cases o1 with
    | ex c fs st1 =>
      cases h
      exact p
    | ok xs st1 =>
      intro vs ρ1 F1 H1 t1 I1 r1
      obtain ⟨i, j, rfl, h1, rfl⟩ := rg2_some (show rg2 xs st1 = some o from h)
      obtain ⟨v, w, rfl, rv, rw'⟩ := vrs2 r1
      exact ⟨i, j, by rw [vr_int rv, vr_int rw'], h1, p _ ρ1 F1 H1 t1 I1 (itr_ok i _)⟩
end
/-! ### loops -/
def forL (g : Tg) (body : SS) : List VL → Env → Sto → Option Fl
  | [], env, st => some (.nx env st)
  | x :: xs, env, st => match g x env with
    | none => none
    | some env1 => match body env1 st with
      | none => none
      | some (.nx env2 st2) => forL g body xs env2 st2
      | some (.ct env2 st2) => forL g body xs env2 st2
      | some (.bk env2 st2) => some (.nx env2 st2)
      | some (.rt r st2) => some (.rt r st2)
      | some (.ex c fs st2) => some (.ex c fs st2)
def sFor (it : SI) (g : Tg) (body : SS) : SS := fun env st => match it env st with
  | none => none
  | some (.ex c fs st1) => some (.ex c fs st1)
  | some (.ok xs st1) => forL g body xs env st1
def whileL (t : SE) (body : SS) : Nat → Env → Sto → Option Fl
  | 0, _, _ => none
  | n + 1, env, st => fbind (t env st) fun x st1 => (tst x).bind fun b => if b then match body env st1 with
      | none => none
      | some (.nx env2 st2) => whileL t body n env2 st2
      | some (.ct env2 st2) => whileL t body n env2 st2
      | some (.bk env2 st2) => some (.nx env2 st2)
      | some (.rt r st2) => some (.rt r st2)
      | some (.ex c fs st2) => some (.ex c fs st2)
    else some (.nx env st1)
def sWhile (n : Nat) (t : SE) (body : SS) : SS := fun env st => whileL t body n env st
section
variable {X : Cx} {P : Par} {E : XK} {tg e c : Expr} {ci : SI} {T : List Nat} {g : Tg} {cb : SS} {ct : SE} {body : List Stmt} {pos : Pos}
theorem s_for (hp : PassesOwn (model X.prog X.w) X.A X.env X.xe) (hc : X.calm = true) (hi : PI X tg e (rdI X.K P E ci)) (hg : PG X tg (rdG X.K T g)) (hb : PSs X body (rdS X.K P E cb)) (hs : ∀ x, foldedSetIterable e X.env x = pure x := by intro _; rfl) : PS X (.For tg e body [] pos) (rdS X.K P E (sFor ci g cb)) :=
  ps_weak (ps_for hp hc hi hg hb hs) fun D σ H ⟨ρ, F, st, env, o, I, R, h, p⟩ => by
    unfold sFor at h
    cases hcv : ci env st with
    | none => rw [hcv] at h; cases h
    | some o1 =>
      rw [hcv] at h
      refine ⟨ρ, F, st, env, o1, I, R, hcv, ?_⟩
      cases o1 with
      | ex c fs st1 =>
        cases h
        exact p
      | ok xs st1 =>
        intro J ρ1 F1 H1 t1 I1 hJ
        have R1 := R.mono t1
        refine ⟨fun i m σ' H' => i ≤ xs.length ∧ m = xs.length - i ∧ ∃ ρ' F' st' env', Evl.Ex F1 F' ∧ (∃ new, ρ' = ρ1 ++ new) ∧ Im X.K P ρ' F' H' st' ∧ EnvR X.K ρ' F' σ' env' ∧ forL g cb (xs.drop i) env' st' = some o ∧ PostS X.K P ρ' F' H' D E o,
          ⟨xs.length, Nat.zero_le _, rfl, ρ1, F1, st1, env, Evl.Ex.refl _, ⟨[], (List.append_nil _).symm⟩, I1, R1, h, p.mono t1⟩, ?_⟩
        rintro i m σ' H' ⟨hi, rfl, ρ', F', st', env', hex, hpre, I', R', hf, p'⟩
        by_cases hlt : i < xs.length
        · obtain ⟨g1, g2⟩ := hJ.1 i xs[i] (List.getElem?_eq_getElem hlt) H' (hex.trans I'.ex)
          rw [List.drop_eq_getElem_cons hlt] at hf
          refine .inr ⟨g1, fun σ2 H2 => ∃ ρ2 F2 st2 env2, Evl.Ex F1 F2 ∧ (∃ new, ρ2 = ρ1 ++ new) ∧ Im X.K P ρ2 F2 H2 st2 ∧ EnvR X.K ρ2 F2 σ2 env2 ∧ forL g cb (xs.drop (i + 1)) env2 st2 = some o ∧ PostS X.K P ρ2 F2 H2 D E o,
            fun σ2 H2 q => ⟨xs.length - (i + 1), by omega, hlt, rfl, q⟩, fun v H2 hy => ?_⟩
          obtain ⟨rfl, rv⟩ := g2 v H2 hy
          have rv' : VR X.K ρ' F' v xs[i] := by
            obtain ⟨new, rfl⟩ := hpre
            have := rv.up hex
            revert this
            cases xs[i] with
            | d y => exact fun h => h
            | o n => exact fun ⟨a, e, h⟩ => ⟨a, e, by rw [List.getElem?_append_left (List.getElem?_eq_some_iff.mp h).1]; exact h⟩
          unfold forL at hf
          split at hf
          · cases hf
          · rename_i env1 hg1
            refine ⟨ρ', F', env', xs[i], env1, I'.ex, R', rv', hg1, fun σ3 R3 _ => ?_⟩
            have next : ∀ env2 st2, forL g cb (xs.drop (i + 1)) env2 st2 = some o → ∀ σ4 ρ4 F4 H4, Tr ρ' F' H2 ρ4 F4 H4 → Im X.K P ρ4 F4 H4 st2 → EnvR X.K ρ4 F4 σ4 env2 →
                ∃ ρ2 F2 st2 env2, Evl.Ex F1 F2 ∧ (∃ new, ρ2 = ρ1 ++ new) ∧ Im X.K P ρ2 F2 H4 st2 ∧ EnvR X.K ρ2 F2 σ4 env2 ∧ forL g cb (xs.drop (i + 1)) env2 st2 = some o ∧ PostS X.K P ρ2 F2 H4 D E o := by
              intro env2 st2 hf2 σ4 ρ4 F4 H4 t4 I4 R4
              refine ⟨ρ4, F4, st2, env2, hex.trans t4.exF, ?_, I4, R4, hf2, p'.mono t4⟩
              obtain ⟨n1, e1⟩ := hpre
              obtain ⟨n2, e2⟩ := t4.pre
              exact ⟨n1 ++ n2, by rw [e2, e1, List.append_assoc]⟩
            split at hf
            · cases hf
            · rename_i env2 st2 hb2
              exact ⟨ρ', F', st', env1, _, I', R3, hb2, fun σ4 ρ4 F4 H4 t4 I4 R4 => next _ _ hf _ _ _ _ t4 I4 R4⟩
            · rename_i env2 st2 hb2
              exact ⟨ρ', F', st', env1, _, I', R3, hb2, fun σ4 ρ4 F4 H4 t4 I4 R4 => next _ _ hf _ _ _ _ t4 I4 R4⟩
            · rename_i env2 st2 hb2
              cases hf
              exact ⟨ρ', F', st', env1, _, I', R3, hb2, p'⟩
            · rename_i r st2 hb2
              cases hf
              exact ⟨ρ', F', st', env1, _, I', R3, hb2, p'⟩
            · rename_i c fs st2 hb2
              cases hf
              exact ⟨ρ', F', st', env1, _, I', R3, hb2, p'⟩
        · have e : i = xs.length := by omega
          subst e
          refine .inl ⟨hJ.2 H' (hex.trans I'.ex), ?_⟩
          rw [List.drop_of_length_le (Nat.le_refl _)] at hf
          cases hf
          exact p' _ ρ' F' H' (Tr.refl ..) I' R'
theorem s_while (n : Nat) (hp : PassesOwn (model X.prog X.w) X.A X.env X.xe) (ht : PT X c (rdT X.K P E ct)) (hb : PSs X body (rdS X.K P E cb)) : PS X (.While c body [] pos) (rdS X.K P E (sWhile n ct cb)) :=
  ps_weak (ps_while hp ht hb) fun D σ H ⟨ρ, F, st, env, o, I, R, h, p⟩ => by
    refine ⟨fun m σ' H' => ∃ ρ' F' st' env', Im X.K P ρ' F' H' st' ∧ EnvR X.K ρ' F' σ' env' ∧ whileL ct cb m env' st' = some o ∧ PostS X.K P ρ' F' H' D E o, ⟨n, ρ, F, st, env, I, R, h, p⟩, ?_⟩
    rintro m σ' H' ⟨ρ', F', st', env', I', R', hw, p'⟩
    cases m with
    | zero => cases hw
    | succ m =>
      refine rdT_bindS (k := fun b st1 => if b then match cb env' st1 with
        | none => none
        | some (.nx env2 st2) => whileL ct cb m env2 st2
        | some (.ct env2 st2) => whileL ct cb m env2 st2
        | some (.bk env2 st2) => some (.nx env2 st2)
        | some (.rt r st2) => some (.rt r st2)
        | some (.ex c fs st2) => some (.ex c fs st2)
        else some (.nx env' st1)) I' R' hw p' fun ρ1 F1 H1 b st1 t1 I1 R1 h1 p1 => ?_
      cases b with
      | false =>
        cases h1
        exact p1 _ ρ1 F1 H1 (Tr.refl ..) I1 R1
      | true =>
        refine ⟨fun σ2 H2 => ∃ ρ2 F2 st2 env2, Im X.K P ρ2 F2 H2 st2 ∧ EnvR X.K ρ2 F2 σ2 env2 ∧ whileL ct cb m env2 st2 = some o ∧ PostS X.K P ρ2 F2 H2 D E o, fun σ2 H2 q => ⟨m, Nat.lt_succ_self m, q⟩, ?_⟩
        simp only [if_true] at h1
        split at h1
        · cases h1
        · rename_i env2 st2 hb2
          exact ⟨ρ1, F1, st1, env', _, I1, R1, hb2, fun σ4 ρ4 F4 H4 t4 I4 R4 => ⟨ρ4, F4, st2, env2, I4, R4, h1, p1.mono t4⟩⟩
        · rename_i env2 st2 hb2
          exact ⟨ρ1, F1, st1, env', _, I1, R1, hb2, fun σ4 ρ4 F4 H4 t4 I4 R4 => ⟨ρ4, F4, st2, env2, I4, R4, h1, p1.mono t4⟩⟩
        · rename_i env2 st2 hb2
          cases h1
          exact ⟨ρ1, F1, st1, env', _, I1, R1, hb2, p1⟩
        · rename_i r st2 hb2
          cases h1
          exact ⟨ρ1, F1, st1, env', _, I1, R1, hb2, p1⟩
        · rename_i c fs st2 hb2
          cases h1
          exact ⟨ρ1, F1, st1, env', _, I1, R1, hb2, p1⟩
end
end Sl
set_option Elab.async false
set_option linter.all false
set_option autoImplicit false
set_option maxRecDepth 100000
set_option maxHeartbeats 4000000
namespace Sl
open PySem PySem.Spec PyProof.Rows L2

/-! ### comprehensions -/
def wipeE (env : Env) : List Nat → Env
  | [] => env
  | v :: vs => (wipeE env vs).set v none
def compL (g : Tg) (t e : SE) (env : Env) : List VL → List VL → Sto → Option (List VL × Sto)
  | [], acc, st => some (acc, st)
  | x :: xs, acc, st => match g x env with
    | none => none
    | some env1 => match t env1 st with
      | some (.ok (.d (.bool true)) st1) => match e env1 st1 with
        | some (.ok y st2) => if acc.length < sizeLine then compL g t e env xs (acc ++ [y]) st2 else none
        | _ => none
      | some (.ok (.d (.bool false)) st1) => compL g t e env xs acc st1
      | _ => none
def eComp (mk : Mk) (it : SI) (g : Tg) (t e : SE) (vs : List Nat) : SE := fun env st => match it env st with
  | none => none
  | some (.ex c fs st1) => some (.ex c fs st1)
  | some (.ok xs st1) => (compL g t e (wipeE env vs) xs [] st1).bind fun z => (mk z.1 z.2).map fun z => .ok z.1 z.2
section
variable {K : Kf} {P : Par}
theorem wipe_env {ρ : List Addr} {F : Hp} {σ : L2.St} {env : Env} (R : EnvR K ρ F σ env) : ∀ vs : List Nat, EnvR K ρ F (wipe σ vs) (wipeE env vs)
  | [] => R
  | v :: vs => by
    have ih := wipe_env R vs
    refine ⟨by show ((wipeE env vs).set v none).length = ((wipe σ vs).set v none).length; rw [List.length_set, List.length_set]; exact ih.len, fun i x h => ?_⟩
    have h' : ((wipeE env vs).set v none)[i]? = some (some x) := h
    show ∃ w, ((wipe σ vs).set v none)[i]? = some (some w) ∧ _
    by_cases e : v = i
    · subst e
      by_cases hl : v < (wipeE env vs).length
      · rw [List.getElem?_set_self hl] at h'
        cases h'
      · rw [List.getElem?_eq_none (by rw [List.length_set]; omega)] at h'
        cases h'
    · rw [List.getElem?_set_ne e] at h' ⊢
      exact ih.at_ i x h'
theorem wipe_get {σ : L2.St} {i : Nat} : ∀ {vs : List Nat}, i ∈ vs → i < σ.length → (wipe σ vs)[i]? = some none
  | v :: vs, h, hl => by
    show ((wipe σ vs).set v none)[i]? = some none
    by_cases e : v = i
    · subst e
      exact List.getElem?_set_self (by rw [wipe_length]; exact hl)
    · rw [List.getElem?_set_ne e]
      rcases List.mem_cons.mp h with h | h
      · exact absurd h.symm e
      · exact wipe_get h hl
theorem wipe_far {σ : L2.St} {i : Nat} : ∀ {vs : List Nat}, i ∉ vs → (wipe σ vs)[i]? = σ[i]?
  | [], _ => rfl
  | v :: vs, h => by
    show ((wipe σ vs).set v none)[i]? = _
    rw [List.getElem?_set_ne fun e => h (by rw [e]; exact List.mem_cons_self)]
    exact wipe_far fun h' => h (List.mem_cons_of_mem _ h')
theorem wipe_off {σ σ2 : L2.St} {T vs : List Nat} (hT : ∀ i, i ∈ T → i ∈ vs) (O : Off T (wipe σ vs) σ2) : wipe σ2 vs = wipe σ vs := by
  refine List.ext_getElem? fun i => ?_
  by_cases hi : i ∈ vs
  · by_cases hl : i < σ.length
    · rw [wipe_get hi hl, wipe_get hi (by rw [O.1, wipe_length]; exact hl)]
    · rw [List.getElem?_eq_none (by rw [wipe_length, O.1, wipe_length]; omega), List.getElem?_eq_none (by rw [wipe_length]; omega)]
  · rw [wipe_far hi, O.2 i fun h => hi (hT i h)]
theorem Im.poke {ρ0 ρ : List Addr} {F0 H0 F H : Hp} {st : Sto} (T : Tr ρ0 F0 H0 ρ F H) (I : Im K P ρ F H st) {D : Addr} (h0 : H0 D = none) (hr : D ∉ ρ) (hF : F D = none) (o : HO) : Tr ρ0 F0 H0 ρ F (upd H D o) ∧ Im K P ρ F (upd H D o) st := by
  refine ⟨⟨T.pre, T.fresh, T.exF, fun b u h hn => ?_, fun b h => ?_, T.newF⟩, ⟨I.len, I.nd, fun b u h => ?_, fun a h => ?_, fun i a b h1 h2 => ?_⟩⟩
  · rw [upd_ne fun e => by rw [e, h0] at h; cases h]
    exact T.keep b u h hn
  · by_cases e : b = D
    · rw [e, upd_same]
      exact fun z => nomatch z
    · rw [upd_ne e]
      exact T.stay b h
  · rw [upd_ne fun e => by rw [e, hF] at h; cases h]
    exact I.ex b u h
  · rw [upd_ne fun e => hr (by rw [← e]; exact h)]
    exact I.dom a h
  · exact ObR.up (Evl.Ex.refl F) (fun h => h) (upd_ne fun e => hr (by rw [← e]; exact List.mem_of_getElem? h1)) (I.ob i a b h1 h2)
end
section
variable {X : Cx} {P : Par} {E E' : XK}
theorem ts_nil : PTs X [] (rdT X.K P E (eC (.bool true))) := ⟨fun pins s σ H Q I ⟨ρ, F, st, env, o, I', R, h, p⟩ => by
  cases h
  obtain ⟨b, e, q⟩ := p
  cases e
  exact pts_nil.run pins s σ H Q I (q ρ F H (Tr.refl ..) I')⟩
theorem ts_one {c : Expr} {cc : SE} (h : PT X c (rdT X.K P E cc)) : PTs X [c] (rdT X.K P E cc) := pts_one h
theorem comp_rd {K : Kf} {mk : Mk} (hm : MkOk K mk) {it : SI} {T : List Nat} {g : Tg} {t e : SE} {vs : List Nat} (hT : ∀ i, i ∈ T → i ∈ vs) {σ : L2.St} {H : Hp} {Q : VK} (h : rdE K P E (eComp mk it g t e vs) σ H Q) :
    tLc (rdI K P E it) (rdG K T g) (rdT K P E' t) (rdE K P E' e) vs σ H Q := by
  obtain ⟨ρ, F, st, env, o, I, R, h, p⟩ := h
  unfold eComp at h
  cases hc : it env st with
  | none => rw [hc] at h; cases h
  | some o1 =>
    rw [hc] at h
    refine ⟨ρ, F, st, env, o1, I, R, hc, ?_⟩
    cases o1 with
    | ex c fs st1 =>
      cases h
      exact p
    | ok xs st1 =>
      intro J ρ1 F1 H1 t1 I1 hJ D hD
      obtain ⟨z, hz, h2⟩ := Option.bind_eq_some_iff.mp (show (compL g t e (wipeE env vs) xs [] st1).bind _ = some o from h)
      obtain ⟨w, hw, hk⟩ := Option.map_eq_some_iff.mp h2
      subst hk
      have R1 := R.mono t1
      have p1 := p.mono t1
      have hF1 : F1 D = none := by
        cases q : F1 D with
        | none => rfl
        | some u =>
          rw [I1.ex D u q] at hD
          cases hD
      have hr1 : D ∉ ρ1 := fun hm => I1.dom D hm hD
      obtain ⟨T0, I0⟩ := junk I1 hD (.lst [])
      have step : ∀ {ρ' F' H' ρ'' F'' H''} {o : HO}, Tr ρ' F' H' ρ'' F'' H'' → H' D = some o → D ∉ ρ' → F' D = none → H'' D = some o ∧ D ∉ ρ'' ∧ F'' D = none := by
        intro ρ' F' H' ρ'' F'' H'' o T' hD' hr' hF'
        refine ⟨T'.keep D o hD' hr', fun h => ?_, ?_⟩
        · rcases T'.fresh D h with h | h
          · exact hr' h
          · rw [hD'] at h
            cases h
        · cases q : F'' D with
          | none => rfl
          | some u =>
            rcases T'.newF D (by rw [q]; exact fun z => nomatch z) with h | h | h
            · exact absurd hF' h
            · rw [hD'] at h
              cases h
            · exact absurd h hr'
      refine ⟨fun i m H' => i ≤ xs.length ∧ m = xs.length - i ∧ ∃ ρ' F' st' accV acc, Tr ρ1 F1 H1 ρ' F' H' ∧ Im K P ρ' F' H' st' ∧ H' D = some (.lst accV) ∧ D ∉ ρ' ∧ F' D = none ∧ VRs K ρ' F' accV acc ∧ compL g t e (wipeE env vs) (xs.drop i) acc st' = some z,
        ⟨xs.length, Nat.zero_le _, rfl, ρ1, F1, st1, [], [], T0, I0, upd_same, hr1, hF1, .nil, hz⟩, ?_⟩
      rintro i m H' ⟨hi, rfl, ρ', F', st', accV, acc, T', I', k1, k2, k3, k4, k5⟩
      by_cases hlt : i < xs.length
      · obtain ⟨g1, g2⟩ := hJ.1 i xs[i] (List.getElem?_eq_getElem hlt) H' (T'.exF.trans I'.ex)
        rw [List.drop_eq_getElem_cons hlt] at k5
        refine .inr ⟨g1, fun H2 => ∃ ρ' F' st' accV acc, Tr ρ1 F1 H1 ρ' F' H2 ∧ Im K P ρ' F' H2 st' ∧ H2 D = some (.lst accV) ∧ D ∉ ρ' ∧ F' D = none ∧ VRs K ρ' F' accV acc ∧ compL g t e (wipeE env vs) (xs.drop (i + 1)) acc st' = some z,
          fun H2 q => ⟨xs.length - (i + 1), by omega, hlt, rfl, q⟩, fun v H2 hy => ?_⟩
        obtain ⟨rfl, rv⟩ := g2 v H2 hy
        have rv' : VR K ρ' F' v xs[i] := rv.mono T'
        unfold compL at k5
        split at k5
        · cases k5
        · rename_i env1 hg1
          refine ⟨ρ', F', wipeE env vs, xs[i], env1, I'.ex, wipe_env (R1.mono T') vs, rv', hg1, fun σ2 R2 O2 => ⟨wipe_off hT O2, ?_⟩⟩
          split at k5
          · rename_i st2 ht
            refine ⟨ρ', F', st', env1, _, I', R2, ht, true, rfl, fun ρ3 F3 H3 t3 I3 => ?_⟩
            split at k5
            · rename_i y st3 he
              refine ⟨ρ3, F3, st2, env1, _, I3, R2.mono t3, he, fun u ρ4 F4 H4 t4 I4 ru => ?_⟩
              split at k5
              · rename_i hz2
                obtain ⟨a1, a2, a3⟩ := step (t3.trans t4) k1 k2 k3
                have rA : VRs K ρ4 F4 accV acc := k4.mono (t3.trans t4)
                refine ⟨accV, a1, by rw [paired_len rA]; exact hz2, ?_⟩
                obtain ⟨T5, I5⟩ := Im.poke ((T'.trans t3).trans t4) I4 hD a2 a3 (.lst (accV ++ [u]))
                exact ⟨ρ4, F4, st3, accV ++ [u], acc ++ [y], T5, I5, upd_same, a2, a3, paired_append rA (.cons ru .nil), k5⟩
              · cases k5
            · cases k5
          · rename_i st2 ht
            refine ⟨ρ', F', st', env1, _, I', R2, ht, false, rfl, fun ρ3 F3 H3 t3 I3 => ?_⟩
            obtain ⟨a1, a2, a3⟩ := step t3 k1 k2 k3
            exact ⟨ρ3, F3, st2, accV, acc, T'.trans t3, I3, a1, a2, a3, k4.mono t3, k5⟩
          · cases k5
      · have e : i = xs.length := by omega
        subst e
        refine .inl ⟨hJ.2 H' (T'.exF.trans I'.ex), ?_⟩
        rw [List.drop_of_length_le (Nat.le_refl _)] at k5
        cases k5
        obtain ⟨ρ9, F9, T9, I9, r9⟩ := hm.fin T' I' hD k1 k2 k3 k4 hw
        exact p1 _ ρ9 F9 H' T9 I9 r9
variable {elt tg iter : Expr} {ifs : List Expr} {scope : Scope} {own : List (Str × Nat)} {pos : Pos} {T : List Nat} {it : SI} {g : Tg} {ct ce : SE} {mk : Mk}
theorem e_comp (hm : MkOk X.K mk) (hc : X.calm = true) (hN : X.N.Nodup) (hi : PI X tg iter (rdI X.K P E it)) (ok : BlkOk X.N X.env.scope scope own)
    (hg : ∀ (s : Shared) (H : Hp) (C : Addr) (cl : List (Str × Addr)) (fp : List Addr), PG (X.blk s H scope (compEnvC scope cl C X.env) fp) tg (rdG X.K T g)) (ht : ∀ (s : Shared) (H : Hp) (C : Addr) (cl : List (Str × Addr)) (fp : List Addr), PTs (X.blk s H scope (compEnvC scope cl C X.env) fp) ifs (rdT X.K P E' ct))
    (he : ∀ (s : Shared) (H : Hp) (C : Addr) (cl : List (Str × Addr)) (fp : List Addr), PE (X.blk s H scope (compEnvC scope cl C X.env) fp) elt (rdE X.K P E' ce)) (hT : ∀ i, i ∈ T → i ∈ own.map (·.2) := by decide) (hs : ∀ x, foldedSetIterable iter X.env x = pure x := by intro _; rfl) :
    PE X (.ListComp elt [⟨tg, iter, ifs, 0⟩] scope pos) (rdE X.K P E (eComp mk it g ct ce (own.map (·.2)))) := pe_weak (pe_lc hc hN hi ok hg ht he hs) fun σ H Q h => comp_rd hm hT h
theorem s_comp {i : Nat} {y : Str} {py spos : Pos} (hm : MkOk X.K mk) (hc : X.calm = true) (hN : X.N.Nodup) (hy : X.N[i]? = some y) (hyl : X.env.scope.names.lookup y = some .local)
    (hsw : swapsWith (.ListComp elt [⟨tg, iter, ifs, 0⟩] scope pos) (some (.Name y py)) spos.line X.env = pure true) (hi : PI X tg iter (rdI X.K P E it)) (ok : BlkOk X.N X.env.scope scope own)
    (hg : ∀ (s : Shared) (H : Hp) (C : Addr) (cl : List (Str × Addr)) (fp : List Addr), PG (X.blk s H scope (compEnvC scope cl C X.env) fp) tg (rdG X.K T g)) (ht : ∀ (s : Shared) (H : Hp) (C : Addr) (cl : List (Str × Addr)) (fp : List Addr), PTs (X.blk s H scope (compEnvC scope cl C X.env) fp) ifs (rdT X.K P E' ct))
    (he : ∀ (s : Shared) (H : Hp) (C : Addr) (cl : List (Str × Addr)) (fp : List Addr), PE (X.blk s H scope (compEnvC scope cl C X.env) fp) elt (rdE X.K P E' ce)) (hT : ∀ i, i ∈ T → i ∈ own.map (·.2) := by decide) (hs : ∀ x, foldedSetIterable iter X.env x = pure x := by intro _; rfl) :
    PS X (.Assign [.Name y py] (.ListComp elt [⟨tg, iter, ifs, 0⟩] scope pos) spos) (rdS X.K P E (sAsg (eComp mk it g ct ce (own.map (·.2))) (gN i))) :=
  ps_weak (ps_setLc hc hN hy hyl hsw hi ok hg ht he hs) fun D σ H ⟨ρ, F, st, env, o, I, R, h, p⟩ => by
    refine comp_rd hm hT ?_
    refine rdE_bindS I R h p fun v ρ1 F1 H1 x st1 t1 I1 R1 r1 h1 p1 => ?_
    obtain ⟨env1, k1, k2⟩ := Option.map_eq_some_iff.mp h1
    cases k2
    cases k1
    exact p1 _ ρ1 F1 H1 (Tr.refl ..) I1 (R1.set r1)
end
/-! ### data from an object, objects forgotten -/
def frz (st : Sto) (x : VL) : Option (PyData × Sto) := match x with
  | .d y => some (y, st)
  | .o n => match st[n]? with
    | some (.fr y) => some (y, st)
    | some (.lst xs) => (allD xs).map fun ds => (.list ds, st.set n (.fr (.list ds)))
    | _ => none
def eFrz (c : SE) : SE := fun env st => obind (c env st) fun x st1 => (frz st1 x).map fun z => .ok (.d z.1) z.2
section
variable {K : Kf} {P : Par} {ρ : List Addr} {F H : Hp} {st : Sto}
theorem frz_ok (I : Im K P ρ F H st) {v : V} {x : VL} {y : PyData} {st' : Sto} (r : VR K ρ F v x) (h : frz st x = some (y, st')) : ∃ F', Tr ρ F H ρ F' H ∧ Im K P ρ F' H st' ∧ Dq K F' v y := by
  cases x with
  | d z =>
    cases h
    exact ⟨F, Tr.refl .., I, r⟩
  | o n =>
    unfold frz at h
    cases hs : st[n]? with
    | none => simp [hs] at h
    | some ob =>
      obtain ⟨a, rfl, ha, hb⟩ := I.at_ r hs
      cases ob with
      | fr z =>
        simp only [hs, Option.some.injEq, Prod.mk.injEq] at h
        obtain ⟨rfl, rfl⟩ := h
        exact ⟨F, Tr.refl .., I, hb⟩
      | lst xs =>
        simp only [hs] at h
        obtain ⟨ds, h1, h2⟩ := Option.map_eq_some_iff.mp h
        cases h2
        obtain ⟨hF, vs, hH, hv⟩ := hb
        have hm : a ∈ ρ := List.mem_of_getElem? ha
        have e1 : Evl.Ex F (upd F a (.lst vs)) := Evl.Ex.new hF
        have hq : Dq K (upd F a (.lst vs)) (.ref a) (.list ds) := .lst (SqL.of upd_same) (dqa_mono e1 (dqa_of hv h1))
        refine ⟨upd F a (.lst vs), ⟨⟨[], (List.append_nil _).symm⟩, fun _ h => .inl h, e1, fun _ _ h _ => h, fun _ h => h, fun b h => ?_⟩, ⟨by simp [I.len], I.nd, ex_new I.ex hH, I.dom, fun i c d h3 h4 => ?_⟩, hq⟩
        · by_cases e : b = a
          · rw [e]
            exact .inr (.inr hm)
          · rw [upd_ne e] at h
            exact .inl h
        · by_cases hi : n = i
          · subst hi
            rw [ha] at h3
            cases h3
            rw [List.getElem?_set_self (by rw [← I.len]; exact (List.getElem?_eq_some_iff.mp ha).1)] at h4
            cases h4
            exact hq
          · rw [List.getElem?_set_ne hi] at h4
            refine ObR.up e1 (fun h => ?_) rfl (I.ob i c d h3 h4)
            rw [upd_ne fun e => ?_]
            · exact h
            · subst e
              obtain ⟨l1, q1⟩ := List.getElem?_eq_some_iff.mp ha
              obtain ⟨l2, q2⟩ := List.getElem?_eq_some_iff.mp h3
              exact hi ((List.getElem_inj I.nd).mp (q1.trans q2.symm))
      | _ => simp [hs] at h
end
def noO : VL → Bool
  | .d _ => true
  | .o _ => false
def Ob.flat : Ob → Bool
  | .lst xs => xs.all noO
  | .dk kvs => kvs.all fun p => noO p.2
  | .dt kvs => kvs.all fun p => noO p.2
  | .ins _ fs => fs.all fun p => noO p.2
  | .fr _ => true
/-- the older objects are as they were, or hold data alone -/
def cutOk (st st' : Sto) : Prop := st.length ≤ st'.length ∧ ∀ i, i < st.length → st'[i]? = st[i]? ∨ ∃ b, st'[i]? = some b ∧ b.flat = true
def cutV (n : Nat) : Option VL → Option VL
  | some (.o m) => if m < n then some (.o m) else none
  | x => x
def cutE (n : Nat) (env : Env) : Env := env.map (cutV n)
open Classical in
noncomputable def cutO (st : Sto) (o : Option Out) : Option Out := match o with
  | some (.ok (.d x) st') => if cutOk st st' then some (.ok (.d x) (st'.take st.length)) else none
  | o => o
open Classical in
noncomputable def cutF (st : Sto) (o : Option Fl) : Option Fl := match o with
  | some (.nx env st') => if cutOk st st' then some (.nx (cutE st.length env) (st'.take st.length)) else none
  | some (.ct env st') => if cutOk st st' then some (.ct (cutE st.length env) (st'.take st.length)) else none
  | some (.bk env st') => if cutOk st st' then some (.bk (cutE st.length env) (st'.take st.length)) else none
  | some (.rt (.d x) st') => if cutOk st st' then some (.rt (.d x) (st'.take st.length)) else none
  | o => o
noncomputable def eCut (c : SE) : SE := fun env st => cutO st (c env st)
noncomputable def sCut (c : SS) : SS := fun env st => cutF st (c env st)
noncomputable def fCut (m : Fn) : Fn := fun xs st => cutO st (m xs st)
section
variable {K : Kf} {P : Par} {ρ ρ' : List Addr} {F F' H H' : Hp} {st st' : Sto}
theorem vr_less {v w : V} {x : VL} (a : VR K ρ F v x) (b : VR K ρ' F' w x) (pre : ∃ new, ρ' = ρ ++ new) : VR K ρ F' w x := by
  cases x with
  | d y => exact b
  | o n =>
    obtain ⟨c, rfl, h1⟩ := a
    obtain ⟨d, rfl, h2⟩ := b
    obtain ⟨new, rfl⟩ := pre
    refine ⟨d, rfl, ?_⟩
    rw [List.getElem?_append_left (List.getElem?_eq_some_iff.mp h1).1] at h2
    exact h2
theorem vrs_less (pre : ∃ new, ρ' = ρ ++ new) : ∀ {vs ws : List V} {xs : List VL}, VRs K ρ F vs xs → VRs K ρ' F' ws xs → VRs K ρ F' ws xs
  | _, _, _, .nil, .nil => .nil
  | _, _, _, .cons a s, .cons b t => .cons (vr_less a b pre) (vrs_less pre s t)
theorem kvr_less {κ : Type} (pre : ∃ new, ρ' = ρ ++ new) : ∀ {vs ws : List (κ × V)} {xs : List (κ × VL)}, KVR K ρ F vs xs → KVR K ρ' F' ws xs → KVR K ρ F' ws xs
  | _, _, _, .nil, .nil => .nil
  | _, _, _, .cons a s, .cons b t => .cons ⟨b.1, vr_less a.2 b.2 pre⟩ (kvr_less pre s t)
theorem vr_flat {v : V} {x : VL} (h : noO x = true) (b : VR K ρ' F' v x) : VR K ρ F' v x := by
  cases x with
  | d y => exact b
  | o n => cases h
theorem vrs_flat : ∀ {ws : List V} {xs : List VL}, xs.all noO = true → VRs K ρ' F' ws xs → VRs K ρ F' ws xs
  | _, _, _, .nil => .nil
  | _, _, h, .cons b t => by
    rw [List.all_cons, Bool.and_eq_true] at h
    exact .cons (vr_flat h.1 b) (vrs_flat h.2 t)
theorem kvr_flat {κ : Type} : ∀ {ws : List (κ × V)} {xs : List (κ × VL)}, (xs.all fun p => noO p.2) = true → KVR K ρ' F' ws xs → KVR K ρ F' ws xs
  | _, _, _, .nil => .nil
  | _, _, h, .cons b t => by
    rw [List.all_cons, Bool.and_eq_true] at h
    exact .cons ⟨b.1, vr_flat h.1 b.2⟩ (kvr_flat h.2 t)
theorem Im.cut (I : Im K P ρ F H st) (T : Tr ρ F H ρ' F' H') (I' : Im K P ρ' F' H' st') (c : cutOk st st') : Tr ρ F H ρ F' H' ∧ Im K P ρ F' H' (st'.take st.length) := by
  obtain ⟨new, hn⟩ := T.pre
  have hl : (st'.take st.length).length = st.length := by rw [List.length_take]; exact Nat.min_eq_left c.1
  refine ⟨⟨⟨[], (List.append_nil _).symm⟩, fun _ h => .inl h, T.exF, T.keep, T.stay, T.newF⟩, ⟨by rw [hl]; exact I.len, I.nd, I'.ex, fun a h => T.stay a (I.dom a h), fun i a b h1 h2 => ?_⟩⟩
  have hi : i < st.length := by rw [← I.len]; exact (List.getElem?_eq_some_iff.mp h1).1
  rw [List.getElem?_take_of_lt hi] at h2
  have h1' : ρ'[i]? = some a := T.get h1
  have o' := I'.ob i a b h1' h2
  rcases c.2 i hi with e | ⟨b', e, fl⟩
  · rw [h2] at e
    have o := I.ob i a b h1 e.symm
    cases b with
    | fr x => exact o'
    | lst xs =>
      obtain ⟨_, vs, _, h5⟩ := o
      obtain ⟨h6, ws, h7, h8⟩ := o'
      exact ⟨h6, ws, h7, vrs_less T.pre h5 h8⟩
    | dk xs =>
      obtain ⟨_, vs, _, h5⟩ := o
      obtain ⟨h6, ws, h7, h8⟩ := o'
      exact ⟨h6, ws, h7, kvr_less T.pre h5 h8⟩
    | dt xs =>
      obtain ⟨_, vs, _, h5⟩ := o
      obtain ⟨h6, ws, h7, h8⟩ := o'
      exact ⟨h6, ws, h7, kvr_less T.pre h5 h8⟩
    | ins c xs =>
      obtain ⟨_, _, vs, _, h5⟩ := o
      obtain ⟨h6, dx, ws, h7, h8⟩ := o'
      exact ⟨h6, dx, ws, h7, kvr_less T.pre h5 h8⟩
  · rw [h2] at e
    cases e
    cases b with
    | fr x => exact o'
    | lst xs =>
      obtain ⟨h6, ws, h7, h8⟩ := o'
      exact ⟨h6, ws, h7, vrs_flat fl h8⟩
    | dk xs =>
      obtain ⟨h6, ws, h7, h8⟩ := o'
      exact ⟨h6, ws, h7, kvr_flat fl h8⟩
    | dt xs =>
      obtain ⟨h6, ws, h7, h8⟩ := o'
      exact ⟨h6, ws, h7, kvr_flat fl h8⟩
    | ins c xs =>
      obtain ⟨h6, dx, ws, h7, h8⟩ := o'
      exact ⟨h6, dx, ws, h7, kvr_flat fl h8⟩
theorem EnvR.cut {σ : L2.St} {env : Env} {n : Nat} (hn : ρ.length = n) (R : EnvR K ρ' F' σ env) (pre : ∃ new, ρ' = ρ ++ new) : EnvR K ρ F' σ (cutE n env) := by
  refine ⟨by unfold cutE; rw [List.length_map]; exact R.len, fun i x h => ?_⟩
  unfold cutE at h
  rw [List.getElem?_map] at h
  obtain ⟨y, h1, h2⟩ := Option.map_eq_some_iff.mp h
  cases y with
  | none => cases h2
  | some y =>
    cases y with
    | d z =>
      cases h2
      obtain ⟨v, h3, h4⟩ := R.at_ i _ h1
      exact ⟨v, h3, h4⟩
    | o m =>
      have h2' : (if m < n then some (VL.o m) else none) = some x := h2
      split at h2'
      · rename_i hm
        cases h2'
        obtain ⟨v, h3, a, rfl, h4⟩ := R.at_ i _ h1
        obtain ⟨new, rfl⟩ := pre
        rw [List.getElem?_append_left (by omega)] at h4
        exact ⟨_, h3, a, rfl, h4⟩
      · cases h2'
theorem cut_post {Q : VK} {E : XK} {c : Option Out} {o : Out} (I : Im K P ρ F H st) (h : cutO st c = some o) (p : Post K P ρ F H Q E o) : ∃ o', c = some o' ∧ Post K P ρ F H Q E o' := by
  unfold cutO at h
  split at h
  · rename_i x st'
    split at h
    · rename_i hc
      cases h
      refine ⟨_, rfl, fun v ρ1 F1 H1 t1 I1 r1 => ?_⟩
      obtain ⟨T, I2⟩ := I.cut t1 I1 hc
      exact p v ρ F1 H1 T I2 r1
    · cases h
  · exact ⟨o, h, p⟩
end
section
variable {X : Cx} {P : Par} {E : XK} {e : Expr} {ce : SE} {s : Stmt} {ss : List Stmt} {cs : SS}
theorem e_frz (he : PE X e (rdE X.K P E ce)) : PE X e (rdE X.K P E (eFrz ce)) := pe_weak he fun σ H Q ⟨ρ, F, st, env, o, I, R, h, p⟩ => by
  refine rdE_bind I R h p fun v ρ1 F1 H1 x st1 t1 I1 R1 r1 h1 p1 => ?_
  obtain ⟨⟨y, st2⟩, h2, h3⟩ := Option.map_eq_some_iff.mp h1
  subst h3
  obtain ⟨F2, T, I2, r2⟩ := frz_ok I1 r1 h2
  exact p1 _ ρ1 F2 H1 T I2 r2
theorem e_cut (he : PE X e (rdE X.K P E ce)) : PE X e (rdE X.K P E (eCut ce)) := pe_weak he fun σ H Q ⟨ρ, F, st, env, o, I, R, h, p⟩ => by
  obtain ⟨o', h1, p1⟩ := cut_post I h p
  exact ⟨ρ, F, st, env, o', I, R, h1, p1⟩
theorem cutS_rd {K : Kf} {D : Ends} {σ : L2.St} {H : Hp} (h : rdS K P E (sCut cs) D σ H) : rdS K P E cs D σ H := by
  obtain ⟨ρ, F, st, env, o, I, R, h, p⟩ := h
  have h' : cutF st (cs env st) = some o := h
  unfold cutF at h'
  split at h'
  · rename_i env1 st1 hc
    split at h'
    · rename_i ok
      cases h'
      refine ⟨ρ, F, st, env, _, I, R, hc, fun σ' ρ1 F1 H1 t1 I1 R1 => ?_⟩
      obtain ⟨T, I2⟩ := I.cut t1 I1 ok
      exact p σ' ρ F1 H1 T I2 (R1.cut I.len t1.pre)
    · cases h'
  · rename_i env1 st1 hc
    split at h'
    · rename_i ok
      cases h'
      refine ⟨ρ, F, st, env, _, I, R, hc, fun σ' ρ1 F1 H1 t1 I1 R1 => ?_⟩
      obtain ⟨T, I2⟩ := I.cut t1 I1 ok
      exact p σ' ρ F1 H1 T I2 (R1.cut I.len t1.pre)
    · cases h'
  · rename_i env1 st1 hc
    split at h'
    · rename_i ok
      cases h'
      refine ⟨ρ, F, st, env, _, I, R, hc, fun σ' ρ1 F1 H1 t1 I1 R1 => ?_⟩
      obtain ⟨T, I2⟩ := I.cut t1 I1 ok
      exact p σ' ρ F1 H1 T I2 (R1.cut I.len t1.pre)
    · cases h'
  · rename_i x st1 hc
    split at h'
    · rename_i ok
      cases h'
      refine ⟨ρ, F, st, env, _, I, R, hc, fun v ρ1 F1 H1 t1 I1 r1 => ?_⟩
      obtain ⟨T, I2⟩ := I.cut t1 I1 ok
      exact p v ρ F1 H1 T I2 r1
    · cases h'
  · exact ⟨ρ, F, st, env, o, I, R, h', p⟩
theorem s_cut (hs : PS X s (rdS X.K P E cs)) : PS X s (rdS X.K P E (sCut cs)) := ps_weak hs fun _ _ _ h => cutS_rd h
theorem ss_cut (hs : PSs X ss (rdS X.K P E cs)) : PSs X ss (rdS X.K P E (sCut cs)) := pss_weak hs fun _ _ _ h => cutS_rd h
end
/-! ### a def's body -/
def fEnv (k : Nat) (xs : List VL) : Env := xs.map some ++ List.replicate (k - xs.length) none
def runFn (k : Nat) (c : SS) : Fn := fun xs st => match c (fEnv k xs) st with
  | some (.nx _ st1) => some (.ok (.d .none) st1)
  | some (.rt r st1) => some (.ok r st1)
  | some (.ex c fs st1) => some (.ex c fs st1)
  | _ => none
section
variable {K : Kf} {P : Par}
theorem env_start {ρ : List Addr} {F : Hp} {N : List Str} : ∀ {vs : List V} {xs : List VL}, VRs K ρ F vs xs → EnvR K ρ F (L2.start N vs) (fEnv N.length xs) := by
  intro vs xs h
  have hl := paired_len h
  refine ⟨by unfold fEnv L2.start; simp [hl], fun i x e => ?_⟩
  unfold fEnv at e
  unfold L2.start
  by_cases hi : i < xs.length
  · rw [List.getElem?_append_left (by rw [List.length_map]; exact hi), List.getElem?_map] at e
    obtain ⟨y, h1, h2⟩ := Option.map_eq_some_iff.mp e
    cases h2
    obtain ⟨v, h3, h4⟩ := vrs_get h h1
    refine ⟨v, ?_, h4⟩
    rw [List.getElem?_append_left (by rw [List.length_map, hl]; exact hi), List.getElem?_map, h3]
    rfl
  · rw [List.getElem?_append_right (by rw [List.length_map]; omega)] at e
    have := List.getElem?_replicate (a := (none : Option VL)) (n := N.length - xs.length) (i := i - (xs.map some).length)
    rw [this] at e
    split at e <;> cases e
theorem body_rd {n : Nat} {N : List Str} {c : SS} {vs : List V} {H : Hp} {Q : VK} {E : XK} (h : spF K P n (runFn N.length c) vs H Q E) : rdS K P E c { nx := fun _ H' => Q .non H', rt := Q } (L2.start N vs) H := by
  obtain ⟨ρ, F, st, xs, o, I, r, hn, h, p⟩ := h
  unfold runFn at h
  split at h
  · rename_i env1 st1 hc
    cases h
    exact ⟨ρ, F, st, _, _, I, env_start r, hc, fun σ' ρ1 F1 H1 t1 I1 R1 => p _ ρ1 F1 H1 t1 I1 .non⟩
  · rename_i r1 st1 hc
    cases h
    exact ⟨ρ, F, st, _, _, I, env_start r, hc, p⟩
  · rename_i c1 fs1 st1 hc
    cases h
    exact ⟨ρ, F, st, _, _, I, env_start r, hc, p⟩
  · cases h
theorem spF_len {n : Nat} {m : Fn} {vs : List V} {H : Hp} {Q : VK} {E : XK} (h : spF K P n m vs H Q E) : vs.length = n := by
  obtain ⟨ρ, F, st, xs, o, I, r, hn, _⟩ := h
  rw [paired_len r]
  exact hn
theorem spF_cut {n : Nat} {m : Fn} {vs : List V} {H : Hp} {Q : VK} {E : XK} (h : spF K P n (fCut m) vs H Q E) : spF K P n m vs H Q E := by
  obtain ⟨ρ, F, st, xs, o, I, r, hn, h, p⟩ := h
  obtain ⟨o', h1, p1⟩ := cut_post I h p
  exact ⟨ρ, F, st, xs, o', I, r, hn, h1, p1⟩
end
end Sl
set_option Elab.async false
set_option linter.all false
set_option autoImplicit false
set_option maxRecDepth 100000
set_option maxHeartbeats 4000000
namespace Sl
open PySem PySem.Spec PyProof.Rows L2

/-! ### minus, chains of comparisons, what is never reached -/
def eNeg (a : SE) : SE := fun env st => obind (a env st) fun x st1 => (asI x).map fun i => .ok (.d (.int (-i))) st1
def eChain (f g : Op2) (a b c : SE) : SE := fun env st => obind (a env st) fun x st1 => obind (b env st1) fun y st2 => match f st2 x y with
  | some (.d (.bool true), st3) => obind (c env st3) fun z st4 => (g st4 y z).map fun w => .ok w.1 w.2
  | some (.d (.bool false), st3) => some (.ok (.d (.bool false)) st3)
  | _ => none
def sNever : SS := fun _ _ => none
section
variable {X : Cx} {P : Par} {E : XK} {a b c : Expr} {ca cb cc : SE} {pos : Pos} {s : Stmt}
theorem e_neg (ha : PE X a (rdE X.K P E ca)) : PE X (.UnaryOp .USub a pos) (rdE X.K P E (eNeg ca)) := pe_weak (pe_un un_neg ha) fun σ H Q ⟨ρ, F, st, env, o, I, R, h, p⟩ => by
  refine rdE_bind I R h p fun v ρ1 F1 H1 x st1 t1 I1 R1 r1 h1 p1 => ?_
  obtain ⟨i, h2, h3⟩ := Option.map_eq_some_iff.mp h1
  subst h3
  rw [asI_eq h2] at r1
  exact ⟨i, vr_int r1, p1 _ ρ1 F1 H1 (Tr.refl ..) I1 (.int _)⟩
theorem chain_rd {K : Kf} {r r' : R2} {f g : Op2} (hf : Pr2 K r f) (hg : Pr2 K r' g) {σ : L2.St} {H : Hp} {Q : VK} (h : rdE K P E (eChain f g ca cb cc) σ H Q) : tChain r r' (rdE K P E ca) (rdE K P E cb) (rdE K P E cc) σ H Q := by
  obtain ⟨ρ, F, st, env, o, I, R, h, p⟩ := h
  refine rdE_bind I R h p fun v ρ1 F1 H1 x st1 t1 I1 R1 r1 h1 p1 => ?_
  refine rdE_bind I1 R1 h1 p1 fun w ρ2 F2 H2 y st2 t2 I2 R2 r2 h2 p2 => ?_
  split at h2
  · rename_i st3 hz
    refine hf.run I2 (r1.mono t2) r2 hz fun u ρ3 F3 H3 t3 I3 ru => ⟨true, vr_bool ru, ?_⟩
    refine rdE_bind I3 (R2.mono t3) h2 (p2.mono t3) fun u4 ρ4 F4 H4 z st4 t4 I4 R4 r4 h4 p4 => ?_
    obtain ⟨w5, hw, hk⟩ := Option.map_eq_some_iff.mp h4
    subst hk
    exact hg.run I4 ((r2.mono t3).mono t4) r4 hw p4
  · rename_i st3 hz
    cases h2
    exact hf.run I2 (r1.mono t2) r2 hz fun u ρ3 F3 H3 t3 I3 ru => ⟨false, vr_bool ru, p2 _ ρ3 F3 H3 t3 I3 (.bl _)⟩
  · cases h2
theorem e_chain {op op' : CmpOp} {r r' : R2} {f g : Op2} (ho : OpR X (compareOp op) r) (ho' : OpR X (compareOp op') r') (hf : Pr2 X.K r f) (hg : Pr2 X.K r' g) (ha : PE X a (rdE X.K P E ca)) (hb : PE X b (rdE X.K P E cb)) (hc : PE X c (rdE X.K P E cc))
    (hm : lastMarks [op, op'] [b, c] = false := by with_unfolding_all rfl) : PE X (.Compare a [op, op'] [b, c] pos) (rdE X.K P E (eChain f g ca cb cc)) := pe_weak (pe_chain ho ho' ha hb hc hm) fun _ _ _ h => chain_rd hf hg h
theorem t_chain {op op' : CmpOp} {r r' : R2} {f g : Op2} (ho : OpR X (compareOp op) r) (ho' : OpR X (compareOp op') r') (hf : Pr2 X.K r f) (hg : Pr2 X.K r' g) (ha : PE X a (rdE X.K P E ca)) (hb : PE X b (rdE X.K P E cb)) (hc : PE X c (rdE X.K P E cc))
    (hm : lastMarks [op, op'] [b, c] = false := by with_unfolding_all rfl) : PT X (.Compare a [op, op'] [b, c] pos) (rdT X.K P E (eChain f g ca cb cc)) :=
  pt_weak (pt_chain ho ho' ha hb hc hm) fun σ H Q ⟨ρ, F, st, env, o, I, R, h, p⟩ => chain_rd hf hg ⟨ρ, F, st, env, o, I, R, h, by
    cases o with
    | ex c fs st1 => exact p
    | ok r st1 =>
      obtain ⟨b, e, q⟩ := p
      subst e
      exact fun v ρ' F' H' t I' r => ⟨b, vr_bool r, q ρ' F' H' t I'⟩⟩
theorem s_never : PS X s (rdS X.K P E sNever) := ps_weak ps_never fun D σ H ⟨ρ, F, st, env, o, I, R, h, p⟩ => by cases h
/-- xs[::-1] -/
def eRev (mk : Mk) (a : SE) : SE := fun env st => obind (a env st) fun x st1 => match asSeq st1 x with
  | some (false, xs) => (mk xs.reverse st1).map fun z => .ok z.1 z.2
  | _ => none
theorem paired_rev {α β : Type} {R : α → β → Prop} : ∀ {a : List α} {b : List β}, Paired R a b → Paired R a.reverse b.reverse
  | _, _, .nil => .nil
  | _, _, .cons h t => by
    rw [List.reverse_cons, List.reverse_cons]
    exact paired_append (paired_rev t) (.cons h .nil)
theorem e_rev {mk : Mk} (hm : MkOk X.K mk) {k : Nat} {p1 p2 p3 : Pos} (ha : PE X a (rdE X.K P E ca)) : PE X (.Subscript a (.Slice none none (some (.UnaryOp .USub (.Constant (.int 1) k p1) p2)) p3) pos) (rdE X.K P E (eRev mk ca)) :=
  pe_weak (pe_revL ha) fun σ H Q ⟨ρ, F, st, env, o, I, R, h, p⟩ => by
    refine rdE_bind I R h p fun v ρ1 F1 H1 x st1 t1 I1 R1 r1 h1 p1 => ?_
    split at h1
    · rename_i xs hx
      obtain ⟨z, hz, hk⟩ := Option.map_eq_some_iff.mp h1
      subst hk
      obtain ⟨a', vs, rfl, g1, g2, g3⟩ := asSeq_ok I1 r1 hx
      refine ⟨a', vs, rfl, g1 rfl, fun p hp => ?_⟩
      obtain ⟨ρ', F', t, I', r'⟩ := hm.run I1 hp (paired_rev g3) hz
      exact p1 _ ρ' F' _ t I' r'
    · cases h1
end
/-! ### a def called with keywords (all parameters given) -/
def aApp (a b : SL) : SL := fun env st => match a env st with
  | none => none
  | some (.ex k fs st1) => some (.ex k fs st1)
  | some (.ok xs st1) => match b env st1 with
    | none => none
    | some (.ex k fs st2) => some (.ex k fs st2)
    | some (.ok ys st2) => some (.ok (xs ++ ys) st2)
section
variable {X : Cx} {P : Par} {E : XK} {x : Str} {p pos : Pos} {e : Expr} {es : List Expr} {cs ck : SL} {CX : CXT} {k n : Nat} {f : Addr} {fd : FuncData} {ps ks : List Str} {m : Fn} {kws : List Keyword} {kpos : Pos} {nm : Option Str} {ce : SE}
theorem pk_weak {t t' : TA} (h : PK X kws t) (w : ∀ σ H Q, t' σ H Q → t σ H Q) : PK X kws t' := ⟨fun po pins s σ H Q I q => h.run po pins s σ H Q I (w σ H Q q)⟩
theorem k_nil : PK X [] (rdL X.K P E aNil) := pk_weak pk_nil fun σ H Q ⟨ρ, F, st, env, o, I, R, h, p⟩ => by
  cases h
  exact p [] ρ F H (Tr.refl ..) I .nil
theorem k_cons (he : PE X e (rdE X.K P E ce)) (hs : PK X kws (rdL X.K P E cs)) : PK X (⟨nm, e, kpos⟩ :: kws) (rdL X.K P E (aCons ce cs)) :=
  pk_weak (pk_cons he hs) fun σ H Q ⟨ρ, F, st, env, o, I, R, h, p⟩ => by
    unfold aCons at h
    cases hc : ce env st with
    | none =>
      rw [hc] at h
      cases h
    | some o1 =>
      rw [hc] at h
      refine ⟨ρ, F, st, env, o1, I, R, hc, ?_⟩
      cases o1 with
      | ex k fs st1 =>
        cases h
        exact p
      | ok r st1 =>
        intro v ρ1 F1 H1 t1 I1 r1
        cases hd : cs env st1 with
        | none =>
          simp only [hd] at h
          cases h
        | some o2 =>
          simp only [hd] at h
          refine ⟨ρ1, F1, st1, env, o2, I1, R.mono t1, hd, ?_⟩
          cases o2 with
          | ex k fs st2 =>
            cases h
            exact PostX.mono t1 p
          | ok rs st2 =>
            cases h
            exact fun vs ρ2 F2 H2 t2 I2 r2 => p (v :: vs) ρ2 F2 H2 (t1.trans t2) I2 (.cons (r1.mono t2) r2)
/-- f(e, .., k = v): the keywords' values stand behind the others, in the parameters' order -/
theorem e_callN (F : FnOk X.prog X.w X.K X.mg X.base CX k f fd ps (spF X.K P (n + ks.length) m)) (hr : Room k X.A) (hg : Gl X x) (hm : X.mg x = some (.ref f)) (hk : PySem.W.keepIn X.K (.ref f) = true) (hb : KBn X.K fd ps n ks (fun us ws => us ++ ws) (fun vs zs => vs ++ zs)) (hx : Passes CX X E)
    (ha : PA X (e :: es) (rdL X.K P E cs)) (hkw : PK X kws (rdL X.K P E ck)) (hln : ∀ env st xs st1, cs env st = some (.ok xs st1) → xs.length = n) (hlk : ∀ env st xs st1, ck env st = some (.ok xs st1) → xs.length = ks.length)
    (hall : (backToKw pos (keywordEach kws X.env)).all (·.1.isSome) = true := by rfl) (hks : (backToKw pos (keywordEach kws X.env)).filterMap (·.1) = ks := by rfl)
    (hdb : (x == ("__debug__" : Str)) = false := by decide) (he : starEach (e :: es) X.env = (false, eval e X.env) :: starEach es X.env := by rfl)
    (hpl : ((backTo pos (starEach (e :: es) X.env)).any (·.1) || (backToKw pos (keywordEach kws X.env)).any (·.1.isNone)) = false := by rfl) :
    PE X (.Call (.Name x p) (e :: es) kws pos) (rdE X.K P E (eCall (nFn (n + ks.length) m) (aApp cs ck))) :=
  pe_weak (pe_callN F hr hg hm hk hb hx ha hkw hall hks hdb he hpl) fun σ H Q ⟨ρ, F, st, env, o, I, R, h, p⟩ => by
    unfold eCall aApp at h
    cases hc : cs env st with
    | none => rw [hc] at h; cases h
    | some o1 =>
      rw [hc] at h
      refine ⟨ρ, F, st, env, o1, I, R, hc, ?_⟩
      cases o1 with
      | ex k fs st1 =>
        cases h
        exact p
      | ok xs st1 =>
        intro vs ρ1 F1 H1 t1 I1 r1
        cases hd : ck env st1 with
        | none =>
          simp only [hd] at h
          cases h
        | some o2 =>
          simp only [hd] at h
          refine ⟨ρ1, F1, st1, env, o2, I1, R.mono t1, hd, ?_⟩
          cases o2 with
          | ex k fs st2 =>
            cases h
            exact PostX.mono t1 p
          | ok ys st2 =>
            have h' : nFn (n + ks.length) m (xs ++ ys) st2 = some o := h
            unfold nFn at h'
            split at h'
            · intro zs ρ2 F2 H2 t2 I2 r2
              refine ⟨(paired_len r1).trans (hln _ _ _ _ hc), (paired_len r2).trans (hlk _ _ _ _ hd), ?_⟩
              exact ⟨ρ2, F2, st2, xs ++ ys, o, I2, paired_append (r1.mono t2) r2, by assumption, h', (p.mono t1).mono t2⟩
            · cases h'
end
end Sl
set_option Elab.async false
set_option linter.all false
set_option autoImplicit false
set_option maxRecDepth 100000
set_option maxHeartbeats 4000000
/-! sets of ints made from lists -/
namespace PySem
section
variable {P : Program} {w : World} {A : Around} {E : Value → Shared → Prop} {s : Shared}
/-- a new set's object, told by its order's mark -/
def slSet (w : World) : Obj := { cls := .type "set", dict := none, data := .set #[] 0 (.fresh 0 0 (!w.params.followText "set-order")) }
set_option maxHeartbeats 3200000 in
theorem slSet_list {l : Addr} {items : Array Value} (ns : List Int) {Q : Value → Shared → Prop} (hh : A.handled = none) (hl : s.heap.IsList l items) (hit : PyProof.Rows.IntsAre items.toList ns) (hb : ns.length + 1 < scanBound)
    (done : ∀ (h2 : Heap) (tk c : Nat), L2.SetR w h2 s.heap.objs.size (fun j => decide (j ∈ ns)) c → c ≤ ns.length → (∀ b o, s.heap.get? b = some o → h2.get? b = some o) → Q (.ref s.heap.objs.size) { s with heap := h2, toks := tk }) :
    wpAny (model P w) A (call (.type "set") [.ref l]) Q E s := by
  have len : items.size = ns.length := by
    have z := PyProof.Rows.IntsAre.length hit
    rw [Array.length_toList] at z
    exact z
  obtain ⟨c0, tail, mro0⟩ := F.called_set.mro
  have f1 := F.called_set.made
  have f2 := F.called_set.sub
  have f3 := F.called_set.notType
  have f4 := F.called_set.canCreate
  have f5 := F.typeCall_set_1 (.ref l)
  refine wpAny_call (codeAny_of_tree ?_)
  show wpAny _ _ (callAny (.type "set") _) _ _ s
  refine wpAny_pure ⟨Code.quiet_builtin _ (by decide +kernel), codeAny_builtin F.entry_type_call ?_⟩
  rw [Around.under_plain (weight_type_call_type "set" [.ref l] []) rfl]
  repeat (any_goals (first | assumption | wp_step))
  refine codeAny_mono (L2.code_set_led1 (.ref l) (E := E) (Q₁ := fun v s1 => v = .ref s.heap.objs.size ∧ s1 = { s with heap := s.heap.push (slSet w) }) ⟨rfl, rfl⟩) fun r s1 hr => ?_
  cases r with
  | error e => exact hr
  | ok fl =>
    cases fl with
    | ret v =>
      obtain ⟨rfl, rfl⟩ := hr
      have h0 : (s.heap.push (slSet w)).get? s.heap.objs.size = some (slSet w) := Heap.get?_push_size _ rfl
      have ht : Shared.TypeIs { s with heap := s.heap.push (slSet w) } (.ref s.heap.objs.size) "set" := ⟨_, h0, rfl⟩
      have g1 := F.called_set.init.lookup
      have g2 := F.called_set.init.bind (.ref s.heap.objs.size)
      repeat (any_goals (first | assumption | wp_step))
      refine codeAny_mono (codeAny_call_builtin (R := wants (fun r s2 => r = .none ∧ ∃ h2 tk c, s2 = { s with heap := h2, toks := tk } ∧ L2.SetR w h2 s.heap.objs.size (fun j => decide (j ∈ ns)) c ∧ c ≤ ns.length ∧ (∀ b o, s.heap.get? b = some o → h2.get? b = some o)) E)
        F.called_set.init.plain F.entry_set_init (check_set_init_1 ht ?_)) fun r2 s2 hr2 => ?_
      · obtain ⟨⟨oc, od, dt, sl⟩, hol, hcl, nl, hdl⟩ := hl
        simp only at hcl hdl
        subst hcl hdl
        have k1 : (s.heap.push (slSet w)).get? l = some { cls := .type "list", dict := od, data := .seq items nl, slots := sl } := Heap.get?_push_of_some _ hol
        have k2 := F.sub_list_set
        have k3 := F.sub_list_frozenset
        have k4 : (Value.type "list" == Value.type "dict") = false := by decide
        have k5 : (s.heap.push (slSet w)).IsList l items := ⟨_, k1, rfl, nl, rfl⟩
        unfold Builtin.«set.__init__» noKeywords Builtin.Frozenset.updateFrom
        generalize hgen : pyIter = it0
        wp_walk
        subst hgen
        refine wpAny_pyIter_list k5 ?_
        refine wpAny_bind (wpAny_runValue ?_)
        have lt : l < s.heap.objs.size := Heap.lt_size hol
        have hnone : A.in1.in1.in1.handled = none := by simp [hh]
        have sz : (s.heap.push (slSet w)).objs.size = s.heap.objs.size + 1 := Heap.size_push ..
        have ne1 : l ≠ (s.heap.push (slSet w)).objs.size := by rw [sz]; exact Nat.ne_of_lt (Nat.lt_succ_of_lt lt)
        have ne2 : s.heap.objs.size ∉ [(s.heap.push (slSet w)).objs.size, l] := by
          simp only [List.mem_cons, List.not_mem_nil, or_false, not_or]
          exact ⟨by rw [sz]; exact Nat.ne_of_lt (Nat.lt_succ_self _), Nat.ne_of_gt lt⟩
        have vals : ∀ (i : Nat) (v : Value), items[i]? = some v → ∃ k t, ns[i]? = some k ∧ v = .int k t := fun i v hv => by
          have hi : i < ns.length := by rw [← len]; exact (Array.getElem?_eq_some_iff.mp hv).1
          obtain ⟨t, e⟩ := PyProof.Rows.IntsAre.int_at hit i v (by rw [Array.getElem?_toList]; exact hv)
          refine ⟨ns[i], t, List.getElem?_eq_getElem hi, ?_⟩
          rw [e, List.getD_eq_getElem?_getD, List.getElem?_eq_getElem hi]
          rfl
        refine L2.set_update_ints ((Walks.list hnone _ l ne1 items).toS) s.heap.objs.size ne2 ns len hb vals (items.size - 0) 0 _ (by omega) (Nat.zero_le _) ⟨⟨_, Heap.get?_push_size _ rfl, rfl, rfl⟩, (k5.push _)⟩ ?first ?last
        case first =>
          have h1 : ((s.heap.push (slSet w)).push { cls := .type "list_iterator", data := .fields #[.ref l, .int 0 0] }).get? s.heap.objs.size = some (slSet w) := Heap.get?_push_of_some _ h0
          exact ⟨0, Nat.le_refl 0, L2.setR_new_at h1⟩
        case last =>
          intro s3 c3 mv hc3 hS3
          obtain ⟨h3, g3, d3, t3, o3⟩ := s3
          obtain rfl : g3 = s.gens := mv.gens
          obtain rfl : d3 = s.drawn := mv.drawn
          obtain rfl : o3 = s.os := mv.os
          show wpAny _ _ (pure _) _ _ _
          refine wpAny_pure ?_
          show wpAny _ _ (ret Value.none) _ _ _
          refine wpAny_pure ⟨rfl, h3, t3, c3, rfl, hS3, by omega, fun b o e => ?_⟩
          have hb0 : b < s.heap.objs.size := Heap.lt_size e
          refine mv.heap b o ?_ (Heap.get?_push_of_some _ (Heap.get?_push_of_some _ e))
          simp only [List.mem_cons, List.not_mem_nil, or_false, not_or]
          exact ⟨Nat.ne_of_lt hb0, by rw [sz]; exact Nat.ne_of_lt (Nat.lt_succ_of_lt hb0)⟩
      · cases r2 with
        | error e => exact hr2
        | ok fl2 =>
          cases fl2 with
          | ret r =>
            obtain ⟨rfl, h2, tk, c, rfl, q1, q2, q3⟩ := hr2
            repeat (any_goals (first | assumption | wp_step))
            exact done _ _ _ q1 q2 q3
          | _ => exact hr2.elim
    | _ => exact hr.elim
end
end PySem
set_option Elab.async false
set_option linter.all false
set_option autoImplicit false
set_option maxRecDepth 100000
set_option maxHeartbeats 4000000
namespace Sl
open PySem PySem.Spec PyProof.Rows L2

/-! ### a walk over a sequence: data, or a list of the store read anew at each turn -/
def forO (g : Tg) (body : SS) (n : Nat) : Nat → Nat → Env → Sto → Option Fl
  | 0, _, _, _ => none
  | f + 1, i, env, st => match lstAt st (.o n) with
    | none => none
    | some (_, xs) => match xs[i]? with
      | none => some (.nx env st)
      | some x => match g x env with
        | none => none
        | some env1 => match body env1 st with
          | none => none
          | some (.nx env2 st2) => forO g body n f (i + 1) env2 st2
          | some (.ct env2 st2) => forO g body n f (i + 1) env2 st2
          | some (.bk env2 st2) => some (.nx env2 st2)
          | some (.rt r st2) => some (.rt r st2)
          | some (.ex c fs st2) => some (.ex c fs st2)
/-- what is walked: data's items, or an object's number and how long it is now -/
def wlk (st : Sto) (x : VL) : Option (List VL ⊕ (Nat × Nat)) := match x with
  | .d (.list ds) => some (.inl (ds.map .d))
  | .d (.tuple ds) => some (.inl (ds.map .d))
  | .d _ => none
  | .o n => match st[n]? with
    | some (.fr (.list ds)) => some (.inl (ds.map .d))
    | some (.fr (.tuple ds)) => some (.inl (ds.map .d))
    | some (.lst xs) => some (.inr (n, xs.length))
    | _ => none
def sForS (a : SE) (g : Tg) (body : SS) : SS := fun env st => fbind (a env st) fun x st1 => match wlk st1 x with
  | none => none
  | some (.inl xs) => forL g body xs env st1
  | some (.inr (n, m)) => forO g body n (m + 1) 0 env st1
section
variable {K : Kf} {P : Par} {ρ : List Addr} {F H : Hp} {st : Sto}
theorem wlk_ok (I : Im K P ρ F H st) {v : V} {x : VL} {w : List VL ⊕ (Nat × Nat)} (r : VR K ρ F v x) (h : wlk st x = some w) :
    (∃ xs a vs, w = .inl xs ∧ v = .ref a ∧ ((SqL K F a vs ∧ ItR K ρ F (Itl K a) xs) ∨ (F a = some (.tup vs) ∧ ItR K ρ F (Itt K a) xs))) ∨ ∃ n a xs, x = .o n ∧ w = .inr (n, xs.length) ∧ v = .ref a ∧ lstAt st x = some (n, xs) := by
  have data : ∀ {y : PyData} {v : V} {xs : List VL}, Dq K F v y → ((∃ ds, y = .list ds ∧ xs = ds.map .d) ∨ (∃ ds, y = .tuple ds ∧ xs = ds.map .d)) → ∃ a vs, v = .ref a ∧ ((SqL K F a vs ∧ ItR K ρ F (Itl K a) xs) ∨ (F a = some (.tup vs) ∧ ItR K ρ F (Itt K a) xs)) := by
    rintro y v xs hq (⟨ds, rfl, rfl⟩ | ⟨ds, rfl, rfl⟩)
    · cases hq with
      | lst hs hd => exact ⟨_, _, rfl, .inl ⟨hs, itl_ok' hs (vrs_of hd)⟩⟩
    · cases hq with
      | tup hs hd => exact ⟨_, _, rfl, .inr ⟨hs, itt_ok hs (vrs_of hd)⟩⟩
  cases x with
  | d y =>
    unfold wlk at h
    cases y with
    | list ds =>
      cases h
      obtain ⟨a, vs, e, g⟩ := data (xs := ds.map .d) r (.inl ⟨ds, rfl, rfl⟩)
      exact .inl ⟨_, a, vs, rfl, e, g⟩
    | tuple ds =>
      cases h
      obtain ⟨a, vs, e, g⟩ := data (xs := ds.map .d) r (.inr ⟨ds, rfl, rfl⟩)
      exact .inl ⟨_, a, vs, rfl, e, g⟩
    | _ => cases h
  | o n =>
    unfold wlk at h
    cases hs : st[n]? with
    | none => simp [hs] at h
    | some ob =>
      obtain ⟨a, rfl, ha, hb⟩ := I.at_ r hs
      cases ob with
      | fr y =>
        cases y with
        | list ds =>
          simp only [hs, Option.some.injEq] at h
          subst h
          obtain ⟨a, vs, e, g⟩ := data (xs := ds.map .d) hb (.inl ⟨ds, rfl, rfl⟩)
          exact .inl ⟨_, a, vs, rfl, e, g⟩
        | tuple ds =>
          simp only [hs, Option.some.injEq] at h
          subst h
          obtain ⟨a, vs, e, g⟩ := data (xs := ds.map .d) hb (.inr ⟨ds, rfl, rfl⟩)
          exact .inl ⟨_, a, vs, rfl, e, g⟩
        | _ => simp [hs] at h
      | lst xs =>
        simp only [hs, Option.some.injEq] at h
        subst h
        exact .inr ⟨n, a, xs, rfl, rfl, rfl, by simp [lstAt, hs]⟩
      | _ => simp [hs] at h
end
section
variable {X : Cx} {P : Par} {E : XK} {tg e : Expr} {ca : SE} {T : List Nat} {g : Tg} {cb : SS} {body : List Stmt} {pos : Pos}
/-- the turns over what does not change -/
theorem forL_rd {K : Kf} {J : It} {D : Ends} {σ : L2.St} {xs : List VL} {ρ1 : List Addr} {F1 H1 : Hp} {st1 : Sto} {env : Env} {o : Fl} (I1 : Im K P ρ1 F1 H1 st1) (R1 : EnvR K ρ1 F1 σ env) (hJ : ItR K ρ1 F1 J xs) (h : forL g cb xs env st1 = some o) (p : PostS K P ρ1 F1 H1 D E o) :
    ∃ W : Nat → Nat → L2.St → Hp → Prop, (∃ m, W 0 m σ H1) ∧ ∀ i m σ H, W i m σ H →
      (J.stop i H ∧ D.nx σ H) ∨ (J.go i H ∧ ∃ N : L2.St → Hp → Prop, (∀ σ' H', N σ' H' → ∃ m', m' < m ∧ W (i + 1) m' σ' H') ∧ ∀ x H', J.yld i H x H' → rdG K T g x σ H' fun σ2 H2 => rdS K P E cb { D with nx := N, ct := N, bk := D.nx } σ2 H2) := by
  refine ⟨fun i m σ' H' => i ≤ xs.length ∧ m = xs.length - i ∧ ∃ ρ' F' st' env', Tr ρ1 F1 H1 ρ' F' H' ∧ Im K P ρ' F' H' st' ∧ EnvR K ρ' F' σ' env' ∧ forL g cb (xs.drop i) env' st' = some o,
    ⟨xs.length, Nat.zero_le _, rfl, ρ1, F1, st1, env, Tr.refl .., I1, R1, h⟩, ?_⟩
  rintro i m σ' H' ⟨hi, rfl, ρ', F', st', env', T', I', R', hf⟩
  have p' := p.mono T'
  by_cases hlt : i < xs.length
  · obtain ⟨g1, g2⟩ := hJ.1 i xs[i] (List.getElem?_eq_getElem hlt) H' (T'.exF.trans I'.ex)
    rw [List.drop_eq_getElem_cons hlt] at hf
    refine .inr ⟨g1, fun σ2 H2 => ∃ ρ2 F2 st2 env2, Tr ρ1 F1 H1 ρ2 F2 H2 ∧ Im K P ρ2 F2 H2 st2 ∧ EnvR K ρ2 F2 σ2 env2 ∧ forL g cb (xs.drop (i + 1)) env2 st2 = some o, fun σ2 H2 q => ⟨xs.length - (i + 1), by omega, hlt, rfl, q⟩, fun v H2 hy => ?_⟩
    obtain ⟨rfl, rv⟩ := g2 v H2 hy
    unfold forL at hf
    split at hf
    · cases hf
    · rename_i env1 hg1
      refine ⟨ρ', F', env', xs[i], env1, I'.ex, R', rv.mono T', hg1, fun σ3 R3 _ => ?_⟩
      split at hf
      · cases hf
      · rename_i env2 st2 hb2
        exact ⟨ρ', F', st', env1, _, I', R3, hb2, fun σ4 ρ4 F4 H4 t4 I4 R4 => ⟨ρ4, F4, st2, env2, T'.trans t4, I4, R4, hf⟩⟩
      · rename_i env2 st2 hb2
        exact ⟨ρ', F', st', env1, _, I', R3, hb2, fun σ4 ρ4 F4 H4 t4 I4 R4 => ⟨ρ4, F4, st2, env2, T'.trans t4, I4, R4, hf⟩⟩
      · rename_i env2 st2 hb2
        cases hf
        exact ⟨ρ', F', st', env1, _, I', R3, hb2, p'⟩
      · rename_i r st2 hb2
        cases hf
        exact ⟨ρ', F', st', env1, _, I', R3, hb2, p'⟩
      · rename_i c fs st2 hb2
        cases hf
        exact ⟨ρ', F', st', env1, _, I', R3, hb2, p'⟩
  · have e : i = xs.length := by omega
    subst e
    refine .inl ⟨hJ.2 H' (T'.exF.trans I'.ex), ?_⟩
    rw [List.drop_of_length_le (Nat.le_refl _)] at hf
    cases hf
    exact p' _ ρ' F' H' (Tr.refl ..) I' R'
theorem forO_rd {K : Kf} {D : Ends} {σ : L2.St} {n k : Nat} {a : Addr} {ρ1 : List Addr} {F1 H1 : Hp} {st1 : Sto} {env : Env} {o : Fl} (I1 : Im K P ρ1 F1 H1 st1) (R1 : EnvR K ρ1 F1 σ env) (ha : ρ1[n]? = some a) (h : forO g cb n k 0 env st1 = some o) (p : PostS K P ρ1 F1 H1 D E o) :
    ∃ W : Nat → Nat → L2.St → Hp → Prop, (∃ m, W 0 m σ H1) ∧ ∀ i m σ H, W i m σ H →
      ((Itl K a).stop i H ∧ D.nx σ H) ∨ ((Itl K a).go i H ∧ ∃ N : L2.St → Hp → Prop, (∀ σ' H', N σ' H' → ∃ m', m' < m ∧ W (i + 1) m' σ' H') ∧ ∀ x H', (Itl K a).yld i H x H' → rdG K T g x σ H' fun σ2 H2 => rdS K P E cb { D with nx := N, ct := N, bk := D.nx } σ2 H2) := by
  refine ⟨fun i m σ' H' => ∃ ρ' F' st' env', Tr ρ1 F1 H1 ρ' F' H' ∧ Im K P ρ' F' H' st' ∧ EnvR K ρ' F' σ' env' ∧ forO g cb n m i env' st' = some o, ⟨k, ρ1, F1, st1, env, Tr.refl .., I1, R1, h⟩, ?_⟩
  rintro i m σ' H' ⟨ρ', F', st', env', T', I', R', hf⟩
  have p' := p.mono T'
  cases m with
  | zero => cases hf
  | succ m =>
    unfold forO at hf
    split at hf
    · cases hf
    · rename_i n2 xs hl
      obtain ⟨b, vs, e1, k1, k2, k3, k4⟩ := lstAt_ok I' (v := .ref a) (x := .o n) ⟨a, rfl, T'.get ha⟩ hl
      cases e1
      split at hf
      · rename_i hx
        cases hf
        refine .inl ⟨⟨vs, SqL.of k3, ?_⟩, p' _ ρ' F' H' (Tr.refl ..) I' R'⟩
        rw [paired_len k4]
        exact List.getElem?_eq_none_iff.mp hx
      · rename_i x hx
        obtain ⟨w, hw, rw'⟩ := vrs_get k4 hx
        refine .inr ⟨⟨vs, w, SqL.of k3, hw⟩, fun σ2 H2 => ∃ ρ2 F2 st2 env2, Tr ρ1 F1 H1 ρ2 F2 H2 ∧ Im K P ρ2 F2 H2 st2 ∧ EnvR K ρ2 F2 σ2 env2 ∧ forO g cb n m (i + 1) env2 st2 = some o, fun σ2 H2 q => ⟨m, Nat.lt_succ_self m, q⟩, fun v H2 hy => ?_⟩
        obtain ⟨rfl, hy2⟩ := hy
        have hv := hy2 vs (SqL.of k3)
        rw [hw] at hv
        cases hv
        split at hf
        · cases hf
        · rename_i env1 hg1
          refine ⟨ρ', F', env', x, env1, I'.ex, R', rw', hg1, fun σ3 R3 _ => ?_⟩
          split at hf
          · cases hf
          · rename_i env2 st2 hb2
            exact ⟨ρ', F', st', env1, _, I', R3, hb2, fun σ4 ρ4 F4 H4 t4 I4 R4 => ⟨ρ4, F4, st2, env2, T'.trans t4, I4, R4, hf⟩⟩
          · rename_i env2 st2 hb2
            exact ⟨ρ', F', st', env1, _, I', R3, hb2, fun σ4 ρ4 F4 H4 t4 I4 R4 => ⟨ρ4, F4, st2, env2, T'.trans t4, I4, R4, hf⟩⟩
          · rename_i env2 st2 hb2
            cases hf
            exact ⟨ρ', F', st', env1, _, I', R3, hb2, p'⟩
          · rename_i r st2 hb2
            cases hf
            exact ⟨ρ', F', st', env1, _, I', R3, hb2, p'⟩
          · rename_i c fs st2 hb2
            cases hf
            exact ⟨ρ', F', st', env1, _, I', R3, hb2, p'⟩
theorem s_forS (hp : PassesOwn (model X.prog X.w) X.A X.env X.xe) (hc : X.calm = true) (he : PE X e (rdE X.K P E ca)) (hg : PG X tg (rdG X.K T g)) (hb : PSs X body (rdS X.K P E cb)) (hs : ∀ x, foldedSetIterable e X.env x = pure x := by intro _; rfl) : PS X (.For tg e body [] pos) (rdS X.K P E (sForS ca g cb)) :=
  ps_weak (ps_for hp hc (pi_either he) hg hb hs) fun D σ H ⟨ρ, F, st, env, o, I, R, h, p⟩ => by
    refine rdE_bindS I R h p fun v ρ1 F1 H1 x st1 t1 I1 R1 r1 h1 p1 => ?_
    split at h1
    · cases h1
    · rename_i xs hw
      rcases wlk_ok I1 r1 hw with ⟨ys, a, vs, e1, rfl, g1⟩ | ⟨n, a, ys, e0, e1, _⟩
      · cases e1
        rcases g1 with ⟨q1, q2⟩ | ⟨q1, q2⟩
        · exact .inl ⟨a, rfl, ⟨vs, Evl.ex_l I1.ex q1⟩, forL_rd I1 R1 q2 h1 p1⟩
        · exact .inr ⟨a, rfl, ⟨vs, SqT.of (I1.ex _ _ q1)⟩, forL_rd I1 R1 q2 h1 p1⟩
      · cases e1
    · rename_i n m hw
      rcases wlk_ok I1 r1 hw with ⟨ys, a, vs, e1, rfl, g1⟩ | ⟨n', a, ys, rfl, e1, rfl, hl⟩
      · cases e1
      · cases e1
        obtain ⟨b, ws, e2, k1, k2, k3, k4⟩ := lstAt_ok I1 r1 hl
        cases e2
        exact .inl ⟨a, rfl, ⟨ws, SqL.of k3⟩, forO_rd I1 R1 k1 h1 p1⟩
end
/-! ### comprehensions over a sequence -/
def compO (g : Tg) (t e : SE) (env : Env) (n : Nat) : Nat → Nat → List VL → Sto → Option (List VL × Sto)
  | 0, _, _, _ => none
  | f + 1, i, acc, st => match lstAt st (.o n) with
    | none => none
    | some (_, xs) => match xs[i]? with
      | none => some (acc, st)
      | some x => match g x env with
        | none => none
        | some env1 => match t env1 st with
          | some (.ok (.d (.bool true)) st1) => match e env1 st1 with
            | some (.ok y st2) => if acc.length < sizeLine then compO g t e env n f (i + 1) (acc ++ [y]) st2 else none
            | _ => none
          | some (.ok (.d (.bool false)) st1) => compO g t e env n f (i + 1) acc st1
          | _ => none
def eCompS (mk : Mk) (a : SE) (g : Tg) (t e : SE) (vs : List Nat) : SE := fun env st => obind (a env st) fun x st1 => match wlk st1 x with
  | none => none
  | some (.inl xs) => (compL g t e (wipeE env vs) xs [] st1).bind fun z => (mk z.1 z.2).map fun z => .ok z.1 z.2
  | some (.inr (n, m)) => (compO g t e (wipeE env vs) n (m + 1) 0 [] st1).bind fun z => (mk z.1 z.2).map fun z => .ok z.1 z.2
section
variable {X : Cx} {P : Par} {E E' : XK}
theorem far_step {ρ' ρ'' : List Addr} {F' F'' H' H'' : Hp} {o : HO} {D : Addr} (T' : Tr ρ' F' H' ρ'' F'' H'') (hD' : H' D = some o) (hr' : D ∉ ρ') (hF' : F' D = none) : H'' D = some o ∧ D ∉ ρ'' ∧ F'' D = none := by
  refine ⟨T'.keep D o hD' hr', fun h => ?_, ?_⟩
  · rcases T'.fresh D h with h | h
    · exact hr' h
    · rw [hD'] at h
      cases h
  · cases q : F'' D with
    | none => rfl
    | some u =>
      rcases T'.newF D (by rw [q]; exact fun z => nomatch z) with h | h | h
      · exact absurd hF' h
      · rw [hD'] at h
        cases h
      · exact absurd h hr'
theorem compL_rd {K : Kf} {mk : Mk} (hm : MkOk K mk) {T : List Nat} {g : Tg} {t e : SE} {vs : List Nat} (hT : ∀ i, i ∈ T → i ∈ vs) {σ : L2.St} {J : It} {xs : List VL} {ρ1 : List Addr} {F1 H1 : Hp} {st1 : Sto} {env : Env} {w : VL × Sto} {Q : VK} {D : Addr}
    (I1 : Im K P ρ1 F1 H1 st1) (R1 : EnvR K ρ1 F1 σ env) (hJ : ItR K ρ1 F1 J xs) (hD : H1 D = none) (h : ((compL g t e (wipeE env vs) xs [] st1).bind fun z => mk z.1 z.2) = some w) (p1 : Post K P ρ1 F1 H1 Q E (.ok w.1 w.2)) :
    ∃ W : Nat → Nat → Hp → Prop, (∃ m, W 0 m (upd H1 D (.lst []))) ∧ ∀ i m H, W i m H →
      (J.stop i H ∧ Q (.ref D) H) ∨ (J.go i H ∧ ∃ Nx : Hp → Prop, (∀ H', Nx H' → ∃ m', m' < m ∧ W (i + 1) m' H') ∧ ∀ x H', J.yld i H x H' → rdG K T g x (wipe σ vs) H' fun σ2 H2 => wipe σ2 vs = wipe σ vs ∧ rdT K P E' t σ2 H2 fun b H3 =>
        if b = true then rdE K P E' e σ2 H3 fun y H4 => ∃ acc, H4 D = some (.lst acc) ∧ acc.length < sizeLine ∧ Nx (upd H4 D (.lst (acc ++ [y]))) else Nx H3) := by
  obtain ⟨z, hz, hw⟩ := Option.bind_eq_some_iff.mp h
  have hF1 : F1 D = none := by
    cases q : F1 D with
    | none => rfl
    | some u =>
      rw [I1.ex D u q] at hD
      cases hD
  have hr1 : D ∉ ρ1 := fun hm => I1.dom D hm hD
  obtain ⟨T0, I0⟩ := junk I1 hD (.lst [])
  refine ⟨fun i m H' => i ≤ xs.length ∧ m = xs.length - i ∧ ∃ ρ' F' st' accV acc, Tr ρ1 F1 H1 ρ' F' H' ∧ Im K P ρ' F' H' st' ∧ H' D = some (.lst accV) ∧ D ∉ ρ' ∧ F' D = none ∧ VRs K ρ' F' accV acc ∧ compL g t e (wipeE env vs) (xs.drop i) acc st' = some z,
    ⟨xs.length, Nat.zero_le _, rfl, ρ1, F1, st1, [], [], T0, I0, upd_same, hr1, hF1, .nil, hz⟩, ?_⟩
  rintro i m H' ⟨hi, rfl, ρ', F', st', accV, acc, T', I', k1, k2, k3, k4, k5⟩
  by_cases hlt : i < xs.length
  · obtain ⟨g1, g2⟩ := hJ.1 i xs[i] (List.getElem?_eq_getElem hlt) H' (T'.exF.trans I'.ex)
    rw [List.drop_eq_getElem_cons hlt] at k5
    refine .inr ⟨g1, fun H2 => ∃ ρ' F' st' accV acc, Tr ρ1 F1 H1 ρ' F' H2 ∧ Im K P ρ' F' H2 st' ∧ H2 D = some (.lst accV) ∧ D ∉ ρ' ∧ F' D = none ∧ VRs K ρ' F' accV acc ∧ compL g t e (wipeE env vs) (xs.drop (i + 1)) acc st' = some z,
      fun H2 q => ⟨xs.length - (i + 1), by omega, hlt, rfl, q⟩, fun v H2 hy => ?_⟩
    obtain ⟨rfl, rv⟩ := g2 v H2 hy
    unfold compL at k5
    split at k5
    · cases k5
    · rename_i env1 hg1
      refine ⟨ρ', F', wipeE env vs, xs[i], env1, I'.ex, wipe_env (R1.mono T') vs, rv.mono T', hg1, fun σ2 R2 O2 => ⟨wipe_off hT O2, ?_⟩⟩
      split at k5
      · rename_i st2 ht
        refine ⟨ρ', F', st', env1, _, I', R2, ht, true, rfl, fun ρ3 F3 H3 t3 I3 => ?_⟩
        split at k5
        · rename_i y st3 he
          refine ⟨ρ3, F3, st2, env1, _, I3, R2.mono t3, he, fun u ρ4 F4 H4 t4 I4 ru => ?_⟩
          split at k5
          · rename_i hz2
            obtain ⟨a1, a2, a3⟩ := far_step (t3.trans t4) k1 k2 k3
            have rA : VRs K ρ4 F4 accV acc := k4.mono (t3.trans t4)
            refine ⟨accV, a1, by rw [paired_len rA]; exact hz2, ?_⟩
            obtain ⟨T5, I5⟩ := Im.poke ((T'.trans t3).trans t4) I4 hD a2 a3 (.lst (accV ++ [u]))
            exact ⟨ρ4, F4, st3, accV ++ [u], acc ++ [y], T5, I5, upd_same, a2, a3, paired_append rA (.cons ru .nil), k5⟩
          · cases k5
        · cases k5
      · rename_i st2 ht
        refine ⟨ρ', F', st', env1, _, I', R2, ht, false, rfl, fun ρ3 F3 H3 t3 I3 => ?_⟩
        obtain ⟨a1, a2, a3⟩ := far_step t3 k1 k2 k3
        exact ⟨ρ3, F3, st2, accV, acc, T'.trans t3, I3, a1, a2, a3, k4.mono t3, k5⟩
      · cases k5
  · have e : i = xs.length := by omega
    subst e
    refine .inl ⟨hJ.2 H' (T'.exF.trans I'.ex), ?_⟩
    rw [List.drop_of_length_le (Nat.le_refl _)] at k5
    cases k5
    obtain ⟨ρ9, F9, T9, I9, r9⟩ := hm.fin T' I' hD k1 k2 k3 k4 hw
    exact p1 _ ρ9 F9 H' T9 I9 r9
theorem compO_rd {K : Kf} {mk : Mk} (hm : MkOk K mk) {T : List Nat} {g : Tg} {t e : SE} {vs : List Nat} (hT : ∀ i, i ∈ T → i ∈ vs) {σ : L2.St} {n k : Nat} {a : Addr} {ρ1 : List Addr} {F1 H1 : Hp} {st1 : Sto} {env : Env} {w : VL × Sto} {Q : VK} {D : Addr}
    (I1 : Im K P ρ1 F1 H1 st1) (R1 : EnvR K ρ1 F1 σ env) (ha : ρ1[n]? = some a) (hD : H1 D = none) (h : ((compO g t e (wipeE env vs) n k 0 [] st1).bind fun z => mk z.1 z.2) = some w) (p1 : Post K P ρ1 F1 H1 Q E (.ok w.1 w.2)) :
    ∃ W : Nat → Nat → Hp → Prop, (∃ m, W 0 m (upd H1 D (.lst []))) ∧ ∀ i m H, W i m H →
      ((Itl K a).stop i H ∧ Q (.ref D) H) ∨ ((Itl K a).go i H ∧ ∃ Nx : Hp → Prop, (∀ H', Nx H' → ∃ m', m' < m ∧ W (i + 1) m' H') ∧ ∀ x H', (Itl K a).yld i H x H' → rdG K T g x (wipe σ vs) H' fun σ2 H2 => wipe σ2 vs = wipe σ vs ∧ rdT K P E' t σ2 H2 fun b H3 =>
        if b = true then rdE K P E' e σ2 H3 fun y H4 => ∃ acc, H4 D = some (.lst acc) ∧ acc.length < sizeLine ∧ Nx (upd H4 D (.lst (acc ++ [y]))) else Nx H3) := by
  obtain ⟨z, hz, hw⟩ := Option.bind_eq_some_iff.mp h
  have hF1 : F1 D = none := by
    cases q : F1 D with
    | none => rfl
    | some u =>
      rw [I1.ex D u q] at hD
      cases hD
  have hr1 : D ∉ ρ1 := fun hm => I1.dom D hm hD
  obtain ⟨T0, I0⟩ := junk I1 hD (.lst [])
  refine ⟨fun i m H' => ∃ ρ' F' st' accV acc, Tr ρ1 F1 H1 ρ' F' H' ∧ Im K P ρ' F' H' st' ∧ H' D = some (.lst accV) ∧ D ∉ ρ' ∧ F' D = none ∧ VRs K ρ' F' accV acc ∧ compO g t e (wipeE env vs) n m i acc st' = some z,
    ⟨k, ρ1, F1, st1, [], [], T0, I0, upd_same, hr1, hF1, .nil, hz⟩, ?_⟩
  rintro i m H' ⟨ρ', F', st', accV, acc, T', I', k1, k2, k3, k4, k5⟩
  cases m with
  | zero => cases k5
  | succ m =>
    unfold compO at k5
    split at k5
    · cases k5
    · rename_i n2 xs hl
      obtain ⟨b, ws, e1, q1, q2, q3, q4⟩ := lstAt_ok I' (v := .ref a) (x := .o n) ⟨a, rfl, T'.get ha⟩ hl
      cases e1
      split at k5
      · rename_i hx
        cases k5
        refine .inl ⟨⟨ws, SqL.of q3, ?_⟩, ?_⟩
        · rw [paired_len q4]
          exact List.getElem?_eq_none_iff.mp hx
        · obtain ⟨ρ9, F9, T9, I9, r9⟩ := hm.fin T' I' hD k1 k2 k3 k4 hw
          exact p1 _ ρ9 F9 H' T9 I9 r9
      · rename_i x hx
        obtain ⟨u0, hu0, ru0⟩ := vrs_get q4 hx
        refine .inr ⟨⟨ws, u0, SqL.of q3, hu0⟩, fun H2 => ∃ ρ' F' st' accV acc, Tr ρ1 F1 H1 ρ' F' H2 ∧ Im K P ρ' F' H2 st' ∧ H2 D = some (.lst accV) ∧ D ∉ ρ' ∧ F' D = none ∧ VRs K ρ' F' accV acc ∧ compO g t e (wipeE env vs) n m (i + 1) acc st' = some z,
          fun H2 q => ⟨m, Nat.lt_succ_self m, q⟩, fun v H2 hy => ?_⟩
        obtain ⟨rfl, hy2⟩ := hy
        have hv := hy2 ws (SqL.of q3)
        rw [hu0] at hv
        cases hv
        split at k5
        · cases k5
        · rename_i env1 hg1
          refine ⟨ρ', F', wipeE env vs, x, env1, I'.ex, wipe_env (R1.mono T') vs, ru0, hg1, fun σ2 R2 O2 => ⟨wipe_off hT O2, ?_⟩⟩
          split at k5
          · rename_i st2 ht
            refine ⟨ρ', F', st', env1, _, I', R2, ht, true, rfl, fun ρ3 F3 H3 t3 I3 => ?_⟩
            split at k5
            · rename_i y st3 he
              refine ⟨ρ3, F3, st2, env1, _, I3, R2.mono t3, he, fun u ρ4 F4 H4 t4 I4 ru => ?_⟩
              split at k5
              · rename_i hz2
                obtain ⟨a1, a2, a3⟩ := far_step (t3.trans t4) k1 k2 k3
                have rA : VRs K ρ4 F4 accV acc := k4.mono (t3.trans t4)
                refine ⟨accV, a1, by rw [paired_len rA]; exact hz2, ?_⟩
                obtain ⟨T5, I5⟩ := Im.poke ((T'.trans t3).trans t4) I4 hD a2 a3 (.lst (accV ++ [u]))
                exact ⟨ρ4, F4, st3, accV ++ [u], acc ++ [y], T5, I5, upd_same, a2, a3, paired_append rA (.cons ru .nil), k5⟩
              · cases k5
            · cases k5
          · rename_i st2 ht
            refine ⟨ρ', F', st', env1, _, I', R2, ht, false, rfl, fun ρ3 F3 H3 t3 I3 => ?_⟩
            obtain ⟨a1, a2, a3⟩ := far_step t3 k1 k2 k3
            exact ⟨ρ3, F3, st2, accV, acc, T'.trans t3, I3, a1, a2, a3, k4.mono t3, k5⟩
          · cases k5
theorem map_bind_map {α β γ δ : Type} {x : Option α} {f : α → Option β} {g : β → γ} {o : γ} (h : (x.bind fun z => (f z).map g) = some o) : ∃ w, (x.bind f) = some w ∧ g w = o := by
  obtain ⟨z, h1, h2⟩ := Option.bind_eq_some_iff.mp h
  obtain ⟨w, h3, h4⟩ := Option.map_eq_some_iff.mp h2
  exact ⟨w, by rw [h1]; exact h3, h4⟩
theorem compS_rd {K : Kf} {mk : Mk} (hm : MkOk K mk) {a : SE} {T : List Nat} {g : Tg} {t e : SE} {vs : List Nat} (hT : ∀ i, i ∈ T → i ∈ vs) {σ : L2.St} {H : Hp} {Q : VK} (h : rdE K P E (eCompS mk a g t e vs) σ H Q) :
    tLc (iEither K (rdE K P E a)) (rdG K T g) (rdT K P E' t) (rdE K P E' e) vs σ H Q := by
  obtain ⟨ρ, F, st, env, o, I, R, h, p⟩ := h
  refine rdE_bind I R h p fun v ρ1 F1 H1 x st1 t1 I1 R1 r1 h1 p1 => ?_
  split at h1
  · cases h1
  · rename_i xs hw
    obtain ⟨w, h2, rfl⟩ := map_bind_map (δ := Unit) h1
    rcases wlk_ok I1 r1 hw with ⟨ys, b, ws, e1, rfl, g1⟩ | ⟨n, b, ys, e0, e1, _⟩
    · cases e1
      rcases g1 with ⟨q1, q2⟩ | ⟨q1, q2⟩
      · exact .inl ⟨b, rfl, ⟨ws, Evl.ex_l I1.ex q1⟩, fun D hD => compL_rd hm hT I1 R1 q2 hD h2 p1⟩
      · exact .inr ⟨b, rfl, ⟨ws, SqT.of (I1.ex _ _ q1)⟩, fun D hD => compL_rd hm hT I1 R1 q2 hD h2 p1⟩
    · cases e1
  · rename_i n m hw
    obtain ⟨w, h2, rfl⟩ := map_bind_map (δ := Unit) h1
    rcases wlk_ok I1 r1 hw with ⟨ys, b, ws, e1, rfl, g1⟩ | ⟨n', b, ys, rfl, e1, rfl, hl⟩
    · cases e1
    · cases e1
      obtain ⟨b', ws, e2, k1, k2, k3, k4⟩ := lstAt_ok I1 r1 hl
      cases e2
      exact .inl ⟨b, rfl, ⟨ws, SqL.of k3⟩, fun D hD => compO_rd hm hT I1 R1 k1 hD h2 p1⟩
variable {elt tg iter : Expr} {ifs : List Expr} {scope : Scope} {own : List (Str × Nat)} {pos : Pos} {T : List Nat} {ca : SE} {g : Tg} {ct ce : SE} {mk : Mk}
theorem e_compS (hm : MkOk X.K mk) (hc : X.calm = true) (hN : X.N.Nodup) (hi : PE X iter (rdE X.K P E ca)) (ok : BlkOk X.N X.env.scope scope own)
    (hg : ∀ (s : Shared) (H : Hp) (C : Addr) (cl : List (Str × Addr)) (fp : List Addr), PG (X.blk s H scope (compEnvC scope cl C X.env) fp) tg (rdG X.K T g)) (ht : ∀ (s : Shared) (H : Hp) (C : Addr) (cl : List (Str × Addr)) (fp : List Addr), PTs (X.blk s H scope (compEnvC scope cl C X.env) fp) ifs (rdT X.K P E' ct))
    (he : ∀ (s : Shared) (H : Hp) (C : Addr) (cl : List (Str × Addr)) (fp : List Addr), PE (X.blk s H scope (compEnvC scope cl C X.env) fp) elt (rdE X.K P E' ce)) (hT : ∀ i, i ∈ T → i ∈ own.map (·.2) := by decide) (hs : ∀ x, foldedSetIterable iter X.env x = pure x := by intro _; rfl) :
    PE X (.ListComp elt [⟨tg, iter, ifs, 0⟩] scope pos) (rdE X.K P E (eCompS mk ca g ct ce (own.map (·.2)))) := pe_weak (pe_lc hc hN (pi_either hi) ok hg ht he hs) fun σ H Q h => compS_rd hm hT h
theorem s_compS {i : Nat} {y : Str} {py spos : Pos} (hm : MkOk X.K mk) (hc : X.calm = true) (hN : X.N.Nodup) (hy : X.N[i]? = some y) (hyl : X.env.scope.names.lookup y = some .local)
    (hsw : swapsWith (.ListComp elt [⟨tg, iter, ifs, 0⟩] scope pos) (some (.Name y py)) spos.line X.env = pure true) (hi : PE X iter (rdE X.K P E ca)) (ok : BlkOk X.N X.env.scope scope own)
    (hg : ∀ (s : Shared) (H : Hp) (C : Addr) (cl : List (Str × Addr)) (fp : List Addr), PG (X.blk s H scope (compEnvC scope cl C X.env) fp) tg (rdG X.K T g)) (ht : ∀ (s : Shared) (H : Hp) (C : Addr) (cl : List (Str × Addr)) (fp : List Addr), PTs (X.blk s H scope (compEnvC scope cl C X.env) fp) ifs (rdT X.K P E' ct))
    (he : ∀ (s : Shared) (H : Hp) (C : Addr) (cl : List (Str × Addr)) (fp : List Addr), PE (X.blk s H scope (compEnvC scope cl C X.env) fp) elt (rdE X.K P E' ce)) (hT : ∀ i, i ∈ T → i ∈ own.map (·.2) := by decide) (hs : ∀ x, foldedSetIterable iter X.env x = pure x := by intro _; rfl) :
    PS X (.Assign [.Name y py] (.ListComp elt [⟨tg, iter, ifs, 0⟩] scope pos) spos) (rdS X.K P E (sAsg (eCompS mk ca g ct ce (own.map (·.2))) (gN i))) :=
  ps_weak (ps_setLc hc hN hy hyl hsw (pi_either hi) ok hg ht he hs) fun D σ H ⟨ρ, F, st, env, o, I, R, h, p⟩ => by
    refine compS_rd hm hT ?_
    refine rdE_bindS I R h p fun v ρ1 F1 H1 x st1 t1 I1 R1 r1 h1 p1 => ?_
    obtain ⟨env1, k1, k2⟩ := Option.map_eq_some_iff.mp h1
    cases k2
    cases k1
    exact p1 _ ρ1 F1 H1 (Tr.refl ..) I1 (R1.set r1)
end
end Sl
set_option Elab.async false
set_option linter.all false
set_option autoImplicit false
set_option maxRecDepth 100000
set_option maxHeartbeats 4000000
namespace Sl
open PySem PySem.Spec PyProof.Rows L2

/-! ### rising lists of ints -/
def insU (x : Int) : List Int → List Int
  | [] => [x]
  | y :: r => if x < y then x :: y :: r else if x = y then y :: r else y :: insU x r
def sortU (ns : List Int) : List Int := ns.foldr insU []
theorem mem_insU (x k : Int) : ∀ r : List Int, k ∈ insU x r ↔ k = x ∨ k ∈ r
  | [] => by simp [insU]
  | y :: r => by
    unfold insU
    split
    · simp
    · split
      · rename_i h
        subst h
        simp
      · simp only [List.mem_cons, mem_insU x k r]
        constructor
        · rintro (h | h | h)
          · exact .inr (.inl h)
          · exact .inl h
          · exact .inr (.inr h)
        · rintro (h | h | h)
          · exact .inr (.inl h)
          · exact .inl h
          · exact .inr (.inr h)
theorem mem_sortU (k : Int) : ∀ ns : List Int, k ∈ sortU ns ↔ k ∈ ns
  | [] => by simp [sortU]
  | n :: ns => by
    show k ∈ insU n (sortU ns) ↔ _
    rw [mem_insU, mem_sortU k ns, List.mem_cons]
theorem rise_insU (x : Int) : ∀ r : List Int, r.Pairwise (· < ·) → (insU x r).Pairwise (· < ·)
  | [], _ => by simp [insU]
  | y :: r, h => by
    obtain ⟨h1, h2⟩ := List.pairwise_cons.mp h
    unfold insU
    split
    · rename_i hx
      refine List.pairwise_cons.mpr ⟨fun k hk => ?_, h⟩
      rcases List.mem_cons.mp hk with rfl | hk
      · exact hx
      · exact Int.lt_trans hx (h1 k hk)
    · split
      · exact h
      · rename_i hx he
        refine List.pairwise_cons.mpr ⟨fun k hk => ?_, rise_insU x r h2⟩
        rcases (mem_insU x k r).mp hk with rfl | hk
        · omega
        · exact h1 k hk
theorem rise_sortU : ∀ ns : List Int, (sortU ns).Pairwise (· < ·)
  | [] => .nil
  | n :: ns => rise_insU n _ (rise_sortU ns)
theorem rise_ext : ∀ {xs ys : List Int}, xs.Pairwise (· < ·) → ys.Pairwise (· < ·) → (∀ k, k ∈ xs ↔ k ∈ ys) → xs = ys
  | [], [], _, _, _ => rfl
  | [], y :: ys, _, _, h => absurd ((h y).mpr List.mem_cons_self) (by simp)
  | x :: xs, [], _, _, h => absurd ((h x).mp List.mem_cons_self) (by simp)
  | x :: xs, y :: ys, a, b, h => by
    obtain ⟨a1, a2⟩ := List.pairwise_cons.mp a
    obtain ⟨b1, b2⟩ := List.pairwise_cons.mp b
    have e : x = y := by
      have h1 := (h x).mp List.mem_cons_self
      have h2 := (h y).mpr List.mem_cons_self
      rcases List.mem_cons.mp h1 with h1 | h1
      · exact h1
      · rcases List.mem_cons.mp h2 with h2 | h2
        · exact h2.symm
        · have := a1 _ h2
          have := b1 _ h1
          omega
    subst e
    refine congrArg (x :: ·) (rise_ext a2 b2 fun k => ?_)
    have hk := h k
    simp only [List.mem_cons] at hk
    constructor
    · intro h1
      rcases hk.mp (.inr h1) with e | h2
      · subst e
        exact absurd (a1 _ h1) (by omega)
      · exact h2
    · intro h1
      rcases hk.mpr (.inr h1) with e | h2
      · subst e
        exact absurd (b1 _ h1) (by omega)
      · exact h2
/-! ### set(list), sorted(set), len(set) -/
section
variable {X : Cx}
def rSetI (w : World) (K : Kf) : List V → Hp → VK → Prop := fun xs H Q => ∃ (a : Addr) (ns : List Int), xs = [.ref a] ∧ SqL K H a (ns.map V.int) ∧ ns.length + 1 < scanBound ∧
  ∀ p, H p = none → Q (.ref p) (upd H p (SetO w p (fun j => decide (j ∈ ns)) (sortU ns).length))
theorem setR_size {w : World} {h : Heap} {a : Addr} {ns : List Int} {c : Nat} (R : SetR w h a (fun j => decide (j ∈ ns)) c) : c = (sortU ns).length := by
  obtain ⟨o, es, ep, t, h1, h2, h3, h4, h5, h6, h7, h8, h9, h10⟩ := R
  have nd : (sortU ns).Nodup := (rise_sortU ns).imp fun h e => by omega
  have p : (es.toList.map keyOf).Perm (sortU ns) := (List.perm_ext_iff_of_nodup h5 nd).mpr fun k => by
    rw [← h6 k, mem_sortU]
    simp
  have q := p.length_eq
  rw [List.length_map, Array.length_toList] at q
  omega
theorem call_setI (hc : X.calm = true) : CallR X (.type "set") (rSetI X.w X.K) := by
  intro pins s σ H xs us Q I r h
  obtain ⟨a, ns, rfl, hs, hb, q⟩ := h
  rw [Vals.ref1 r]
  obtain ⟨its, rv, pl, hz⟩ := I.list hs
  refine slSet_list ns (I.ok.hd hc) pl.isList (intsAre_of rv) hb fun h2 tk c R hle kp => ?_
  have e := setR_size R
  subst e
  exact ⟨.ref _, _, I.laid (t' := tk) kp (Nat.le_refl _) (setO_new R), rfl, q _ (I.hok.fresh (Nat.le_refl _))⟩
end
def eSortSet (mk : Mk) (a : SE) : SE := fun env st => obind (a env st) fun x st1 => match asSeq st1 x with
  | some (false, ys) => (intsOf ys).bind fun ns => if ns.length < 1000 ∧ (sortU ns).length < 64 then (mk ((sortU ns).map fun i => .d (.int i)) st1).map fun z => .ok z.1 z.2 else none
  | _ => none
theorem sortU_length : ∀ ns : List Int, (sortU ns).length ≤ ns.length
  | [] => Nat.le_refl 0
  | n :: ns => by
    show (insU n (sortU ns)).length ≤ _
    have ih := sortU_length ns
    have : ∀ r : List Int, (insU n r).length ≤ r.length + 1 := by
      intro r
      induction r with
      | nil => simp [insU]
      | cons y r ih =>
        unfold insU
        split
        · simp
        · split
          · simp
          · simpa using ih
    have := this (sortU ns)
    simp only [List.length_cons]
    omega
section
variable {X : Cx} {P : Par} {E : XK} {a : Expr} {ca : SE} {p1 p2 p3 p4 : Pos}
theorem e_sortSet {mk : Mk} (hm : MkOk X.K mk) (hc : X.calm = true) (hg : Gl X (Str.ofString "sorted")) (hm1 : X.mg (Str.ofString "sorted") = none) (hg2 : Gl X (Str.ofString "set")) (hm2 : X.mg (Str.ofString "set") = none) (ha : PE X a (rdE X.K P E ca))
    (he : starEach [a] X.env = (false, eval a X.env) :: starEach [] X.env := by rfl) (hpl : (backTo p2 (starEach [] X.env)).any (·.1) = false := by rfl)
    (he2 : starEach [.Call (.Name (Str.ofString "set") p1) [a] [] p2] X.env = (false, eval (.Call (.Name (Str.ofString "set") p1) [a] [] p2) X.env) :: starEach [] X.env := by rfl) (hpl2 : (backTo p4 (starEach [] X.env)).any (·.1) = false := by rfl) :
    PE X (.Call (.Name (Str.ofString "sorted") p3) [.Call (.Name (Str.ofString "set") p1) [a] [] p2] [] p4) (rdE X.K P E (eSortSet mk ca)) :=
  pe_weak (pe_callB (cr_sortedSet hc) hg hm1 boot_sorted (pa_cons (pe_callTy (call_setI hc) hg2 hm2 boot_set (pa_cons ha pa_nil he) (by decide) (by decide) he hpl) pa_nil he2) (by decide) (by decide) he2 hpl2) fun σ H Q ⟨ρ, F, st, env, o, I, R, h, p⟩ => by
    refine rdE_bind I R h p fun v ρ1 F1 H1 x st1 t1 I1 R1 r1 h1 p1 => ?_
    split at h1
    · rename_i ys hy
      obtain ⟨ns, h2, h3⟩ := Option.bind_eq_some_iff.mp h1
      split at h3
      · rename_i hl
        obtain ⟨z, h4, h5⟩ := Option.map_eq_some_iff.mp h3
        subst h5
        obtain ⟨b, ws, rfl, g1, g2, g3⟩ := asSeq_ok I1 r1 hy
        have e := intsOf_ok g3 h2
        subst e
        have hs := g1 rfl
        refine ⟨b, ns, rfl, hs, by have := hl.1; unfold scanBound; omega, fun q hq => ?_⟩
        obtain ⟨t2, I2⟩ := junk I1 hq (SetO X.w q (fun j => decide (j ∈ ns)) (sortU ns).length)
        refine ⟨q, _, _, rfl, upd_same, hl.2, fun ms p' hr hmem hlen hp' => ?_⟩
        have e : ms = sortU ns := rise_ext hr (rise_sortU ns) fun k => by
          rw [hmem k, mem_sortU]
          simp
        subst e
        obtain ⟨ρ', F', t, I', r'⟩ := hm.run I2 hp' (vrs_ints _) h4
        exact p1 _ ρ' F' _ (t2.trans t) I' r'
      · cases h3
    · cases h1
/-- len(set(xs)) -/
def rLenSet (w : World) : List V → Hp → VK → Prop := fun vs H Q => ∃ (a : Addr) (S : Int → Bool) (n : Nat), vs = [V.ref a] ∧ H a = some (SetO w a S n) ∧ n < scanBound ∧ Q (.int n) H
theorem call_lenSet : CallR X (.builtin "len") (rLenSet X.w) := by
  intro pins s σ H vs us Q I r h
  obtain ⟨a, S, n, rfl, ha, hn, q⟩ := h
  rw [Vals.ref1 r]
  obtain ⟨o, es, ep, t, ho, hex, hd, _, _, _, hb, hf, hsz, _⟩ := setO_get I ha
  subst hsz
  refine call_len_set ho hex hd hf (by unfold scanBound at hn; omega) ⟨.int es.size, H, I.tok _, ⟨_, rfl⟩, q⟩
def eLenSet (a : SE) : SE := fun env st => obind (a env st) fun x st1 => match asSeq st1 x with
  | some (false, ys) => (intsOf ys).bind fun ns => if ns.length < 1000 then some (.ok (.d (.int (sortU ns).length)) st1) else none
  | _ => none
theorem e_lenSet (hc : X.calm = true) (hg : Gl X (Str.ofString "len")) (hm1 : X.mg (Str.ofString "len") = none) (hg2 : Gl X (Str.ofString "set")) (hm2 : X.mg (Str.ofString "set") = none) (ha : PE X a (rdE X.K P E ca))
    (he : starEach [a] X.env = (false, eval a X.env) :: starEach [] X.env := by rfl) (hpl : (backTo p2 (starEach [] X.env)).any (·.1) = false := by rfl)
    (he2 : starEach [.Call (.Name (Str.ofString "set") p1) [a] [] p2] X.env = (false, eval (.Call (.Name (Str.ofString "set") p1) [a] [] p2) X.env) :: starEach [] X.env := by rfl) (hpl2 : (backTo p4 (starEach [] X.env)).any (·.1) = false := by rfl) :
    PE X (.Call (.Name (Str.ofString "len") p3) [.Call (.Name (Str.ofString "set") p1) [a] [] p2] [] p4) (rdE X.K P E (eLenSet ca)) :=
  pe_weak (pe_callB call_lenSet hg hm1 PySem.boot_len (pa_cons (pe_callTy (call_setI hc) hg2 hm2 boot_set (pa_cons ha pa_nil he) (by decide) (by decide) he hpl) pa_nil he2) (by decide) (by decide) he2 hpl2) fun σ H Q ⟨ρ, F, st, env, o, I, R, h, p⟩ => by
    refine rdE_bind I R h p fun v ρ1 F1 H1 x st1 t1 I1 R1 r1 h1 p1 => ?_
    split at h1
    · rename_i ys hy
      obtain ⟨ns, h2, h3⟩ := Option.bind_eq_some_iff.mp h1
      split at h3
      · rename_i hl
        cases h3
        obtain ⟨b, ws, rfl, g1, g2, g3⟩ := asSeq_ok I1 r1 hy
        have e := intsOf_ok g3 h2
        subst e
        have hs := g1 rfl
        refine ⟨b, ns, rfl, hs, by unfold scanBound; omega, fun q hq => ?_⟩
        obtain ⟨t2, I2⟩ := junk I1 hq (SetO X.w q (fun j => decide (j ∈ ns)) (sortU ns).length)
        exact ⟨q, _, _, rfl, upd_same, by have := sortU_length ns; unfold scanBound; omega, p1 _ ρ1 F1 _ t2 I2 (.int _)⟩
      · cases h3
    · cases h1
end
end Sl
set_option Elab.async false
set_option linter.all false
set_option autoImplicit false
set_option maxRecDepth 100000
set_option maxHeartbeats 4000000
/-! sorted of lists of two ints -/
namespace SrtO
open PySem PyProof.Rows Srt
section
variable {prog : Program} {w : World} {A : Around} {E : Value → Shared → Prop} {s : Shared}
/-- a list of two ints -/
def IsPairL (h : Heap) (v : Value) (x y : Int) : Prop := ∃ (a : Addr) (t u : Tok), v = .ref a ∧ h.IsList a #[.int x t, .int y u]
theorem IsPairL.keeps {h h' : Heap} {v : Value} {x y : Int} (p : IsPairL h v x y) (k : ∀ b o, v = .ref b → h.get? b = some o → h'.get? b = some o) : IsPairL h' v x y := by
  obtain ⟨a, t, u, e, o, ho, r⟩ := p
  exact ⟨a, t, u, e, o, k _ _ e ho, r⟩
theorem listPair_cmp {vs : List Value} {k : Value → Int × Int} (hu : A.units + 1 < cLine) (hp : ∀ v ∈ vs, IsPairL s.heap v (k v).1 (k v).2) : Cmp prog w A s oneType' (fun p => p.1 ∈ vs) (lt2 fun v u => lexB (k v) (k u)) := by
  intro p q hm hm'
  have h1 := hp _ hm
  have h2 := hp _ hm'
  show wpAny (model prog w) A (keyLt' oneType' p.1 q.1) (fun r s' => s' = s ∧ r = lexB (k p.1) (k q.1)) (fun _ _ => False) s
  generalize (k p.1) = kp at h1 ⊢
  generalize (k q.1) = kq at h2 ⊢
  obtain ⟨a, t, u, e, hl⟩ := h1
  obtain ⟨b, t', u', e', hb⟩ := h2
  rw [e, e', keyLt'_oneType, oneLt'_eq]
  simp only [if_true]
  refine wpAny_bind (wpAny_cRoomFor (by omega) ?_)
  obtain ⟨o, ho, hc, hd⟩ := id hl
  have hT : s.TypeIs (.ref a) "list" := ⟨o, ho, hc⟩
  refine wpAny_bind (wpAny_callSpecialIfBound?_slot hT PySem.F.slot_list_lt ?_)
  refine PySem.SeqAt.call_list_lt (e := fun j => if j = 0 then kp.1 == kq.1 else kp.2 == kq.2) (r := fun j => if j = 0 then decide (kp.1 < kq.1) else decide (kp.2 < kq.2)) hl hb (fun j j1 j2 => ?_) (fun j j1 j2 hn => ?_) ?_
  · match j, j1 with
    | 0, _ => exact SeqAt.EqAt.int_int _ _ _ _
    | 1, _ => exact SeqAt.EqAt.int_int _ _ _ _
  · intro prog' w' E' Q' hq
    match j, j1 with
    | 0, _ => exact PyProof.Rows.lt_int hq
    | 1, _ => exact PyProof.Rows.lt_int hq
  · refine wpAny_truthy_bool ⟨rfl, ?_⟩
    show PySem.SeqAt.firstLt _ _ _ [0, 1] = _
    unfold lexB
    by_cases h0 : kp.1 = kq.1
    · rw [PySem.SeqAt.firstLt_yes (by simp [h0]), if_pos h0]
      by_cases h1 : kp.2 = kq.2
      · rw [PySem.SeqAt.firstLt_yes (by simp [h1])]
        simp [PySem.SeqAt.firstLt, h1]
      · rw [PySem.SeqAt.firstLt_no (by simp [h1])]
        simp
    · rw [PySem.SeqAt.firstLt_no (by simp [h0]), if_neg h0]
      simp
theorem listPair_kind {vs : List Value} {k : Value → Int × Int} {Q : SortKind → Shared → Prop} (h2 : 2 ≤ vs.length) (hp : ∀ v ∈ vs, IsPairL s.heap v (k v).1 (k v).2) (hq : Q oneType' s) : wpAny (model prog w) A (keyKind' vs.toArray) Q E s := by
  have hty : ∀ v ∈ vs, s.TypeIs v "list" := fun v hv => by
    obtain ⟨a, t, u, e, o, ho, hc, _⟩ := hp v hv
    exact e ▸ ⟨o, ho, hc⟩
  rw [keyKind'_eq, List.mapM_toArray, map_eq_pure_bind]
  refine wpAny_bind (wpAny_bind (PySem.W.kas_mapM (r := none) _ (fun v hv Q' hq' => ?_) (wpAny_pure ?_)))
  · show wpAny _ _ (do
      if (← typeOf v) != .type "tuple" then return none
      return (← Builtin.List.listItems v)[0]?) _ _ _
    refine wpAny_bind (wpAny_typeOf (hty v hv) ?_)
    rw [if_pos (by decide)]
    exact wpAny_pure hq'
  · rw [if_neg (by
      match vs, h2 with
      | v1 :: v2 :: r, _ => simp)]
    rw [if_neg (by
      match vs, h2 with
      | v1 :: v2 :: r, _ => simp)]
    rw [oneTypeOnly'_eq, List.mapM_toArray, map_eq_pure_bind]
    refine wpAny_bind (wpAny_bind (wpAny_bind (PySem.W.kas_mapM (r := Value.type "list") _ (fun v hv Q' hq' => wpAny_typeOf (hty v hv) hq') (wpAny_pure ?_))))
    have hall : ((List.map (fun _ => Value.type "list") vs).toArray.all fun x => x == Value.type "list") = true := by
      simp only [List.all_toArray, List.all_map, List.all_eq_true]
      intro _ _
      rfl
    have h0 : (List.map (fun _ => Value.type "list") vs).toArray[0]? = some (Value.type "list") := by
      match vs, h2 with
      | v1 :: v2 :: r, _ => simp
    rw [h0]
    simp only [hall, if_true]
    exact wpAny_pure (wpAny_pure hq)
end
end SrtO
namespace Sl
open PySem PySem.Spec PyProof.Rows L2
theorem isPairL_fun {h : Heap} {v : Value} {p q : Int × Int} (a : SrtO.IsPairL h v p.1 p.2) (b : SrtO.IsPairL h v q.1 q.2) : p = q := by
  obtain ⟨t, t1, t2, e, o, ho, _, n, hd⟩ := a
  obtain ⟨t', t1', t2', e', o', ho', _, n', hd'⟩ := b
  cases e.symm.trans e'
  have eo := Option.some.inj (ho.symm.trans ho')
  have hd2 := hd'
  rw [← eo] at hd2
  have z := hd.symm.trans hd2
  obtain ⟨p1, p2⟩ := p
  obtain ⟨q1, q2⟩ := q
  simp at z
  obtain ⟨⟨⟨a1, _⟩, a2, _⟩, _⟩ := z
  exact Prod.ext a1 a2
open Classical in
noncomputable def kH (h : Heap) (v : Value) : Int × Int := if c : ∃ p : Int × Int, SrtO.IsPairL h v p.1 p.2 then c.choose else (0, 0)
theorem kH_eq {h : Heap} {v : Value} {p : Int × Int} (a : SrtO.IsPairL h v p.1 p.2) : kH h v = p := by
  unfold kH
  have c : ∃ p : Int × Int, SrtO.IsPairL h v p.1 p.2 := ⟨p, a⟩
  rw [dif_pos c]
  exact isPairL_fun c.choose_spec a
/-- the order of pairs -/
def leP (p q : Int × Int) : Prop := p.1 < q.1 ∨ (p.1 = q.1 ∧ p.2 ≤ q.2)
instance (p q : Int × Int) : Decidable (leP p q) := by unfold leP; exact inferInstance
/-- sorted(xs), xs a list of lists of two ints -/
def rSortedLP (K : Kf) : List V → Hp → VK → Prop := fun vs H Q => ∃ (a : Addr) (xs : List V) (ps : List (Int × Int)), vs = [V.ref a] ∧ SqL K H a xs ∧ Paired (fun x p => ∃ t, x = V.ref t ∧ SqL K H t [.int p.1, .int p.2]) xs ps ∧
  ∀ (zs : List (V × Int × Int)) p, zs.Perm (xs.zip ps) → (zs.map (·.2)).Pairwise leP → H p = none → Q (.ref p) (upd H p (.lst (zs.map (·.1))))
theorem zip_map {α β γ : Type} {f : γ → α} {g : γ → β} : ∀ l : List γ, (l.map f).zip (l.map g) = l.map fun x => (f x, g x)
  | [] => rfl
  | x :: l => congrArg ((f x, g x) :: ·) (zip_map l)
theorem cr_sortedLP {X : Cx} (hu : X.A.units + 8 < cLine) : CallR X (.builtin "sorted") (rSortedLP X.K) := by
  intro pins s σ H vs us Q I r h
  obtain ⟨a, xs, ps, rfl, hs, hx, q⟩ := h
  obtain ⟨its, rv, hl, hz⟩ := I.list hs
  obtain ⟨u, rfl, ru⟩ := vals1 r
  obtain rfl : u = Value.ref a := ru
  have hp0 : ∀ {xs : List V} {ps : List (Int × Int)} {its : List Value}, Vals xs its → Paired (fun x p => ∃ t, x = V.ref t ∧ SqL X.K H t [.int p.1, .int p.2]) xs ps →
      xs = its.map backV ∧ ps = its.map (kH s.heap) ∧ ∀ v ∈ its, ∃ t, v = Value.ref t ∧ SrtO.IsPairL s.heap v (kH s.heap v).1 (kH s.heap v).2 := by
    intro xs ps its rv
    induction rv generalizing ps with
    | nil =>
      intro h
      cases h
      exact ⟨rfl, rfl, fun _ h => nomatch h⟩
    | cons r0 rs ih =>
      intro h
      cases h with
      | cons r1 r2 =>
        rename_i x v xs' vs' p ps'
        obtain ⟨e1, e2, e3⟩ := ih r2
        obtain ⟨t, rfl, ht⟩ := r1
        obtain rfl : v = Value.ref t := r0
        obtain ⟨its2, r2, l2, _⟩ := I.list ht
        obtain ⟨u1, u2, rfl, ri, rj⟩ := vals2 r2
        obtain ⟨t1, rfl⟩ := ri
        obtain ⟨t2, rfl⟩ := rj
        have z : SrtO.IsPairL s.heap (.ref t) p.1 p.2 := ⟨t, t1, t2, rfl, l2.isList⟩
        have ek := kH_eq z
        refine ⟨by rw [e1]; rfl, by rw [List.map_cons, ek, e2], fun v hv => ?_⟩
        rcases List.mem_cons.mp hv with e | hv
        · subst e
          rw [ek]
          exact ⟨t, rfl, z⟩
        · exact e3 v hv
  obtain ⟨e1, e2, e3⟩ := hp0 rv hx
  have hp : ∀ v ∈ its, SrtO.IsPairL s.heap v (kH s.heap v).1 (kH s.heap v).2 := fun v hv => by
    obtain ⟨_, _, z⟩ := e3 v hv
    exact z
  refine SrtO.sorted_ord (SrtO.swo_lex fun u => kH s.heap u) hl.isList (by rw [← rv.length]; exact hz) (fun h2 h₁ a' ha kk => ?_) fun out h1 h2 => ?_
  · intro h' keep
    have hp' : ∀ v ∈ its, SrtO.IsPairL h' v (kH s.heap v).1 (kH s.heap v).2 := fun v hv => (hp v hv).keeps fun b o _ e => keep b o (kk b o e).1 (kk b o e).2
    refine ⟨PyProof.Rows.oneType', fun Q' E' hq => SrtO.listPair_kind (s := { s with heap := h' }) h2 hp' hq, SrtO.listPair_cmp (s := { s with heap := h' }) ?_ hp'⟩
    show X.A.in1.in1.units + 1 < cLine
    have e : X.A.in1.in1.units ≤ X.A.units + 2 := by first | exact Nat.le_refl _ | (simp [Around.in1]) | omega
    omega
  · have h3 : ∀ u ∈ out, ∃ a, u = Value.ref a := fun u hu => by
      obtain ⟨t, z, _⟩ := e3 u (h2.perm.mem_iff.mp hu)
      exact ⟨t, z⟩
    obtain ⟨n, hn⟩ := PyProof.Rows.sortedAll_at s.heap its out.toArray
    have hb : (out.map fun u => (backV u, kH s.heap u)).Perm (xs.zip ps) := by
      rw [e1, e2, zip_map]
      exact h2.perm.map _
    have hm : (out.map fun u => (backV u, kH s.heap u)).map (·.1) = out.map backV := by rw [List.map_map]; rfl
    have hk : (out.map fun u => (backV u, kH s.heap u)).map (·.2) = out.map (kH s.heap) := by rw [List.map_map]; rfl
    have q' := q _ (s.heap.objs.size + 1) hb (by
      rw [hk]
      exact List.pairwise_map.mpr (h1.imp fun {x y} h => by
        have z := SrtO.lexB_no.mp h
        unfold leP
        omega)) (I.hok.fresh (Nat.le_succ _))
    rw [hm] at q'
    refine ⟨.ref (s.heap.objs.size + 1), upd H (s.heap.objs.size + 1) (.lst (out.map backV)), I.laid (t' := s.toks) (fun b o e => PyProof.Rows.sortedAll_old e) (Nat.le_succ _) ⟨?_, out, n, vals_back h3, hn⟩, rfl, q'⟩
    have e := h2.perm.length_eq
    rw [List.length_map, e]
    rw [e1, List.length_map] at hz
    exact hz
def sortP (ps : List (Int × Int)) : List (Int × Int) := ps.mergeSort fun a b => decide (leP a b)
theorem sortP_perm (ps : List (Int × Int)) : (sortP ps).Perm ps := List.mergeSort_perm _ _
theorem sortP_rises (ps : List (Int × Int)) : (sortP ps).Pairwise leP := by
  have h := List.pairwise_mergeSort (le := fun a b : Int × Int => decide (leP a b)) (fun a b c h1 h2 => by
    have a := of_decide_eq_true h1
    have b := of_decide_eq_true h2
    refine decide_eq_true ?_
    unfold leP at *
    omega) (fun a b => by
    simp only [Bool.or_eq_true, decide_eq_true_eq]
    unfold leP
    omega) ps
  exact h.imp fun h => of_decide_eq_true h
theorem sortP_only {ns ms : List (Int × Int)} (hp : ms.Perm ns) (hs : ms.Pairwise leP) : ms = sortP ns := by
  refine List.Perm.eq_of_pairwise (le := leP) (fun a b _ _ h1 h2 => ?_) hs (sortP_rises ns) (hp.trans (sortP_perm ns).symm)
  unfold leP at h1 h2
  exact Prod.ext (by omega) (by omega)
def pairsD : List VL → Option (List (Int × Int))
  | [] => some []
  | .d (.list [.int i, .int j]) :: r => (pairsD r).map ((i, j) :: ·)
  | _ => none
def pairD (p : Int × Int) : VL := .d (.list [.int p.1, .int p.2])
def cSortedP (mk : Mk) : OpC := fun st xs => match xs with
  | [x] => match asSeq st x with
    | some (false, ys) => (pairsD ys).bind fun ps => mk ((sortP ps).map pairD) st
    | _ => none
  | _ => none
theorem pairsD_eq : ∀ {ys : List VL} {ps : List (Int × Int)}, pairsD ys = some ps → ys = ps.map pairD
  | [], _, h => by cases h; rfl
  | x :: r, ps, h => by
    unfold pairsD at h
    split at h
    · rename_i e
      cases e
    · rename_i i j r' e
      cases e
      obtain ⟨qs, e1, rfl⟩ := Option.map_eq_some_iff.mp h
      rw [List.map_cons, pairsD_eq e1]
      rfl
    · cases h
section
variable {K : Kf}
theorem pairs_of {ρ : List Addr} {F H : Hp} (e : Evl.Ex F H) : ∀ {vs : List V} {ps : List (Int × Int)}, VRs K ρ F vs (ps.map pairD) → Paired (fun x p => ∃ t, x = V.ref t ∧ SqL K H t [.int p.1, .int p.2]) vs ps
  | _, [], h => by
    cases h
    exact .nil
  | _, p :: ps, h => by
    cases h with
    | cons r rs =>
      refine .cons ?_ (pairs_of e rs)
      have r' : Dq K F _ (.list [.int p.1, .int p.2]) := r
      cases r' with
      | lst s a =>
        cases a with
        | cons a1 a2 =>
          cases a2 with
          | cons a3 a4 =>
            cases a4
            cases a1
            cases a3
            exact ⟨_, rfl, Evl.ex_l e s⟩
theorem zip_mem {ρ : List Addr} {F : Hp} : ∀ {vs : List V} {ps : List (Int × Int)}, VRs K ρ F vs (ps.map pairD) → ∀ z ∈ vs.zip ps, VR K ρ F z.1 (pairD z.2)
  | _, [], h, z, hz => by
    cases h
    cases hz
  | _, p :: ps, h, z, hz => by
    cases h with
    | cons r rs =>
      rcases List.mem_cons.mp hz with e | hz
      · subst e
        exact r
      · exact zip_mem rs z hz
theorem vrs_zip {ρ : List Addr} {F : Hp} : ∀ zs : List (V × Int × Int), (∀ z ∈ zs, VR K ρ F z.1 (pairD z.2)) → VRs K ρ F (zs.map (·.1)) ((zs.map (·.2)).map pairD)
  | [], _ => .nil
  | z :: zs, h => .cons (h z List.mem_cons_self) (vrs_zip zs fun y hy => h y (List.mem_cons_of_mem _ hy))
theorem zip_snd {α β : Type} : ∀ {xs : List α} {ys : List β}, xs.length = ys.length → (xs.zip ys).map (·.2) = ys
  | [], [], _ => rfl
  | _ :: _, _ :: _, h => congrArg _ (zip_snd (Nat.succ.inj h))
theorem pr_sortedP {mk : Mk} (hm : MkOk K mk) : PrC K (rSortedLP K) (cSortedP mk) where
  run := fun {P ρ F H st st' vs xs z Q} I r h q => by
    unfold cSortedP at h
    split at h
    · rename_i x
      obtain ⟨v, rfl, rx⟩ := vrs1 r
      split at h
      · rename_i ys e
        obtain ⟨ps, h1, h2⟩ := Option.bind_eq_some_iff.mp h
        obtain ⟨a, ws, rfl, e1, _, e3⟩ := (asSeq_ok I rx e).ex
        have e1 := e1 rfl
        obtain rfl := pairsD_eq h1
        refine ⟨a, ws, ps, rfl, e1, pairs_of I.ex e3, fun zs p hp hs hn => ?_⟩
        have hlen : ws.length = ps.length := by
          have := paired_len e3
          rw [List.length_map] at this
          exact this
        have e5 : zs.map (·.2) = sortP ps := by
          refine sortP_only ?_ hs
          have := hp.map (·.2)
          rw [zip_snd hlen] at this
          exact this
        have r2 : VRs K ρ F (zs.map (·.1)) ((sortP ps).map pairD) := by
          rw [← e5]
          exact vrs_zip zs fun z hz => zip_mem e3 z (hp.mem_iff.mp hz)
        obtain ⟨ρ', F', t, I', r'⟩ := hm.run I hn r2 h2
        exact q _ _ _ _ t I' r'
      · cases h
    · cases h
end
/-! ### names of built-ins, lengths of argument lists -/
theorem bt_len : bootBuiltins "len" = some (.builtin "len") := by decide +kernel
theorem bt_sorted : bootBuiltins "sorted" = some (.builtin "sorted") := by decide +kernel
theorem bt_abs : bootBuiltins "abs" = some (.builtin "abs") := by decide +kernel
theorem bt_int : bootBuiltins "int" = some (.type "int") := by decide +kernel
theorem bt_bool : bootBuiltins "bool" = some (.type "bool") := by decide +kernel
theorem bt_str : bootBuiltins "str" = some (.type "str") := by decide +kernel
theorem bt_list : bootBuiltins "list" = some (.type "list") := by decide +kernel
theorem bt_tuple : bootBuiltins "tuple" = some (.type "tuple") := by decide +kernel
theorem bt_dict : bootBuiltins "dict" = some (.type "dict") := by decide +kernel
theorem alen_nil (env : Env) (st : Sto) (xs : List VL) (st1 : Sto) (h : aNil env st = some (.ok xs st1)) : xs.length = 0 := by
  cases h
  rfl
theorem alen_cons {c : SE} {cs : SL} {n : Nat} (h : ∀ env st xs st1, cs env st = some (.ok xs st1) → xs.length = n) (env : Env) (st : Sto) (xs : List VL) (st1 : Sto) (e : aCons c cs env st = some (.ok xs st1)) : xs.length = n + 1 := by
  unfold aCons at e
  split at e
  · cases e
  · cases e
  · split at e
    · cases e
    · cases e
    · rename_i rs st2 e2
      cases e
      rw [List.length_cons, h _ _ _ _ e2]
theorem room8 {A : Around} {k : Nat} (h : Room k A) : A.units + 8 < cLine := by
  have := h.units
  omega
end Sl
namespace Sl
open PySem PySem.Spec PyProof.Rows L2
section
variable {X : Cx} {P : Par} {E E' : XK}
variable {elt tg iter : Expr} {ifs : List Expr} {scope : Scope} {own : List (Str × Nat)} {vs : List Nat} {pos : Pos} {T : List Nat} {it : SI} {ca : SE} {g : Tg} {ct ce : SE} {mk : Mk}
theorem e_compV (hm : MkOk X.K mk) (hc : X.calm = true) (hN : X.N.Nodup) (hi : PI X tg iter (rdI X.K P E it)) (ok : BlkOk X.N X.env.scope scope own)
    (hg : ∀ (s : Shared) (H : Hp) (C : Addr) (cl : List (Str × Addr)) (fp : List Addr), PG (X.blk s H scope (compEnvC scope cl C X.env) fp) tg (rdG X.K T g)) (ht : ∀ (s : Shared) (H : Hp) (C : Addr) (cl : List (Str × Addr)) (fp : List Addr), PTs (X.blk s H scope (compEnvC scope cl C X.env) fp) ifs (rdT X.K P E' ct))
    (he : ∀ (s : Shared) (H : Hp) (C : Addr) (cl : List (Str × Addr)) (fp : List Addr), PE (X.blk s H scope (compEnvC scope cl C X.env) fp) elt (rdE X.K P E' ce)) (hv : own.map (·.2) = vs := by rfl) (hT : ∀ i, i ∈ T → i ∈ own.map (·.2) := by decide) (hs : ∀ x, foldedSetIterable iter X.env x = pure x := by intro _; rfl) :
    PE X (.ListComp elt [⟨tg, iter, ifs, 0⟩] scope pos) (rdE X.K P E (eComp mk it g ct ce vs)) := by
  subst hv
  exact e_comp hm hc hN hi ok hg ht he hT hs
theorem e_compSV (hm : MkOk X.K mk) (hc : X.calm = true) (hN : X.N.Nodup) (hi : PE X iter (rdE X.K P E ca)) (ok : BlkOk X.N X.env.scope scope own)
    (hg : ∀ (s : Shared) (H : Hp) (C : Addr) (cl : List (Str × Addr)) (fp : List Addr), PG (X.blk s H scope (compEnvC scope cl C X.env) fp) tg (rdG X.K T g)) (ht : ∀ (s : Shared) (H : Hp) (C : Addr) (cl : List (Str × Addr)) (fp : List Addr), PTs (X.blk s H scope (compEnvC scope cl C X.env) fp) ifs (rdT X.K P E' ct))
    (he : ∀ (s : Shared) (H : Hp) (C : Addr) (cl : List (Str × Addr)) (fp : List Addr), PE (X.blk s H scope (compEnvC scope cl C X.env) fp) elt (rdE X.K P E' ce)) (hv : own.map (·.2) = vs := by rfl) (hT : ∀ i, i ∈ T → i ∈ own.map (·.2) := by decide) (hs : ∀ x, foldedSetIterable iter X.env x = pure x := by intro _; rfl) :
    PE X (.ListComp elt [⟨tg, iter, ifs, 0⟩] scope pos) (rdE X.K P E (eCompS mk ca g ct ce vs)) := by
  subst hv
  exact e_compS hm hc hN hi ok hg ht he hT hs
variable {i : Nat} {y : Str} {py spos : Pos}
theorem s_compV (hm : MkOk X.K mk) (hc : X.calm = true) (hN : X.N.Nodup) (hy : X.N[i]? = some y) (hyl : X.env.scope.names.lookup y = some .local)
    (hsw : swapsWith (.ListComp elt [⟨tg, iter, ifs, 0⟩] scope pos) (some (.Name y py)) spos.line X.env = pure true) (hi : PI X tg iter (rdI X.K P E it)) (ok : BlkOk X.N X.env.scope scope own)
    (hg : ∀ (s : Shared) (H : Hp) (C : Addr) (cl : List (Str × Addr)) (fp : List Addr), PG (X.blk s H scope (compEnvC scope cl C X.env) fp) tg (rdG X.K T g)) (ht : ∀ (s : Shared) (H : Hp) (C : Addr) (cl : List (Str × Addr)) (fp : List Addr), PTs (X.blk s H scope (compEnvC scope cl C X.env) fp) ifs (rdT X.K P E' ct))
    (he : ∀ (s : Shared) (H : Hp) (C : Addr) (cl : List (Str × Addr)) (fp : List Addr), PE (X.blk s H scope (compEnvC scope cl C X.env) fp) elt (rdE X.K P E' ce)) (hv : own.map (·.2) = vs := by rfl) (hT : ∀ i, i ∈ T → i ∈ own.map (·.2) := by decide) (hs : ∀ x, foldedSetIterable iter X.env x = pure x := by intro _; rfl) :
    PS X (.Assign [.Name y py] (.ListComp elt [⟨tg, iter, ifs, 0⟩] scope pos) spos) (rdS X.K P E (sAsg (eComp mk it g ct ce vs) (gN i))) := by
  subst hv
  exact s_comp hm hc hN hy hyl hsw hi ok hg ht he hT hs
theorem s_compSV (hm : MkOk X.K mk) (hc : X.calm = true) (hN : X.N.Nodup) (hy : X.N[i]? = some y) (hyl : X.env.scope.names.lookup y = some .local)
    (hsw : swapsWith (.ListComp elt [⟨tg, iter, ifs, 0⟩] scope pos) (some (.Name y py)) spos.line X.env = pure true) (hi : PE X iter (rdE X.K P E ca)) (ok : BlkOk X.N X.env.scope scope own)
    (hg : ∀ (s : Shared) (H : Hp) (C : Addr) (cl : List (Str × Addr)) (fp : List Addr), PG (X.blk s H scope (compEnvC scope cl C X.env) fp) tg (rdG X.K T g)) (ht : ∀ (s : Shared) (H : Hp) (C : Addr) (cl : List (Str × Addr)) (fp : List Addr), PTs (X.blk s H scope (compEnvC scope cl C X.env) fp) ifs (rdT X.K P E' ct))
    (he : ∀ (s : Shared) (H : Hp) (C : Addr) (cl : List (Str × Addr)) (fp : List Addr), PE (X.blk s H scope (compEnvC scope cl C X.env) fp) elt (rdE X.K P E' ce)) (hv : own.map (·.2) = vs := by rfl) (hT : ∀ i, i ∈ T → i ∈ own.map (·.2) := by decide) (hs : ∀ x, foldedSetIterable iter X.env x = pure x := by intro _; rfl) :
    PS X (.Assign [.Name y py] (.ListComp elt [⟨tg, iter, ifs, 0⟩] scope pos) spos) (rdS X.K P E (sAsg (eCompS mk ca g ct ce vs) (gN i))) := by
  subst hv
  exact s_compS hm hc hN hy hyl hsw hi ok hg ht he hT hs
end
end Sl
set_option Elab.async false
set_option linter.all false
set_option autoImplicit false
set_option maxRecDepth 100000
set_option maxHeartbeats 1000000
/-! reading the combinators: loops, comprehensions, dicts, new objects forgotten -/
namespace Sl
open PySem PySem.Spec PyProof.Rows L2

/-! ### loops -/
/-- what a turn's end means: go on | the loop's end -/
def turnTo (N : Env → Sto → Prop) (R : Fl → Prop) : Fl → Prop
  | .nx e s => N e s
  | .ct e s => N e s
  | .bk e s => R (.nx e s)
  | .rt r s => R (.rt r s)
  | .ex c fs s => R (.ex c fs s)
theorem forL_wp {g : Tg} {body : SS} (I : List VL → Env → Sto → Prop) {R : Fl → Prop} (step : ∀ x xs env st, I (x :: xs) env st → ∃ e1 o, g x env = some e1 ∧ body e1 st = some o ∧ turnTo (I xs) R o) (fin : ∀ env st, I [] env st → R (.nx env st)) :
    ∀ (xs : List VL) (env : Env) (st : Sto), I xs env st → ∃ o, forL g body xs env st = some o ∧ R o
  | [], env, st, h => ⟨_, rfl, fin env st h⟩
  | x :: xs, env, st, h => by
    obtain ⟨e1, o, h1, h2, h3⟩ := step x xs env st h
    unfold forL
    rw [h1]
    dsimp only
    rw [h2]
    cases o with
    | nx e s => exact forL_wp I step fin xs e s h3
    | ct e s => exact forL_wp I step fin xs e s h3
    | bk e s => exact ⟨_, rfl, h3⟩
    | rt r s => exact ⟨_, rfl, h3⟩
    | ex c fs s => exact ⟨_, rfl, h3⟩
/-- over things of Lean: a fold that may end early -/
theorem forL_fold {α σ : Type} {g : Tg} {body : SS} (v : α → VL) (f : σ → α → Option σ) (enc : σ → Env → Sto → Prop) {R : Fl → Prop} {xs : List α}
    (step : ∀ s a env st, a ∈ xs → enc s env st → ∃ e1 o, g (v a) env = some e1 ∧ body e1 st = some o ∧ (match f s a with
      | some s' => ∃ e' st', (o = .nx e' st' ∨ o = .ct e' st') ∧ enc s' e' st'
      | none => R o ∧ ∀ e' st', o ≠ .nx e' st' ∧ o ≠ .ct e' st' ∧ o ≠ .bk e' st')) :
    ∀ (s : σ) (env : Env) (st : Sto), enc s env st → ∃ o, forL g body (xs.map v) env st = some o ∧ (match xs.foldlM f s with
      | some s' => ∃ e' st', o = .nx e' st' ∧ enc s' e' st'
      | none => R o) := by
  induction xs with
  | nil => exact fun s env st h => ⟨_, rfl, _, _, rfl, h⟩
  | cons a xs ih =>
    intro s env st h
    obtain ⟨e1, o, h1, h2, h3⟩ := step s a env st List.mem_cons_self h
    rw [List.map_cons, List.foldlM_cons]
    unfold forL
    rw [h1]
    dsimp only
    rw [h2]
    cases hf : f s a with
    | some s' =>
      rw [hf] at h3
      obtain ⟨e', st', h4, h5⟩ := h3
      obtain ⟨o', k1, k2⟩ := ih (fun s a env st ha => step s a env st (List.mem_cons_of_mem _ ha)) s' e' st' h5
      rcases h4 with rfl | rfl
      · exact ⟨o', k1, k2⟩
      · exact ⟨o', k1, k2⟩
    | none =>
      rw [hf] at h3
      obtain ⟨h4, h5⟩ := h3
      cases o with
      | nx e s => exact absurd rfl (h5 e s).1
      | ct e s => exact absurd rfl (h5 e s).2.1
      | bk e s => exact absurd rfl (h5 e s).2.2
      | rt r s => exact ⟨_, rfl, h4⟩
      | ex c fs s => exact ⟨_, rfl, h4⟩
/-- a loop whose every turn ends normally -/
theorem forL_inv {α : Type} {g : Tg} {body : SS} (v : α → VL) (xs : List α) (I : Nat → Env → Sto → Prop)
    (step : ∀ i a env st, xs[i]? = some a → I i env st → ∃ e1 e2 st2, g (v a) env = some e1 ∧ body e1 st = some (.nx e2 st2) ∧ I (i + 1) e2 st2) {env : Env} {st : Sto} (h0 : I 0 env st) :
    ∃ e' st', forL g body (xs.map v) env st = some (.nx e' st') ∧ I xs.length e' st' := by
  have key : ∀ (ys : List α) (i : Nat) (env : Env) (st : Sto), xs.drop i = ys → I i env st → ∃ e' st', forL g body (ys.map v) env st = some (.nx e' st') ∧ I (i + ys.length) e' st' := by
    intro ys
    induction ys with
    | nil => exact fun i env st _ h => ⟨_, _, rfl, h⟩
    | cons a ys ih =>
      intro i env st hd h
      have ha : xs[i]? = some a := by
        have : (xs.drop i)[0]? = some a := by rw [hd]; rfl
        rw [List.getElem?_drop] at this
        exact this
      obtain ⟨e1, e2, st2, h1, h2, h3⟩ := step i a env st ha h
      have hd2 : xs.drop (i + 1) = ys := by
        rw [← List.drop_drop, hd]
        rfl
      obtain ⟨e', st', k1, k2⟩ := ih (i + 1) e2 st2 hd2 h3
      refine ⟨e', st', ?_, by rw [List.length_cons, Nat.add_comm ys.length 1, ← Nat.add_assoc]; exact k2⟩
      rw [List.map_cons]
      unfold forL
      rw [h1]
      dsimp only
      rw [h2]
      exact k1
  have := key xs 0 env st (by simp) h0
  rw [Nat.zero_add] at this
  exact this
/-! ### comprehensions -/
theorem compL_pure {α : Type} {g : Tg} {t e : SE} {env : Env} {st : Sto} (v : α → VL) (p : α → Bool) (f : α → VL) : ∀ (xs : List α) (acc : List VL), acc.length + xs.length ≤ sizeLine →
    (∀ a, a ∈ xs → ∃ e1, g (v a) env = some e1 ∧ t e1 st = some (.ok (.d (.bool (p a))) st) ∧ (p a = true → e e1 st = some (.ok (f a) st))) →
    compL g t e env (xs.map v) acc st = some (acc ++ (xs.filter p).map f, st)
  | [], acc, _, _ => by simp [compL]
  | a :: xs, acc, hl, h => by
    obtain ⟨e1, h1, h2, h3⟩ := h a List.mem_cons_self
    have ih := fun acc hl => compL_pure (g := g) (t := t) (e := e) (env := env) (st := st) v p f xs acc hl fun a ha => h a (List.mem_cons_of_mem _ ha)
    rw [List.length_cons] at hl
    rw [List.map_cons]
    unfold compL
    rw [h1]
    dsimp only
    rw [h2]
    cases hp : p a with
    | true =>
      dsimp only
      rw [h3 hp]
      dsimp only
      rw [if_pos (by omega), ih _ (by rw [List.length_append, List.length_singleton]; omega), List.filter_cons, if_pos hp]
      simp
    | false =>
      dsimp only
      rw [ih acc (by omega), List.filter_cons, if_neg (by rw [hp]; exact Bool.false_ne_true)]
theorem compL_inv {α : Type} {g : Tg} {t e : SE} {env : Env} (v : α → VL) (I : List VL → Sto → Prop) : ∀ (xs : List α) (acc : List VL) (st : Sto), acc.length + xs.length ≤ sizeLine → I acc st →
    (∀ a acc st, a ∈ xs → I acc st → ∃ e1 b st1, g (v a) env = some e1 ∧ t e1 st = some (.ok (.d (.bool b)) st1) ∧ (b = false → I acc st1) ∧ (b = true → ∃ y st2, e e1 st1 = some (.ok y st2) ∧ I (acc ++ [y]) st2)) →
    ∃ ys st', compL g t e env (xs.map v) acc st = some (ys, st') ∧ I ys st' ∧ ys.length ≤ acc.length + xs.length
  | [], acc, st, _, h, _ => ⟨acc, st, rfl, h, Nat.le_refl _⟩
  | a :: xs, acc, st, hl, h, hs => by
    rw [List.length_cons] at hl
    obtain ⟨e1, b, st1, h1, h2, h3, h4⟩ := hs a acc st List.mem_cons_self h
    have hs' := fun a acc st ha => hs a acc st (List.mem_cons_of_mem _ ha)
    rw [List.map_cons]
    unfold compL
    rw [h1]
    dsimp only
    rw [h2]
    cases b with
    | true =>
      obtain ⟨y, st2, h5, h6⟩ := h4 rfl
      obtain ⟨ys, st', k1, k2, k3⟩ := compL_inv v I xs (acc ++ [y]) st2 (by rw [List.length_append, List.length_singleton]; omega) h6 hs'
      refine ⟨ys, st', ?_, k2, by rw [List.length_append, List.length_singleton] at k3; rw [List.length_cons]; omega⟩
      dsimp only
      rw [h5]
      dsimp only
      rw [if_pos (by omega)]
      exact k1
    | false =>
      obtain ⟨ys, st', k1, k2, k3⟩ := compL_inv v I xs acc st1 (by omega) (h3 rfl) hs'
      exact ⟨ys, st', k1, k2, by rw [List.length_cons]; omega⟩
theorem compL_len {g : Tg} {t e : SE} {env : Env} : ∀ (xs : List VL) (acc : List VL) (st : Sto) (z : List VL × Sto), compL g t e env xs acc st = some z → z.1.length ≤ acc.length + xs.length
  | [], acc, st, z, h => by
    cases h
    exact Nat.le_refl _
  | x :: xs, acc, st, z, h => by
    unfold compL at h
    rw [List.length_cons]
    split at h
    · cases h
    · split at h
      · split at h
        · split at h
          · have := compL_len xs _ _ z h
            rw [List.length_append, List.length_singleton] at this
            omega
          · cases h
        · cases h
      · have := compL_len xs _ _ z h
        omega
      · cases h
/-! ### walks over data -/
theorem sForS_d {a : SE} {g : Tg} {body : SS} {env : Env} {st st1 : Sto} {x : PyData} {ds : List PyData} (h : a env st = some (.ok (.d x) st1)) (hx : x = .list ds ∨ x = .tuple ds) : sForS a g body env st = forL g body (ds.map .d) env st1 := by
  unfold sForS
  rw [h]
  rcases hx with rfl | rfl <;> rfl
theorem eCompS_d {a : SE} {g : Tg} {t e : SE} {vs : List Nat} {mk : Mk} {env : Env} {st st1 : Sto} {x : PyData} {ds : List PyData} (h : a env st = some (.ok (.d x) st1)) (hx : x = .list ds ∨ x = .tuple ds) :
    eCompS mk a g t e vs env st = (compL g t e (wipeE env vs) (ds.map .d) [] st1).bind fun z => (mk z.1 z.2).map fun z => .ok z.1 z.2 := by
  unfold eCompS
  rw [h]
  rcases hx with rfl | rfl <;> rfl
theorem rg1_nat {n : Nat} (hn : n < 2 ^ 62) (st : Sto) : rg1 [.d (.int n)] st = some (.ok ((List.range n).map fun (i : Nat) => VL.d (.int (i : Int))) st) := by
  have h2 : (n : Int) < 2 ^ 62 := by exact_mod_cast hn
  have h1 : -(2 ^ 62) ≤ (n : Int) := Int.le_trans (by decide) (Int.natCast_nonneg n)
  unfold rg1
  dsimp only
  rw [if_pos (by rw [decide_eq_true h1, decide_eq_true h2]; rfl)]
  unfold rgL
  rw [Int.toNat_natCast]
  congr 2
  refine List.map_congr_left fun i _ => ?_
  rw [Int.zero_add]
theorem ibindL_ok (xs : List VL) (st : Sto) (k : List VL → Sto → Option OutI) : ibindL (some (.ok xs st)) k = k xs st := rfl
theorem iR1_ok {c : SL} {env : Env} {st st1 : Sto} {xs : List VL} (h : c env st = some (.ok xs st1)) : iR1 c env st = rg1 xs st1 := by
  unfold iR1
  rw [h, ibindL_ok]
theorem sFor_ok {it : SI} {g : Tg} {body : SS} {env : Env} {st st1 : Sto} {xs : List VL} (h : it env st = some (.ok xs st1)) : sFor it g body env st = forL g body xs env st1 := by
  unfold sFor
  rw [h]
theorem eComp_ok {it : SI} {g : Tg} {t e : SE} {vs : List Nat} {mk : Mk} {env : Env} {st st1 : Sto} {xs : List VL} (h : it env st = some (.ok xs st1)) :
    eComp mk it g t e vs env st = (compL g t e (wipeE env vs) xs [] st1).bind fun z => (mk z.1 z.2).map fun z => .ok z.1 z.2 := by
  unfold eComp
  rw [h]
theorem sFor_r1 {c : SL} {g : Tg} {body : SS} {env : Env} {st st1 : Sto} {n : Nat} (hn : n < 2 ^ 62) (h : c env st = some (.ok [.d (.int n)] st1)) : sFor (iR1 c) g body env st = forL g body ((List.range n).map fun (i : Nat) => VL.d (.int (i : Int))) env st1 :=
  sFor_ok ((iR1_ok h).trans (rg1_nat hn st1))
theorem eComp_r1 {c : SL} {g : Tg} {t e : SE} {vs : List Nat} {mk : Mk} {env : Env} {st st1 : Sto} {n : Nat} (hn : n < 2 ^ 62) (h : c env st = some (.ok [.d (.int n)] st1)) :
    eComp mk (iR1 c) g t e vs env st = (compL g t e (wipeE env vs) ((List.range n).map fun (i : Nat) => VL.d (.int (i : Int))) [] st1).bind fun z => (mk z.1 z.2).map fun z => .ok z.1 z.2 :=
  eComp_ok ((iR1_ok h).trans (rg1_nat hn st1))
/-! ### lists of data -/
theorem allD_map' : ∀ l : List PyData, allD (l.map VL.d) = some l
  | [] => rfl
  | x :: l => by
    show (allD (l.map VL.d)).map (x :: ·) = _
    rw [allD_map' l]
    rfl
theorem mkD_map (l : List PyData) (st : Sto) : mkD (l.map .d) st = some (.d (.list l), st) := by
  unfold mkD
  rw [allD_map']
  rfl
theorem mkT_map (l : List PyData) (st : Sto) : mkT (l.map .d) st = some (.d (.tuple l), st) := by
  unfold mkT
  rw [allD_map']
  rfl
theorem intsOf_map : ∀ l : List Int, intsOf (l.map fun i => VL.d (.int i)) = some l
  | [] => rfl
  | x :: l => by
    show (intsOf (l.map fun i => VL.d (.int i))).map (x :: ·) = _
    rw [intsOf_map l]
    rfl
theorem flats_map : ∀ l : List PyData, (∀ d ∈ l, flatD d = true) → flats (l.map VL.d) = some l
  | [], _ => rfl
  | x :: l, h => by
    show (if flatD x then (flats (l.map VL.d)).map (x :: ·) else none) = _
    rw [h x List.mem_cons_self, flats_map l fun d hd => h d (List.mem_cons_of_mem _ hd)]
    rfl
theorem atI_nat {α : Type} (xs : List α) (i : Nat) : atI xs (i : Int) = xs[i]? := by
  unfold atI ixN
  by_cases h : i < xs.length
  · have h1 : (0 : Int) ≤ i := by omega
    have h2 : (i : Int) < xs.length := by exact_mod_cast h
    simp [h1, h2, h]
  · have h2 : ¬ ((i : Int) < xs.length) := by exact_mod_cast h
    have h3 : xs[i]? = none := List.getElem?_eq_none_iff.mpr (by omega)
    rw [h3]
    simp [h2]
    try omega
theorem inS_ints (neg : Bool) (st : Sto) (i : Int) (y : VL) (b : Bool) (r : List Int) (h : asSeq st y = some (b, (r.map PyData.int).map VL.d)) : oInS neg st (.d (.int i)) y = some (.d (.bool (if neg then !decide (i ∈ r) else decide (i ∈ r))), st) := by
  have q : ((r.map PyData.int).any fun e => PyData.eqv e (.int i)) = decide (i ∈ r) := by
    clear h
    induction r with
    | nil => rfl
    | cons x r ih =>
      rw [List.map_cons, List.any_cons, ih]
      by_cases e : x = i
      · subst e
        simp [PyData.eqv]
      · have e' : ¬ i = x := fun z => e z.symm
        simp [PyData.eqv, e, e']
  have f : flats ((r.map PyData.int).map VL.d) = some (r.map PyData.int) := flats_map _ (by
    intro d hd
    obtain ⟨i, _, rfl⟩ := List.mem_map.mp hd
    rfl)
  unfold oInS
  rw [h]
  show ((flats ((r.map PyData.int).map VL.d)).map fun es => _) = _
  rw [f]
  simp only [Option.map_some, q]
end Sl
set_option Elab.async false
set_option linter.all false
set_option autoImplicit false
set_option maxRecDepth 100000
set_option maxHeartbeats 1000000
/-! what must hold ahead: rules that read a combinator from its end -/
namespace Sl
open PySem PySem.Spec PyProof.Rows L2
def wE (c : SE) (env : Env) (st : Sto) (Q : VL → Sto → Prop) : Prop := ∃ r st', c env st = some (.ok r st') ∧ Q r st'
def wA (c : SL) (env : Env) (st : Sto) (Q : List VL → Sto → Prop) : Prop := ∃ r st', c env st = some (.ok r st') ∧ Q r st'
def wI (c : SI) (env : Env) (st : Sto) (Q : List VL → Sto → Prop) : Prop := ∃ r st', c env st = some (.ok r st') ∧ Q r st'
def wS (c : SS) (env : Env) (st : Sto) (Q : Fl → Prop) : Prop := ∃ o, c env st = some o ∧ Q o
def wO (f : Op2) (st : Sto) (x y : VL) (Q : VL → Sto → Prop) : Prop := ∃ r st', f st x y = some (r, st') ∧ Q r st'
def wC (f : OpC) (st : Sto) (xs : List VL) (Q : VL → Sto → Prop) : Prop := ∃ r st', f st xs = some (r, st') ∧ Q r st'
def wF (m : Fn) (xs : List VL) (st : Sto) (Q : VL → Sto → Prop) : Prop := ∃ r st', m xs st = some (.ok r st') ∧ Q r st'
def wM (mk : Mk) (xs : List VL) (st : Sto) (Q : VL → Sto → Prop) : Prop := ∃ r st', mk xs st = some (r, st') ∧ Q r st'
def wP (c : SO) (env : Env) (st : Sto) (Q : Option Int → Sto → Prop) : Prop := ∃ r st', c env st = some (r, st') ∧ Q r st'
def wL (g : Tg) (body : SS) (xs : List VL) (env : Env) (st : Sto) (Q : Fl → Prop) : Prop := ∃ o, forL g body xs env st = some o ∧ Q o
/-- a test's two ways -/
def wB (x : VL) (Y N : Prop) : Prop := ∃ b, x = .d (.bool b) ∧ (b = true → Y) ∧ (b = false → N)
section
variable {env : Env} {st : Sto} {Q : VL → Sto → Prop} {QL : List VL → Sto → Prop} {R : Fl → Prop} {a b c t : SE} {cs ks : SL} {f g : Op2} {h : OpC} {mk : Mk} {m : Fn} {x y : VL} {s s1 s2 : SS} {tg : Tg}
theorem wE.mono {Q' : VL → Sto → Prop} (w : wE a env st Q) (k : ∀ x st, Q x st → Q' x st) : wE a env st Q' := by
  obtain ⟨r, st', e, q⟩ := w
  exact ⟨r, st', e, k _ _ q⟩
theorem wS.mono {R' : Fl → Prop} (w : wS s env st R) (k : ∀ o, R o → R' o) : wS s env st R' := by
  obtain ⟨o, e, q⟩ := w
  exact ⟨o, e, k _ q⟩
theorem wF.mono {Q' : VL → Sto → Prop} {xs : List VL} (w : wF m xs st Q) (k : ∀ x st, Q x st → Q' x st) : wF m xs st Q' := by
  obtain ⟨r, st', e, q⟩ := w
  exact ⟨r, st', e, k _ _ q⟩
theorem wF_of {xs : List VL} {r : VL} {st' : Sto} (e : m xs st = some (.ok r st')) (q : Q r st') : wF m xs st Q := ⟨r, st', e, q⟩
theorem wB_dec {p : Prop} [Decidable p] {Y N : Prop} (y : p → Y) (n : ¬ p → N) : wB (.d (.bool (decide p))) Y N := ⟨_, rfl, fun e => y (of_decide_eq_true e), fun e => n (of_decide_eq_false e)⟩
theorem wB_not {p : Prop} [Decidable p] {Y N : Prop} (y : ¬ p → Y) (n : p → N) : wB (.d (.bool (!decide p))) Y N := ⟨_, rfl, fun e => y (of_decide_eq_false (by simpa using e)), fun e => n (of_decide_eq_true (by simpa using e))⟩
theorem wB_t {Y N : Prop} (y : Y) : wB (.d (.bool true)) Y N := ⟨_, rfl, fun _ => y, fun e => nomatch e⟩
theorem wB_f {Y N : Prop} (n : N) : wB (.d (.bool false)) Y N := ⟨_, rfl, (fun e => nomatch e), fun _ => n⟩
theorem wB_nb {p : Bool} {Y N : Prop} (y : p = false → Y) (n : p = true → N) : wB (.d (.bool (!p))) Y N := ⟨_, rfl, fun e => y (by simpa using e), fun e => n (by simpa using e)⟩
theorem wB_b {p : Bool} {Y N : Prop} (y : p = true → Y) (n : p = false → N) : wB (.d (.bool p)) Y N := ⟨_, rfl, y, n⟩
theorem wE_var {i : Nat} (e : env[i]? = some (some x)) (q : Q x st) : wE (eVar i) env st Q := ⟨x, st, by unfold eVar; rw [e], q⟩
theorem wE_c {d : PyData} (q : Q (.d d) st) : wE (eC d) env st Q := ⟨_, _, rfl, q⟩
theorem wE_op (w : wE a env st fun x st1 => wE b env st1 fun y st2 => wO f st2 x y Q) : wE (eOp f a b) env st Q := by
  obtain ⟨x, st1, e1, y, st2, e2, z, st3, e3, q⟩ := w
  refine ⟨z, st3, ?_, q⟩
  unfold eOp
  rw [e1]
  show obind (b env st1) _ = _
  rw [e2]
  show (f st2 x y).map _ = _
  rw [e3]
  rfl
theorem wE_and (w : wE a env st fun x st1 => wB x (wE b env st1 Q) (Q (.d (.bool false)) st1)) : wE (eAnd a b) env st Q := by
  obtain ⟨x, st1, e1, c, rfl, hy, hn⟩ := w
  cases c with
  | true =>
    obtain ⟨r, st', e, q⟩ := hy rfl
    refine ⟨r, st', ?_, q⟩
    unfold eAnd
    rw [e1]
    exact e
  | false =>
    refine ⟨_, st1, ?_, hn rfl⟩
    unfold eAnd
    rw [e1]
    rfl
theorem wE_or (w : wE a env st fun x st1 => wB x (Q (.d (.bool true)) st1) (wE b env st1 Q)) : wE (eOr a b) env st Q := by
  obtain ⟨x, st1, e1, c, rfl, hy, hn⟩ := w
  cases c with
  | false =>
    obtain ⟨r, st', e, q⟩ := hn rfl
    refine ⟨r, st', ?_, q⟩
    unfold eOr
    rw [e1]
    exact e
  | true =>
    refine ⟨_, st1, ?_, hy rfl⟩
    unfold eOr
    rw [e1]
    rfl
theorem wE_not (w : wE a env st fun x st1 => ∃ b, x = .d (.bool b) ∧ Q (.d (.bool (!b))) st1) : wE (eNot a) env st Q := by
  obtain ⟨x, st1, e1, c, rfl, q⟩ := w
  refine ⟨_, st1, ?_, q⟩
  unfold eNot
  rw [e1]
  rfl
theorem wE_if (w : wE t env st fun x st1 => wB x (wE a env st1 Q) (wE b env st1 Q)) : wE (eIf t a b) env st Q := by
  obtain ⟨x, st1, e1, c, rfl, hy, hn⟩ := w
  cases c with
  | false =>
    obtain ⟨r, st', e, q⟩ := hn rfl
    refine ⟨r, st', ?_, q⟩
    unfold eIf
    rw [e1]
    exact e
  | true =>
    obtain ⟨r, st', e, q⟩ := hy rfl
    refine ⟨r, st', ?_, q⟩
    unfold eIf
    rw [e1]
    exact e
theorem wA_nil (q : QL [] st) : wA aNil env st QL := ⟨_, _, rfl, q⟩
theorem wA_cons (w : wE a env st fun x st1 => wA cs env st1 fun xs st2 => QL (x :: xs) st2) : wA (aCons a cs) env st QL := by
  obtain ⟨x, st1, e1, xs, st2, e2, q⟩ := w
  refine ⟨_, st2, ?_, q⟩
  unfold aCons
  rw [e1]
  dsimp only
  rw [e2]
theorem wA_app (w : wA cs env st fun xs st1 => wA ks env st1 fun ys st2 => QL (xs ++ ys) st2) : wA (aApp cs ks) env st QL := by
  obtain ⟨x, st1, e1, xs, st2, e2, q⟩ := w
  refine ⟨_, st2, ?_, q⟩
  unfold aApp
  rw [e1]
  dsimp only
  rw [e2]
theorem wE_cb (w : wA cs env st fun xs st1 => wC h st1 xs Q) : wE (eCB h cs) env st Q := by
  obtain ⟨xs, st1, e1, z, st2, e2, q⟩ := w
  refine ⟨z, st2, ?_, q⟩
  unfold eCB
  rw [e1]
  show (h st1 xs).map _ = _
  rw [e2]
  rfl
theorem wE_call {n : Nat} (w : wA cs env st fun xs st1 => xs.length = n ∧ wF m xs st1 Q) : wE (eCall (nFn n m) cs) env st Q := by
  obtain ⟨xs, st1, e1, hl, z, st2, e2, q⟩ := w
  refine ⟨z, st2, ?_, q⟩
  unfold eCall nFn
  rw [e1]
  show (if xs.length = n then m xs st1 else none) = _
  rw [if_pos hl, e2]
theorem wE_lst (w : wA cs env st fun xs st1 => xs.length ≤ sizeLine ∧ wM mk xs st1 Q) : wE (eLst mk cs) env st Q := by
  obtain ⟨xs, st1, e1, hl, z, st2, e2, q⟩ := w
  refine ⟨z, st2, ?_, q⟩
  unfold eLst
  rw [e1]
  show (if xs.length ≤ sizeLine then _ else none) = _
  rw [if_pos hl, e2]
  rfl
theorem wE_tup (w : wA cs env st fun xs st1 => xs.length ≤ sizeLine ∧ wM mkT xs st1 Q) : wE (eTup cs) env st Q := by
  obtain ⟨xs, st1, e1, hl, z, st2, e2, q⟩ := w
  refine ⟨z, st2, ?_, q⟩
  unfold eTup
  rw [e1]
  show (if xs.length ≤ sizeLine then _ else none) = _
  rw [if_pos hl, e2]
  rfl
theorem wM_N {xs : List VL} (q : Q (.o st.length) (st ++ [.lst xs])) : wM mkN xs st Q := ⟨_, _, rfl, q⟩
theorem wM_D {xs : List VL} {ds : List PyData} (e : allD xs = some ds) (q : Q (.d (.list ds)) st) : wM mkD xs st Q := ⟨_, _, by unfold mkD; rw [e]; rfl, q⟩
theorem wM_T {xs : List VL} {ds : List PyData} (e : allD xs = some ds) (q : Q (.d (.tuple ds)) st) : wM mkT xs st Q := ⟨_, _, by unfold mkT; rw [e]; rfl, q⟩
theorem wE_neg (w : wE a env st fun x st1 => ∃ i, x = .d (.int i) ∧ Q (.d (.int (-i))) st1) : wE (eNeg a) env st Q := by
  obtain ⟨x, st1, e1, i, rfl, q⟩ := w
  refine ⟨_, st1, ?_, q⟩
  unfold eNeg
  rw [e1]
  rfl
theorem wE_isi {ts : List Ty} (w : wE a env st fun x st1 => ∃ t, tyOf st1 x = some t ∧ Q (.d (.bool (ts.any fun c => t.sub c))) st1) : wE (eIsi ts a) env st Q := by
  obtain ⟨x, st1, e1, t, e2, q⟩ := w
  refine ⟨_, st1, ?_, q⟩
  unfold eIsi
  rw [e1]
  show (tyOf st1 x).map _ = _
  rw [e2]
  rfl
theorem wE_chain (w : wE a env st fun x st1 => wE b env st1 fun y st2 => wO f st2 x y fun z st3 => wB z (wE c env st3 fun u st4 => wO g st4 y u Q) (Q (.d (.bool false)) st3)) : wE (eChain f g a b c) env st Q := by
  obtain ⟨x, st1, e1, y, st2, e2, z, st3, e3, k, rfl, hy, hn⟩ := w
  cases k with
  | true =>
    obtain ⟨u, st4, e4, r, st5, e5, q⟩ := hy rfl
    refine ⟨r, st5, ?_, q⟩
    unfold eChain
    rw [e1]
    show obind (b env st1) _ = _
    rw [e2]
    show (match f st2 x y with
      | some (.d (.bool true), st3) => _
      | some (.d (.bool false), st3) => _
      | _ => _) = _
    rw [e3]
    show obind (c env st3) _ = _
    rw [e4]
    show (g st4 y u).map _ = _
    rw [e5]
    rfl
  | false =>
    refine ⟨_, st3, ?_, hn rfl⟩
    unfold eChain
    rw [e1]
    show obind (b env st1) _ = _
    rw [e2]
    show (match f st2 x y with
      | some (.d (.bool true), st3) => _
      | some (.d (.bool false), st3) => _
      | _ => _) = _
    rw [e3]
def wZ (st : Sto) (x : VL) (Q : VL → Sto → Prop) : Prop := ∃ d st2, frz st x = some (d, st2) ∧ Q (.d d) st2
theorem wZ_d {d : PyData} (q : Q (.d d) st) : wZ st (.d d) Q := ⟨d, st, rfl, q⟩
theorem wZ_o {n : Nat} {xs : List VL} {ds : List PyData} (h : st[n]? = some (.lst xs)) (e : allD xs = some ds) (q : Q (.d (.list ds)) (st.set n (.fr (.list ds)))) : wZ st (.o n) Q := by
  refine ⟨_, _, ?_, q⟩
  unfold frz
  simp only [h, e, Option.map_some]
theorem wE_frz (w : wE a env st fun x st1 => wZ st1 x Q) : wE (eFrz a) env st Q := by
  obtain ⟨x, st1, e1, d, st2, e2, q⟩ := w
  refine ⟨_, st2, ?_, q⟩
  unfold eFrz
  rw [e1]
  show (frz st1 x).map _ = _
  rw [e2]
  rfl
def isO (st : Sto) (x : VL) (Z : Prop) : Prop := (∃ n xs, x = .o n ∧ st[n]? = some (.lst xs)) ∧ Z
theorem isO_o {n : Nat} {xs : List VL} {Z : Prop} (h : st[n]? = some (.lst xs)) (z : Z) : isO st (.o n) Z := ⟨⟨n, xs, rfl, h⟩, z⟩
/-- x.append(y) -/
def wApp (st : Sto) (x y : VL) (Z : Sto → Prop) : Prop := ∃ n xs, x = .o n ∧ st[n]? = some (.lst xs) ∧ xs.length < sizeLine ∧ Z (st.set n (.lst (xs ++ [y])))
theorem wApp_o {n : Nat} {xs : List VL} {Z : Sto → Prop} (h : st[n]? = some (.lst xs)) (hl : xs.length < sizeLine) (z : Z (st.set n (.lst (xs ++ [y])))) : wApp st (.o n) y Z := ⟨n, xs, rfl, h, hl, z⟩
theorem wE_append (w : wE a env st fun x st1 => isO st1 x (wE b env st1 fun y st2 => wApp st2 x y fun st3 => Q (.d .none) st3)) : wE (eAppend a b) env st Q := by
  obtain ⟨x, st1, e1, ⟨n, xs0, rfl, h0⟩, y, st2, e2, n', xs, e3, h1, h2, q⟩ := w
  cases e3
  refine ⟨_, _, ?_, q⟩
  unfold eAppend
  rw [e1]
  have l1 : lstAt st1 (.o n) = some (n, xs0) := by simp only [lstAt, h0]
  have l2 : lstAt st2 (.o n) = some (n, xs) := by simp only [lstAt, h1]
  show (if (lstAt st1 (.o n)).isSome then _ else none) = _
  rw [l1]
  show obind (b env st1) _ = _
  rw [e2]
  show (match lstAt st2 (.o n) with
    | some (n, xs) => _
    | none => _) = _
  rw [l2]
  show (if xs.length < sizeLine then _ else none) = _
  rw [if_pos h2]
theorem wP_none {QO : Option Int → Sto → Prop} (q : QO none st) : wP oNone env st QO := ⟨_, _, rfl, q⟩
theorem wP_some {QO : Option Int → Sto → Prop} (w : wE a env st fun x st1 => ∃ i, x = .d (.int i) ∧ QO (some i) st1) : wP (oSome a) env st QO := by
  obtain ⟨x, st1, e1, i, rfl, q⟩ := w
  exact ⟨_, st1, by unfold oSome; rw [e1], q⟩
theorem wE_sl {lo hi : SO} (w : wE a env st fun x st1 => wP lo env st1 fun l st2 => wP hi env st2 fun h st3 => ∃ k xs, asSeq st3 x = some (k, xs) ∧ (k = false → wM mk (cutL xs l h) st3 Q) ∧ (k = true → wM mkT (cutL xs l h) st3 Q)) : wE (eSl mk a lo hi) env st Q := by
  obtain ⟨x, st1, e1, l, st2, e2, h, st3, e3, k, xs, e4, k1, k2⟩ := w
  cases k with
  | false =>
    obtain ⟨z, st4, e5, q⟩ := k1 rfl
    refine ⟨z, st4, ?_, q⟩
    unfold eSl
    rw [e1]
    show (match lo env st1 with
      | none => none
      | some (l, st2) => _) = _
    rw [e2]
    show (match hi env st2 with
      | none => none
      | some (h, st3) => _) = _
    rw [e3]
    show (match asSeq st3 x with
      | some (false, xs) => _
      | some (true, xs) => _
      | none => _) = _
    rw [e4]
    show (mk (cutL xs l h) st3).map _ = _
    rw [e5]
    rfl
  | true =>
    obtain ⟨z, st4, e5, q⟩ := k2 rfl
    refine ⟨z, st4, ?_, q⟩
    unfold eSl
    rw [e1]
    show (match lo env st1 with
      | none => none
      | some (l, st2) => _) = _
    rw [e2]
    show (match hi env st2 with
      | none => none
      | some (h, st3) => _) = _
    rw [e3]
    show (match asSeq st3 x with
      | some (false, xs) => _
      | some (true, xs) => _
      | none => _) = _
    rw [e4]
    show (mkT (cutL xs l h) st3).map _ = _
    rw [e5]
    rfl
theorem wE_rev (w : wE a env st fun x st1 => ∃ xs, asSeq st1 x = some (false, xs) ∧ wM mk xs.reverse st1 Q) : wE (eRev mk a) env st Q := by
  obtain ⟨x, st1, e1, xs, e2, z, st2, e3, q⟩ := w
  refine ⟨z, st2, ?_, q⟩
  unfold eRev
  rw [e1]
  show (match asSeq st1 x with
    | some (false, xs) => _
    | _ => _) = _
  rw [e2]
  show (mk xs.reverse st1).map _ = _
  rw [e3]
  rfl
theorem wE_dnew {tu : Bool} (q : Q (.o st.length) (st ++ [if tu then .dt [] else .dk []])) : wE (eDnew tu) env st Q := ⟨_, _, rfl, q⟩
theorem repOk_nat {n k : Nat} (h2 : k < 100) (h3 : n * k ≤ sizeLine) : repOk n (k : Int) = true := by
  have a1 : -(2 ^ 63) ≤ (k : Int) := Int.le_trans (by decide) (Int.natCast_nonneg k)
  have a2 : (k : Int) < 2 ^ 63 := by
    have : (k : Int) < 100 := by omega
    exact Int.lt_trans this (by decide)
  unfold repOk
  rw [Int.toNat_natCast, decide_eq_true a1, decide_eq_true a2, decide_eq_true h3]
  rfl
theorem obind_ok (r : VL) (st : Sto) (k : VL → Sto → Option Out) : obind (some (.ok r st)) k = k r st := rfl
theorem asI_bind {α : Type} (i : Int) (f : Int → Option α) : (asI (.d (.int i))).bind f = f i := rfl
theorem wE_rep (w : wA cs env st fun xs st1 => xs.length ≤ sizeLine ∧ wE b env st1 fun y st2 => ∃ k : Nat, y = .d (.int k) ∧ k < 100 ∧ xs.length * k ≤ sizeLine ∧ wM mk (List.replicate k xs).flatten st2 Q) : wE (eRep mk cs b) env st Q := by
  obtain ⟨xs, st1, e1, h1, y, st2, e2, k, rfl, h2, h3, z, st3, e3, q⟩ := w
  refine ⟨z, st3, ?_, q⟩
  have c1 := repOk_nat h2 h3
  unfold eRep
  rw [e1]
  show (if xs.length ≤ sizeLine then obind (b env st1) _ else none) = _
  rw [if_pos h1, e2, obind_ok, asI_bind, if_pos c1, Int.toNat_natCast, e3]
  rfl
/-! ### statements -/
theorem wS_nx (q : R (.nx env st)) : wS sNx env st R := ⟨_, rfl, q⟩
theorem wS_bk (q : R (.bk env st)) : wS sBk env st R := ⟨_, rfl, q⟩
theorem wS_ct (q : R (.ct env st)) : wS sCt env st R := ⟨_, rfl, q⟩
theorem wS_retN (q : R (.rt (.d .none) st)) : wS sRetN env st R := ⟨_, rfl, q⟩
/-- the next statement, or the end -/
def seqK (b : SS) (R : Fl → Prop) : Fl → Prop
  | .nx env st => wS b env st R
  | o => R o
theorem wS_seq (w : wS s1 env st (seqK s2 R)) : wS (sSeq s1 s2) env st R := by
  obtain ⟨o, e, q⟩ := w
  cases o with
  | nx env1 st1 =>
    obtain ⟨o2, e2, q2⟩ := q
    exact ⟨o2, by simp only [sSeq, e, e2], q2⟩
  | rt r st => exact ⟨_, by simp only [sSeq, e], q⟩
  | bk r st => exact ⟨_, by simp only [sSeq, e], q⟩
  | ct r st => exact ⟨_, by simp only [sSeq, e], q⟩
  | ex c fs st => exact ⟨_, by simp only [sSeq, e], q⟩
theorem wS_asg (w : wE a env st fun x st1 => ∃ e, tg x env = some e ∧ R (.nx e st1)) : wS (sAsg a tg) env st R := by
  obtain ⟨x, st1, e1, e, e2, q⟩ := w
  refine ⟨_, ?_, q⟩
  unfold sAsg
  rw [e1]
  show (tg x env).map _ = _
  rw [e2]
  rfl
theorem wS_set {i : Nat} (w : wE a env st fun x st1 => R (.nx (env.set i (some x)) st1)) : wS (sAsg a (gN i)) env st R := by
  obtain ⟨x, st1, e1, q⟩ := w
  refine ⟨_, ?_, q⟩
  unfold sAsg
  rw [e1]
  rfl
theorem wS_drop (w : wE a env st fun _ st1 => R (.nx env st1)) : wS (sDrop a) env st R := by
  obtain ⟨x, st1, e1, q⟩ := w
  refine ⟨_, ?_, q⟩
  unfold sDrop
  rw [e1]
  rfl
theorem wS_ret (w : wE a env st fun x st1 => R (.rt x st1)) : wS (sRet a) env st R := by
  obtain ⟨x, st1, e1, q⟩ := w
  refine ⟨_, ?_, q⟩
  unfold sRet
  rw [e1]
  rfl
theorem wS_if (w : wE t env st fun x st1 => wB x (wS s1 env st1 R) (wS s2 env st1 R)) : wS (sIf t s1 s2) env st R := by
  obtain ⟨x, st1, e1, c, rfl, hy, hn⟩ := w
  cases c with
  | false =>
    obtain ⟨o, e, q⟩ := hn rfl
    refine ⟨o, ?_, q⟩
    unfold sIf
    rw [e1]
    exact e
  | true =>
    obtain ⟨o, e, q⟩ := hy rfl
    refine ⟨o, ?_, q⟩
    unfold sIf
    rw [e1]
    exact e
/-- x[k] = y, x an object -/
def wU (st : Sto) (x k y : VL) (Z : Sto → Prop) : Prop := ∃ n xs j i, x = .o n ∧ st[n]? = some (.lst xs) ∧ k = .d (.int j) ∧ ixN xs.length j = some i ∧ Z (st.set n (.lst (xs.set i y)))
theorem wU_o {n : Nat} {xs : List VL} {j : Int} {i : Nat} {y : VL} {Z : Sto → Prop} (h : st[n]? = some (.lst xs)) (e : ixN xs.length j = some i) (q : Z (st.set n (.lst (xs.set i y)))) : wU st (.o n) (.d (.int j)) y Z := ⟨n, xs, j, i, rfl, h, rfl, e, q⟩
theorem ixN_nat {n i : Nat} (h : i < n) : ixN n (i : Int) = some i := by
  unfold ixN
  rw [if_pos (Int.natCast_nonneg i), if_pos (by exact_mod_cast h), Int.toNat_natCast]
theorem wS_setL (w : wE a env st fun y st1 => wE b env st1 fun x st2 => wE c env st2 fun k st3 => wU st3 x k y fun st4 => R (.nx env st4)) : wS (sSetL a b c) env st R := by
  obtain ⟨y, st1, e1, x, st2, e2, k, st3, e3, n, xs, j, i, rfl, h1, rfl, h2, q⟩ := w
  refine ⟨_, ?_, q⟩
  have l1 : lstAt st3 (.o n) = some (n, xs) := by simp only [lstAt, h1]
  unfold sSetL
  rw [e1]
  show fbind (b env st1) _ = _
  rw [e2]
  show fbind (c env st2) _ = _
  rw [e3]
  show (match lstAt st3 (.o n), some j with
    | some (n, xs), some j => (ixN xs.length j).map fun j => Fl.nx env (st3.set n (.lst (xs.set j y)))
    | _, _ => none) = _
  rw [l1]
  show (ixN xs.length j).map _ = _
  rw [h2]
  rfl
/-- x[y] = z, x a dict -/
def wD (st : Sto) (x y z : VL) (Z : Sto → Prop) : Prop := ∃ n kvs i, x = .o n ∧ st[n]? = some (.dk kvs) ∧ y = .d (.int i) ∧ kvs.length < sizeLine ∧ Z (st.set n (.dk (putL kvs (.inl i) z)))
theorem wD_o {n : Nat} {kvs : List (Key × VL)} {i : Int} {z : VL} {Z : Sto → Prop} (h : st[n]? = some (.dk kvs)) (hl : kvs.length < sizeLine) (q : Z (st.set n (.dk (putL kvs (.inl i) z)))) : wD st (.o n) (.d (.int i)) z Z := ⟨n, kvs, i, rfl, h, rfl, hl, q⟩
theorem wS_dputK (w : wE a env st fun z st1 => wE b env st1 fun x st2 => wE c env st2 fun y st3 => wD st3 x y z fun st4 => R (.nx env st4)) : wS (sDput a b c) env st R := by
  obtain ⟨z, st1, e1, x, st2, e2, y, st3, e3, n, kvs, i, rfl, h1, rfl, h2, q⟩ := w
  refine ⟨_, ?_, q⟩
  have l1 : dctAt st3 (.o n) (.d (.int i)) = some (.k n kvs (.inl i)) := by
    unfold dctAt
    simp only [h1]
    rfl
  unfold sDput
  rw [e1]
  show fbind (b env st1) _ = _
  rw [e2]
  show fbind (c env st2) _ = _
  rw [e3]
  show (dctAt st3 (.o n) (.d (.int i))).bind _ = _
  rw [l1]
  show (if kvs.length < sizeLine then some (st3.set n (.dk (putL kvs (.inl i) z))) else none).map _ = _
  rw [if_pos h2]
  rfl
theorem wS_forS (w : wE a env st fun x st1 => ∃ ds, (x = .d (.list ds) ∨ x = .d (.tuple ds)) ∧ wL tg s (ds.map .d) env st1 R) : wS (sForS a tg s) env st R := by
  obtain ⟨x, st1, e1, ds, hx, o, e2, q⟩ := w
  refine ⟨o, ?_, q⟩
  rcases hx with rfl | rfl
  · rw [sForS_d e1 (.inl rfl), e2]
  · rw [sForS_d e1 (.inr rfl), e2]
theorem wS_for1 (w : wA cs env st fun xs st1 => ∃ n : Nat, xs = [.d (.int n)] ∧ n < 2 ^ 62 ∧ wL tg s ((List.range n).map fun (i : Nat) => VL.d (.int (i : Int))) env st1 R) : wS (sFor (iR1 cs) tg s) env st R := by
  obtain ⟨xs, st1, e1, n, rfl, hn, o, e2, q⟩ := w
  refine ⟨o, ?_, q⟩
  rw [sFor_r1 hn e1, e2]
theorem wE_comp1 {g : Tg} {vs : List Nat} (w : wA cs env st fun xs st1 => ∃ n : Nat, xs = [.d (.int n)] ∧ n < 2 ^ 62 ∧ ∃ ys st2, compL g t a (wipeE env vs) ((List.range n).map fun (i : Nat) => VL.d (.int (i : Int))) [] st1 = some (ys, st2) ∧ wM mk ys st2 Q) : wE (eComp mk (iR1 cs) g t a vs) env st Q := by
  obtain ⟨xs, st1, e1, n, rfl, hn, ys, st2, e2, z, st3, e3, q⟩ := w
  refine ⟨z, st3, ?_, q⟩
  rw [eComp_r1 hn e1, e2]
  show (mk ys st2).map _ = _
  rw [e3]
  rfl
theorem wE_compS {g : Tg} {vs : List Nat} (w : wE c env st fun x st1 => ∃ ds, (x = .d (.list ds) ∨ x = .d (.tuple ds)) ∧ ∃ ys st2, compL g t a (wipeE env vs) (ds.map .d) [] st1 = some (ys, st2) ∧ wM mk ys st2 Q) : wE (eCompS mk c g t a vs) env st Q := by
  obtain ⟨x, st1, e1, ds, hx, ys, st2, e2, z, st3, e3, q⟩ := w
  refine ⟨z, st3, ?_, q⟩
  have hx' : ∃ d, x = .d d ∧ (d = .list ds ∨ d = .tuple ds) := by
    rcases hx with rfl | rfl
    · exact ⟨_, rfl, .inl rfl⟩
    · exact ⟨_, rfl, .inr rfl⟩
  obtain ⟨d, rfl, hd⟩ := hx'
  rw [eCompS_d e1 hd, e2]
  show (mk ys st2).map _ = _
  rw [e3]
  rfl
/-- a def's call: what its body does -/
def fnQ (Q : VL → Sto → Prop) : Fl → Prop
  | .nx _ st1 => Q (.d .none) st1
  | .rt r st1 => Q r st1
  | _ => False
theorem wF_run {k : Nat} {xs : List VL} (w : wS s (fEnv k xs) st (fnQ Q)) : wF (runFn k s) xs st Q := by
  obtain ⟨o, e, q⟩ := w
  cases o with
  | nx env1 st1 => exact ⟨_, _, by simp only [runFn, e], q⟩
  | rt r st1 => exact ⟨_, _, by simp only [runFn, e], q⟩
  | bk env1 st1 => exact q.elim
  | ct env1 st1 => exact q.elim
  | ex c fs st1 => exact q.elim
/-- .. whose new objects are forgotten -/
theorem wF_cut {xs : List VL} (w : wF m xs st fun r st1 => ∃ d, r = .d d ∧ cutOk st st1 ∧ Q (.d d) (st1.take st.length)) : wF (fCut m) xs st Q := by
  obtain ⟨r, st1, e, d, rfl, hc, q⟩ := w
  refine ⟨.d d, st1.take st.length, ?_, q⟩
  show cutO st (m xs st) = _
  rw [e]
  unfold cutO
  dsimp only
  rw [if_pos hc]
def cutQ (st : Sto) (R : Fl → Prop) : Fl → Prop
  | .nx e st1 => cutOk st st1 ∧ R (.nx (cutE st.length e) (st1.take st.length))
  | .ct e st1 => cutOk st st1 ∧ R (.ct (cutE st.length e) (st1.take st.length))
  | .bk e st1 => cutOk st st1 ∧ R (.bk (cutE st.length e) (st1.take st.length))
  | .rt r st1 => ∃ d, r = .d d ∧ cutOk st st1 ∧ R (.rt (.d d) (st1.take st.length))
  | .ex c fs st1 => R (.ex c fs st1)
theorem wS_cut (w : wS s env st (cutQ st R)) : wS (sCut s) env st R := by
  obtain ⟨o, e, q⟩ := w
  unfold wS
  show ∃ o, cutF st (s env st) = some o ∧ R o
  rw [e]
  unfold cutF
  cases o with
  | nx env1 st1 =>
    refine ⟨_, ?_, q.2⟩
    dsimp only
    rw [if_pos q.1]
  | ct env1 st1 =>
    refine ⟨_, ?_, q.2⟩
    dsimp only
    rw [if_pos q.1]
  | bk env1 st1 =>
    refine ⟨_, ?_, q.2⟩
    dsimp only
    rw [if_pos q.1]
  | rt r st1 =>
    obtain ⟨d, rfl, hc, q⟩ := q
    refine ⟨_, ?_, q⟩
    dsimp only
    rw [if_pos hc]
  | ex c fs st1 => exact ⟨_, rfl, q⟩
/-! ### leaves -/
theorem wO_sub {i j : Int} (q : Q (.d (.int (i - j))) st) : wO oSub st (.d (.int i)) (.d (.int j)) Q := ⟨_, _, rfl, q⟩
theorem wO_lt {i j : Int} (q : Q (.d (.bool (decide (i < j)))) st) : wO oLt st (.d (.int i)) (.d (.int j)) Q := ⟨_, _, rfl, q⟩
theorem wO_le {i j : Int} (q : Q (.d (.bool (decide (i ≤ j)))) st) : wO oLe st (.d (.int i)) (.d (.int j)) Q := ⟨_, _, rfl, q⟩
theorem wO_gt {i j : Int} (q : Q (.d (.bool (decide (j < i)))) st) : wO oGt st (.d (.int i)) (.d (.int j)) Q := ⟨_, _, rfl, q⟩
theorem wO_ge {i j : Int} (q : Q (.d (.bool (decide (j ≤ i)))) st) : wO oGe st (.d (.int i)) (.d (.int j)) Q := ⟨_, _, rfl, q⟩
theorem wO_mul {i j : Int} (hs : (-(2 ^ 64) < j ∧ j < 2 ^ 64) ∨ (-(2 ^ 64) < i ∧ i < 2 ^ 64)) (q : Q (.d (.int (i * j))) st) : wO oMul st (.d (.int i)) (.d (.int j)) Q := by
  refine ⟨_, _, ?_, q⟩
  unfold oMul oI
  show (if ((decide (-(2 ^ 64) < i) && decide (i < 2 ^ 64)) || (decide (-(2 ^ 64) < j) && decide (j < 2 ^ 64))) = true then some _ else none) = _
  rw [if_pos]
  rcases hs with ⟨a, b⟩ | ⟨a, b⟩
  · rw [decide_eq_true a, decide_eq_true b]
    exact Bool.or_true _
  · rw [decide_eq_true a, decide_eq_true b]
    rfl
theorem wO_div {i j : Int} (h1 : 0 < j) (h2 : j < 1073741824) (q : Q (.d (.int (i / j))) st) : wO oDiv st (.d (.int i)) (.d (.int j)) Q := by
  refine ⟨_, _, ?_, q⟩
  unfold oDiv oI
  show (if (decide (0 < j) && decide (j < 1073741824)) = true then some _ else none) = _
  rw [if_pos]
  rw [decide_eq_true h1, decide_eq_true h2]
  rfl
theorem wO_mod {i j : Int} (h1 : 0 < j) (q : Q (.d (.int (i % j))) st) : wO oMod st (.d (.int i)) (.d (.int j)) Q := by
  refine ⟨_, _, ?_, q⟩
  unfold oMod oI
  show (if _ then some _ else none) = _
  rw [if_pos (decide_eq_true h1)]
theorem wO_pow6 (q : Q (.d (.int 1000000)) st) : wO oPow st (.d (.int 10)) (.d (.int 6)) Q := ⟨_, _, by rfl, q⟩
theorem wO_add {i j : Int} (q : Q (.d (.int (i + j))) st) : wO (oAdd mk) st (.d (.int i)) (.d (.int j)) Q := ⟨_, _, rfl, q⟩
theorem wO_addL {xs ys : List VL} (hx : ∀ i : Int, x ≠ .d (.int i)) (hx2 : ∀ i : Str, x ≠ .d (.str i)) (h1 : asSeq st x = some (false, xs)) (h2 : asSeq st y = some (false, ys)) (hl : xs.length + ys.length ≤ sizeLine) (w : wM mk (xs ++ ys) st Q) : wO (oAdd mk) st x y Q := by
  obtain ⟨r, st', e, q⟩ := w
  refine ⟨r, st', ?_, q⟩
  unfold oAdd
  split
  · exact absurd rfl (hx _)
  · exact absurd rfl (hx2 _)
  · rw [h1, h2]
    dsimp only
    rw [if_pos hl, e]
theorem wO_isN (q : Q (.d (.bool (isN x))) st) : wO oIsN st x (.d .none) Q := ⟨_, _, rfl, q⟩
theorem wO_notN (q : Q (.d (.bool (!isN x))) st) : wO oNotN st x (.d .none) Q := ⟨_, _, rfl, q⟩
theorem wO_eqI {i j : Int} (q : Q (.d (.bool (decide (i = j)))) st) : wO oEq st (.d (.int i)) (.d (.int j)) Q := by
  refine ⟨_, _, ?_, q⟩
  have e : PyData.eqv (.int i) (.int j) = decide (i = j) := by
    by_cases h : i = j
    · subst h
      simp [PyData.eqv]
    · simp [PyData.eqv, h]
  unfold oEq oEqC
  show (if _ then some (VL.d (.bool (if false = true then _ else PyData.eqv (.int i) (.int j))), st) else none) = _
  rw [e, if_pos (by rfl)]
  rfl
theorem wO_neI {i j : Int} (q : Q (.d (.bool (!decide (i = j)))) st) : wO oNe st (.d (.int i)) (.d (.int j)) Q := by
  refine ⟨_, _, ?_, q⟩
  have e : PyData.eqv (.int i) (.int j) = decide (i = j) := by
    by_cases h : i = j
    · subst h
      simp [PyData.eqv]
    · simp [PyData.eqv, h]
  unfold oNe oEqC
  show (if _ then some (VL.d (.bool (if true = true then !PyData.eqv (.int i) (.int j) else _)), st) else none) = _
  rw [e, if_pos (by rfl)]
  rfl
theorem wO_ix {xs : List VL} {k : Bool} {i : Nat} {z : VL} (h1 : asSeq st x = some (k, xs)) (h2 : xs[i]? = some z) (q : Q z st) : wO oIx st x (.d (.int (i : Int))) Q := by
  refine ⟨_, _, ?_, q⟩
  unfold oIx
  rw [h1]
  show (atI xs (i : Int)).map _ = _
  rw [atI_nat, h2]
  rfl
theorem wO_ix1 {xs : List VL} {k : Bool} {z : VL} (h1 : asSeq st x = some (k, xs)) (h2 : xs.getLast? = some z) (q : Q z st) : wO oIx st x (.d (.int (-1))) Q := by
  refine ⟨_, _, ?_, q⟩
  unfold oIx
  rw [h1]
  show (atI xs (-1)).map _ = _
  have hne : xs ≠ [] := by
    intro e
    subst e
    cases h2
  have hp : 0 < xs.length := List.length_pos_iff.mpr hne
  have e : atI xs (-1) = xs.getLast? := by
    unfold atI ixN
    rw [if_neg (by decide), if_pos (by omega), List.getLast?_eq_getElem?]
    show xs[((-1 : Int) + xs.length).toNat]? = _
    congr 1
    omega
  rw [e, h2]
  rfl
theorem wO_inS {neg k : Bool} {i : Int} {r : List Int} (h1 : asSeq st y = some (k, (r.map PyData.int).map VL.d)) (q : Q (.d (.bool (if neg then !decide (i ∈ r) else decide (i ∈ r)))) st) : wO (oInS neg) st (.d (.int i)) y Q := ⟨_, _, inS_ints neg st i y k r h1, q⟩
theorem wO_inD {neg : Bool} {i : Int} {n : Nat} {kvs : List (Key × VL)} (h1 : st[n]? = some (.dk kvs)) (q : Q (.d (.bool (if neg then !(valL kvs (.inl i)).isSome else (valL kvs (.inl i)).isSome))) st) : wO (oInD neg) st (.d (.int i)) (.o n) Q := by
  refine ⟨_, _, ?_, q⟩
  have l1 : dctAt st (.o n) (.d (.int i)) = some (.k n kvs (.inl i)) := by
    unfold dctAt
    simp only [h1]
    rfl
  unfold oInD
  rw [l1]
  rfl
theorem wC_len {xs : List VL} {k : Bool} (h1 : asSeq st x = some (k, xs)) (q : Q (.d (.int (xs.length : Nat))) st) : wC cLen st [x] Q := ⟨_, _, by simp only [cLen, h1]; rfl, q⟩
theorem wC_lenD {n : Nat} {kvs : List (Key × VL)} (h1 : st[n]? = some (.dk kvs)) (q : Q (.d (.int (kvs.length : Nat))) st) : wC cLenD st [.o n] Q := ⟨_, _, by unfold cLenD; simp only [h1], q⟩
theorem wC_int {i : Int} (q : Q (.d (.int i)) st) : wC cInt st [.d (.int i)] Q := ⟨_, _, rfl, q⟩
theorem wC_abs {i : Int} (q : Q (.d (.int (if i < 0 then -i else i))) st) : wC cAbs st [.d (.int i)] Q := ⟨_, _, rfl, q⟩
theorem wC_list {xs : List VL} {k : Bool} (h1 : asSeq st x = some (k, xs)) (w : wM mk xs st Q) : wC (cList mk) st [x] Q := by
  obtain ⟨r, st', e, q⟩ := w
  exact ⟨r, st', by unfold cList; simp only [h1, Option.bind_some]; exact e, q⟩
theorem wC_tuple {xs : List VL} {k : Bool} (h1 : asSeq st x = some (k, xs)) (w : wM mkT xs st Q) : wC cTuple st [x] Q := by
  obtain ⟨r, st', e, q⟩ := w
  exact ⟨r, st', by unfold cTuple; simp only [h1, Option.bind_some]; exact e, q⟩
theorem wC_sorted {ns : List Int} (h1 : asSeq st x = some (false, (ns.map PyData.int).map VL.d)) (w : wM mk (((sortI ns).map PyData.int).map VL.d) st Q) : wC (cSorted mk) st [x] Q := by
  obtain ⟨r, st', e, q⟩ := w
  refine ⟨r, st', ?_, q⟩
  have e2 : ∀ l : List Int, (l.map PyData.int).map VL.d = l.map fun i => VL.d (.int i) := fun l => by rw [List.map_map]; rfl
  unfold cSorted
  simp only [h1]
  rw [e2, intsOf_map, Option.bind_some, ← e2]
  exact e
theorem wE_sortSet (w : wE a env st fun x st1 => ∃ ns : List Int, asSeq st1 x = some (false, (ns.map PyData.int).map VL.d) ∧ (ns.length < 1000 ∧ (sortU ns).length < 64) ∧ wM mk (((sortU ns).map PyData.int).map VL.d) st1 Q) : wE (eSortSet mk a) env st Q := by
  obtain ⟨x, st1, e1, ns, h1, hl, r, st', e, q⟩ := w
  refine ⟨r, st', ?_, q⟩
  have e2 : ∀ l : List Int, (l.map PyData.int).map VL.d = l.map fun i => VL.d (.int i) := fun l => by rw [List.map_map]; rfl
  unfold eSortSet
  rw [e1]
  show (match asSeq st1 x with
    | some (false, ys) => _
    | _ => _) = _
  rw [h1]
  dsimp only
  rw [e2, intsOf_map, Option.bind_some, if_pos hl, ← e2, e]
  rfl
theorem wE_lenSet (w : wE a env st fun x st1 => ∃ ns : List Int, asSeq st1 x = some (false, (ns.map PyData.int).map VL.d) ∧ ns.length < 1000 ∧ Q (.d (.int ((sortU ns).length : Nat))) st1) : wE (eLenSet a) env st Q := by
  obtain ⟨x, st1, e1, ns, h1, hl, q⟩ := w
  refine ⟨_, st1, ?_, q⟩
  have e2 : ∀ l : List Int, (l.map PyData.int).map VL.d = l.map fun i => VL.d (.int i) := fun l => by rw [List.map_map]; rfl
  unfold eLenSet
  rw [e1]
  show (match asSeq st1 x with
    | some (false, ys) => _
    | _ => _) = _
  rw [h1]
  dsimp only
  rw [e2, intsOf_map, Option.bind_some, if_pos hl]
end
/-! ### objects forgotten -/
theorem cutOk_app (st : Sto) (l : List Ob) : cutOk st (st ++ l) := ⟨by rw [List.length_append]; omega, fun i hi => .inl (List.getElem?_append_left hi)⟩
theorem cutOk_same {st st' : Sto} (h : st'.take st.length = st) : cutOk st st' := by
  have hl : st.length ≤ st'.length := by
    have := congrArg List.length h
    rw [List.length_take] at this
    omega
  refine ⟨hl, fun i hi => .inl ?_⟩
  have : (st'.take st.length)[i]? = st[i]? := by rw [h]
  rw [List.getElem?_take, if_pos hi] at this
  exact this
theorem take_app (st : Sto) (l : List Ob) : (st ++ l).take st.length = st := by
  rw [List.take_append_of_le_length (Nat.le_refl _), List.take_length]
end Sl
namespace Sl
open PySem PySem.Spec PyProof.Rows L2
section
variable {env : Env} {st : Sto} {Q : VL → Sto → Prop} {R : Fl → Prop} {s : SS} {r : VL} {st0 : Sto} {N : Env → Sto → Prop}
theorem seqK_nx (w : wS s env st R) : seqK s R (.nx env st) := w
theorem seqK_rt (w : R (.rt r st)) : seqK s R (.rt r st) := w
theorem seqK_bk (w : R (.bk env st)) : seqK s R (.bk env st) := w
theorem seqK_ct (w : R (.ct env st)) : seqK s R (.ct env st) := w
theorem fnQ_nx (w : Q (.d .none) st) : fnQ Q (.nx env st) := w
theorem fnQ_rt (w : Q r st) : fnQ Q (.rt r st) := w
theorem turn_nx (w : N env st) : turnTo N R (.nx env st) := w
theorem turn_ct (w : N env st) : turnTo N R (.ct env st) := w
theorem turn_bk (w : R (.nx env st)) : turnTo N R (.bk env st) := w
theorem turn_rt (w : R (.rt r st)) : turnTo N R (.rt r st) := w
theorem cutQ_nx (h : cutOk st0 st) (w : R (.nx (cutE st0.length env) (st.take st0.length))) : cutQ st0 R (.nx env st) := ⟨h, w⟩
theorem cutQ_rt {d : PyData} (h : cutOk st0 st) (w : R (.rt (.d d) (st.take st0.length))) : cutQ st0 R (.rt (.d d) st) := ⟨d, rfl, h, w⟩
theorem wM_Dm {l : List PyData} (q : Q (.d (.list l)) st) : wM mkD (l.map .d) st Q := ⟨_, _, mkD_map l st, q⟩
theorem wM_Tm {l : List PyData} (q : Q (.d (.tuple l)) st) : wM mkT (l.map .d) st Q := ⟨_, _, mkT_map l st, q⟩
theorem wC_lenL {l : List PyData} (q : Q (.d (.int (l.length : Nat))) st) : wC cLen st [.d (.list l)] Q := wC_len rfl (by rw [List.length_map]; exact q)
theorem wC_lenT {l : List PyData} (q : Q (.d (.int (l.length : Nat))) st) : wC cLen st [.d (.tuple l)] Q := wC_len rfl (by rw [List.length_map]; exact q)
theorem wC_lenO {n : Nat} {xs : List VL} (h : st[n]? = some (.lst xs)) (q : Q (.d (.int (xs.length : Nat))) st) : wC cLen st [.o n] Q := wC_len (k := false) (by simp only [asSeq, h]) q
theorem wO_ixZ {x : VL} {xs : List VL} {k : Bool} {i : Int} {z : VL} (h1 : asSeq st x = some (k, xs)) (h2 : atI xs i = some z) (q : Q z st) : wO oIx st x (.d (.int i)) Q := by
  refine ⟨_, _, ?_, q⟩
  unfold oIx
  rw [h1]
  show (atI xs i).map _ = _
  rw [h2]
  rfl
theorem asSeq_o {n : Nat} {xs : List VL} (h : st[n]? = some (.lst xs)) : asSeq st (.o n) = some (false, xs) := by simp only [asSeq, h]
theorem size_small {n : Nat} (h : Nat.ble n 1000 = true) : n ≤ sizeLine := Nat.le_trans (Nat.le_of_ble_eq_true h) (by rw [sizeLine_eq]; decide)
theorem size_le {n : Nat} (h : n ≤ 1000) : n ≤ sizeLine := Nat.le_trans h (by rw [sizeLine_eq]; decide)
theorem size_lt {n : Nat} (h : n < 1000) : n < sizeLine := Nat.lt_of_lt_of_le h (by rw [sizeLine_eq]; decide)
theorem pow_ok : (-(2 ^ 64) < (48271 : Int) ∧ (48271 : Int) < 2 ^ 64) := by decide
theorem pow_ok2 : (-(2 ^ 64) < (69621 : Int) ∧ (69621 : Int) < 2 ^ 64) := by decide
theorem pow_ok3 {i : Int} (h0 : -1000000 < i) (h : i < 1000000) : (-(2 ^ 64) < i ∧ i < 2 ^ 64) := ⟨Int.lt_trans (by decide) h0, Int.lt_trans h (by decide)⟩
def mulOk (j : Int) : Bool := decide (j.natAbs < 1000000)
theorem mulOk_ok {j : Int} (h : mulOk j = true) : (-(2 ^ 64) < j ∧ j < 2 ^ 64) := by
  have := of_decide_eq_true h
  exact pow_ok3 (by omega) (by omega)
theorem wO_mulR {i j : Int} (h : mulOk j = true) (q : Q (.d (.int (i * j))) st) : wO oMul st (.d (.int i)) (.d (.int j)) Q := wO_mul (.inl (mulOk_ok h)) q
theorem wO_mulL {i j : Int} (h : mulOk i = true) (q : Q (.d (.int (i * j))) st) : wO oMul st (.d (.int i)) (.d (.int j)) Q := wO_mul (.inr (mulOk_ok h)) q
end
end Sl
namespace Sl
open PySem PySem.Spec PyProof.Rows L2
section
variable {α σ : Type} {g : Tg} {body : SS} {v : α → VL} {xs : List α} {env : Env} {st : Sto} {R : Fl → Prop}
theorem wL_all (p : α → Bool) (enc : Env → Prop) (henc : enc env)
    (step : ∀ a env, a ∈ xs → enc env → ∃ e1, g (v a) env = some e1 ∧ wS body e1 st fun o => (p a = true ∧ ∃ e2, o = .nx e2 st ∧ enc e2) ∨ (p a = false ∧ o = .rt (.d (.bool false)) st))
    (y : xs.all p = true → ∀ e2, enc e2 → R (.nx e2 st)) (n : xs.all p = false → R (.rt (.d (.bool false)) st)) : wL g body (xs.map v) env st R := by
  induction xs generalizing env with
  | nil => exact ⟨_, rfl, y rfl _ henc⟩
  | cons a xs ih =>
    obtain ⟨e1, h1, o, h2, h3⟩ := step a env List.mem_cons_self henc
    unfold wL
    rw [List.map_cons]
    unfold forL
    rw [h1]
    dsimp only
    rw [h2]
    rcases h3 with ⟨hp, e2, rfl, he⟩ | ⟨hp, rfl⟩
    · exact ih he (fun a env ha => step a env (List.mem_cons_of_mem _ ha)) (fun h => y (by rw [List.all_cons, hp, h]; rfl)) fun h => n (by rw [List.all_cons, hp, h]; rfl)
    · exact ⟨_, rfl, n (by rw [List.all_cons, hp]; rfl)⟩
theorem wL_fold (f : σ → α → Option σ) (enc : σ → Env → Sto → Prop) (bad : Sto → Prop) {s : σ} (henc : enc s env st)
    (step : ∀ s a env st, a ∈ xs → enc s env st → ∃ e1, g (v a) env = some e1 ∧ wS body e1 st fun o => (∃ s', f s a = some s' ∧ ∃ e2 st2, o = .nx e2 st2 ∧ enc s' e2 st2) ∨ (f s a = none ∧ ∃ st2, o = .rt (.d (.bool false)) st2 ∧ bad st2))
    (y : ∀ s' e2 st2, xs.foldlM f s = some s' → enc s' e2 st2 → R (.nx e2 st2)) (n : xs.foldlM f s = none → ∀ st2, bad st2 → R (.rt (.d (.bool false)) st2)) : wL g body (xs.map v) env st R := by
  induction xs generalizing env st s with
  | nil => exact ⟨_, rfl, y s _ _ rfl henc⟩
  | cons a xs ih =>
    obtain ⟨e1, h1, o, h2, h3⟩ := step s a env st List.mem_cons_self henc
    unfold wL
    rw [List.map_cons]
    unfold forL
    rw [h1]
    dsimp only
    rw [h2]
    rcases h3 with ⟨s', hf, e2, st2, rfl, he⟩ | ⟨hf, st2, rfl, hb⟩
    · exact ih he (fun s a env st ha => step s a env st (List.mem_cons_of_mem _ ha)) (fun s2 e3 st3 h => y s2 e3 st3 (by rw [List.foldlM_cons, hf]; exact h)) fun h => n (by rw [List.foldlM_cons, hf]; exact h)
    · exact ⟨_, rfl, n (by rw [List.foldlM_cons, hf]; rfl) st2 hb⟩
/-- a loop that always goes on -/
theorem wL_inv (I : Nat → Env → Sto → Prop) (h0 : I 0 env st)
    (step : ∀ i a env st, xs[i]? = some a → I i env st → ∃ e1, g (v a) env = some e1 ∧ wS body e1 st (turnTo (I (i + 1)) fun _ => False))
    (y : ∀ e2 st2, I xs.length e2 st2 → R (.nx e2 st2)) : wL g body (xs.map v) env st R := by
  have key : ∀ (ys : List α) (i : Nat) (env : Env) (st : Sto), xs.drop i = ys → I i env st → ∃ e' st', forL g body (ys.map v) env st = some (.nx e' st') ∧ I (i + ys.length) e' st' := by
    intro ys
    induction ys with
    | nil => exact fun i env st _ h => ⟨_, _, rfl, h⟩
    | cons a ys ih =>
      intro i env st hd h
      have ha : xs[i]? = some a := by
        have : (xs.drop i)[0]? = some a := by rw [hd]; rfl
        rw [List.getElem?_drop] at this
        exact this
      have hd2 : xs.drop (i + 1) = ys := by
        rw [← List.drop_drop, hd]
        rfl
      obtain ⟨e1, h1, o, h2, h3⟩ := step i a env st ha h
      rw [List.map_cons, List.length_cons, Nat.add_comm ys.length 1, ← Nat.add_assoc]
      unfold forL
      rw [h1]
      dsimp only
      rw [h2]
      cases o with
      | nx e2 st2 => exact ih (i + 1) e2 st2 hd2 h3
      | ct e2 st2 => exact ih (i + 1) e2 st2 hd2 h3
      | bk e2 st2 => exact h3.elim
      | rt e2 st2 => exact h3.elim
      | ex c fs st2 => exact h3.elim
  obtain ⟨e', st', h1, h2⟩ := key xs 0 env st (by simp) h0
  rw [Nat.zero_add] at h2
  exact ⟨_, h1, y _ _ h2⟩
end
section
variable {α : Type} {env : Env} {st : Sto} {Q : VL → Sto → Prop} {R : Fl → Prop} {a b c t e : SE} {cs : SL} {mk : Mk} {m : Fn} {s : SS} {tg : Tg} {vs : List Nat} {v : α → VL} {xs : List α}
/-- loops and comprehensions over things of Lean -/
theorem wS_forV (v : α → VL) (xs : List α) (w : wE a env st fun x st1 => ∃ ds, (x = .d (.list ds) ∨ x = .d (.tuple ds)) ∧ ds.map VL.d = xs.map v ∧ wL tg s (xs.map v) env st1 R) : wS (sForS a tg s) env st R :=
  wS_forS (w.mono fun x st1 ⟨ds, h1, h2, h3⟩ => ⟨ds, h1, h2 ▸ h3⟩)
theorem wE_compV (v : α → VL) (xs : List α) (w : wE a env st fun x st1 => ∃ ds, (x = .d (.list ds) ∨ x = .d (.tuple ds)) ∧ ds.map VL.d = xs.map v ∧ ∃ ys st2, compL tg t e (wipeE env vs) (xs.map v) [] st1 = some (ys, st2) ∧ wM mk ys st2 Q) : wE (eCompS mk a tg t e vs) env st Q :=
  wE_compS (w.mono fun x st1 ⟨ds, h1, h2, h3⟩ => ⟨ds, h1, h2 ▸ h3⟩)
/-- a comprehension whose parts change nothing -/
theorem comp_pure (p : α → Bool) (f : α → VL) (hl : xs.length ≤ sizeLine)
    (h : ∀ x, x ∈ xs → ∃ e1, tg (v x) env = some e1 ∧ wE t e1 st (fun y st1 => y = .d (.bool (p x)) ∧ st1 = st) ∧ (p x = true → wE e e1 st fun y st1 => y = f x ∧ st1 = st)) : compL tg t e env (xs.map v) [] st = some ((xs.filter p).map f, st) := by
  refine compL_pure v p f xs [] (by simpa using hl) fun x hx => ?_
  obtain ⟨e1, h1, ⟨y, st1, h2, rfl, rfl⟩, h3⟩ := h x hx
  refine ⟨e1, h1, h2, fun hp => ?_⟩
  obtain ⟨y, st1, h4, rfl, rfl⟩ := h3 hp
  exact h4
end
theorem asSeqD {st : Sto} {x : PyData} {ds : List PyData} (h : x = .list ds ∨ x = .tuple ds) : ∃ k, asSeq st (.d x) = some (k, ds.map .d) := by
  rcases h with rfl | rfl
  · exact ⟨_, rfl⟩
  · exact ⟨_, rfl⟩
end Sl
namespace Sl
open PySem PySem.Spec PyProof.Rows L2
theorem wB_nt {Y N : Prop} (n : N) : wB (.d (.bool (!true))) Y N := wB_f n
theorem wB_nf {Y N : Prop} (y : Y) : wB (.d (.bool (!false))) Y N := wB_t y
section
variable {st : Sto} {Q : VL → Sto → Prop} {y : VL}
theorem wO_inS0 {k : Bool} {i : Int} {r : List Int} (h1 : asSeq st y = some (k, (r.map PyData.int).map VL.d)) (q : Q (.d (.bool (decide (i ∈ r)))) st) : wO (oInS false) st (.d (.int i)) y Q := wO_inS h1 q
theorem wO_inS1 {k : Bool} {i : Int} {r : List Int} (h1 : asSeq st y = some (k, (r.map PyData.int).map VL.d)) (q : Q (.d (.bool (!decide (i ∈ r)))) st) : wO (oInS true) st (.d (.int i)) y Q := wO_inS h1 q
theorem wO_inD0 {i : Int} {n : Nat} {kvs : List (Key × VL)} (h1 : st[n]? = some (.dk kvs)) (q : Q (.d (.bool (valL kvs (.inl i)).isSome)) st) : wO (oInD false) st (.d (.int i)) (.o n) Q := wO_inD h1 q
theorem wO_inD1 {i : Int} {n : Nat} {kvs : List (Key × VL)} (h1 : st[n]? = some (.dk kvs)) (q : Q (.d (.bool (!(valL kvs (.inl i)).isSome))) st) : wO (oInD true) st (.d (.int i)) (.o n) Q := wO_inD h1 q
end
end Sl
namespace Sl
open PySem PySem.Spec PyProof.Rows L2
/-! ### objects at the store's end -/
section
variable {st : Sto} {a b c : Ob} {l : List Ob}
theorem app_get0 : (st ++ a :: l)[st.length]? = some a := by
  rw [List.getElem?_append_right (Nat.le_refl _), Nat.sub_self]
  rfl
theorem app_get1 : (st ++ a :: b :: l)[st.length + 1]? = some b := by
  rw [List.getElem?_append_right (Nat.le_add_right _ 1), Nat.add_sub_cancel_left]
  rfl
theorem app_get2 : (st ++ a :: b :: c :: l)[st.length + 2]? = some c := by
  rw [List.getElem?_append_right (Nat.le_add_right _ _), Nat.add_sub_cancel_left]
  rfl
theorem app_set0 : (st ++ a :: l).set st.length b = st ++ b :: l := by
  rw [List.set_append_right _ _ (Nat.le_refl _), Nat.sub_self]
  rfl
theorem app_set1 {d : Ob} : (st ++ a :: b :: l).set (st.length + 1) d = st ++ a :: d :: l := by
  rw [List.set_append_right _ _ (Nat.le_add_right _ 1), Nat.add_sub_cancel_left]
  rfl
theorem app_set2 {d : Ob} : (st ++ a :: b :: c :: l).set (st.length + 2) d = st ++ a :: b :: d :: l := by
  rw [List.set_append_right _ _ (Nat.le_add_right _ _), Nat.add_sub_cancel_left]
  rfl
end
/-! ### keys -/
theorem valL_put {kvs : List (Key × VL)} {k y : Key} {z : VL} : valL (putL kvs k z) y = if y = k then some z else valL kvs y := by
  unfold putL
  split
  · rename_i h
    induction kvs with
    | nil => cases h
    | cons p kvs ih =>
      obtain ⟨k', v'⟩ := p
      by_cases e : k' = k
      · subst e
        by_cases e2 : y = k'
        · subst e2
          simp [valL]
        · have e3 : ¬ k' = y := fun h => e2 h.symm
          simp only [valL, List.map_cons, if_pos, List.find?_cons, e3, decide_false, if_neg e2]
          have : ∀ l : List (Key × VL), ((l.map fun kv => if kv.1 = k' then (kv.1, z) else kv).find? fun kv => decide (kv.1 = y)).map (·.2) = (l.find? fun kv => decide (kv.1 = y)).map (·.2) := by
            intro l
            induction l with
            | nil => rfl
            | cons q l ihl =>
              obtain ⟨k2, v2⟩ := q
              by_cases e4 : k2 = k'
              · subst e4
                simp only [List.map_cons, if_true, List.find?_cons, e3, decide_false]
                exact ihl
              · simp only [List.map_cons, if_neg e4, List.find?_cons]
                by_cases e5 : k2 = y
                · simp [e5]
                · simp only [e5, decide_false]
                  exact ihl
          exact this kvs
      · have h' : (kvs.any fun kv => decide (kv.1 = k)) = true := by simpa [e] using h
        have ih' := ih h'
        simp only [valL, List.map_cons, if_neg e, List.find?_cons] at ih' ⊢
        by_cases e2 : k' = y
        · subst e2
          simp [e]
        · simp only [e2, decide_false]
          exact ih'
  · rename_i h
    unfold valL
    rw [List.find?_append]
    cases hf : kvs.find? fun kv => decide (kv.1 = y) with
    | some p =>
      have h1 := List.find?_some hf
      have h2 := List.mem_of_find?_eq_some hf
      have : y ≠ k := fun e => h (List.any_eq_true.mpr ⟨p, h2, by rw [← e]; exact h1⟩)
      rw [if_neg this]
      rfl
    | none =>
      rw [Option.none_or]
      by_cases e : k = y
      · subst e
        simp
      · have e' : ¬ y = k := fun h => e h.symm
        simp [e, e']
theorem putL_len {kvs : List (Key × VL)} {k : Key} {z : VL} : (putL kvs k z).length = if (valL kvs k).isSome = true then kvs.length else kvs.length + 1 := by
  have e : (kvs.any fun kv => decide (kv.1 = k)) = (valL kvs k).isSome := by
    unfold valL
    rw [Option.isSome_map, List.isSome_find?]
  unfold putL
  rw [e]
  split <;> simp
/-! ### counting -/
theorem len_le_of_sub : ∀ {l m : List Nat}, l.Nodup → (∀ x ∈ l, x ∈ m) → l.length ≤ m.length
  | [], _, _, _ => Nat.zero_le _
  | x :: l, m, hn, hs => by
    have hx := hs x List.mem_cons_self
    have hn' := List.nodup_cons.mp hn
    have := len_le_of_sub (l := l) (m := m.erase x) hn'.2 fun y hy => by
      refine (List.mem_erase_of_ne fun e => ?_).mpr (hs y (List.mem_cons_of_mem _ hy))
      subst e
      exact hn'.1 hy
    rw [List.length_erase_of_mem hx] at this
    have hp : 0 < m.length := List.length_pos_of_mem hx
    rw [List.length_cons]
    omega
theorem all_in {o : List Nat} {n : Nat} (hn : o.Nodup) (hr : ∀ x ∈ o, x < n) (hl : n ≤ o.length) {x : Nat} (hx : x < n) : x ∈ o := by
  refine Classical.byContradiction fun h => ?_
  have := len_le_of_sub (l := x :: o) (m := List.range n) (List.nodup_cons.mpr ⟨h, hn⟩) fun y hy => by
    rcases List.mem_cons.mp hy with rfl | hy
    · exact List.mem_range.mpr hx
    · exact List.mem_range.mpr (hr y hy)
  rw [List.length_cons, List.length_range] at this
  omega
theorem some_out {o : List Nat} {n : Nat} (hl : o.length < n) : ∃ x, x < n ∧ x ∉ o := by
  refine Classical.byContradiction fun h => ?_
  have := len_le_of_sub (l := List.range n) (m := o) List.nodup_range fun x hx => Classical.byContradiction fun e => h ⟨x, List.mem_range.mp hx, e⟩
  rw [List.length_range] at this
  omega
end Sl
namespace Sl
open PySem PySem.Spec PyProof.Rows L2
theorem rise_len {r : List Int} {n : Nat} (h : r.Pairwise (· < ·)) (hr : ∀ x ∈ r, 0 ≤ x ∧ x < n) : r.length ≤ n := by
  have hn : (r.map Int.toNat).Nodup := by
    refine List.pairwise_map.mpr (List.Pairwise.imp_of_mem (fun {x y} hx hy hxy => ?_) h)
    have := hr x hx
    have := hr y hy
    omega
  have := len_le_of_sub (m := List.range n) hn fun x hx => by
    obtain ⟨y, hy, rfl⟩ := List.mem_map.mp hx
    have := hr y hy
    exact List.mem_range.mpr (by omega)
  rwa [List.length_map, List.length_range] at this
theorem atI_int {α : Type} (xs : List α) {i : Int} (h : 0 ≤ i) : atI xs i = xs[i.toNat]? := by
  have e : ((i.toNat : Nat) : Int) = i := Int.toNat_of_nonneg h
  rw [← e, atI_nat, Int.toNat_natCast]
theorem ixN_int {n : Nat} {i : Int} (h0 : 0 ≤ i) (h : i < n) : ixN n i = some i.toNat := by
  have e : ((i.toNat : Nat) : Int) = i := Int.toNat_of_nonneg h0
  have := ixN_nat (n := n) (i := i.toNat) (by omega)
  rwa [e] at this
section
variable {st : Sto} {Q : VL → Sto → Prop} {R : Fl → Prop} {env : Env}
theorem wO_addD {a b : List PyData} (hl : a.length + b.length ≤ sizeLine) (q : Q (.d (.list (a ++ b))) st) : wO (oAdd mkD) st (.d (.list a)) (.d (.list b)) Q := by
  refine wO_addL (xs := a.map .d) (ys := b.map .d) (fun _ h => by cases h) (fun _ h => by cases h) rfl rfl (by rw [List.length_map, List.length_map]; exact hl) ?_
  rw [← List.map_append]
  exact wM_Dm q
theorem wS_never (h : False) : wS sNever env st R := h.elim
end
end Sl
namespace Sl
open PySem PySem.Spec PyProof.Rows L2
section
variable {α : Type} {g : Tg} {body : SS} {v : α → VL} {xs : List α} {env : Env} {st : Sto} {R : Fl → Prop}
/-- a loop by its turns' numbers; it may end early -/
theorem wL_ix (I : Nat → Env → Sto → Prop) (h0 : I 0 env st)
    (step : ∀ i a env st, xs[i]? = some a → I i env st → ∃ e1, g (v a) env = some e1 ∧ wS body e1 st (turnTo (I (i + 1)) R))
    (y : ∀ e2 st2, I xs.length e2 st2 → R (.nx e2 st2)) : wL g body (xs.map v) env st R := by
  have key : ∀ (ys : List α) (i : Nat) (env : Env) (st : Sto), xs.drop i = ys → I i env st → ∃ o, forL g body (ys.map v) env st = some o ∧ (R o ∨ ∃ e' st', o = .nx e' st' ∧ I (i + ys.length) e' st') := by
    intro ys
    induction ys with
    | nil => exact fun i env st _ h => ⟨_, rfl, .inr ⟨_, _, rfl, h⟩⟩
    | cons a ys ih =>
      intro i env st hd h
      have ha : xs[i]? = some a := by
        have : (xs.drop i)[0]? = some a := by rw [hd]; rfl
        rw [List.getElem?_drop] at this
        exact this
      have hd2 : xs.drop (i + 1) = ys := by
        rw [← List.drop_drop, hd]
        rfl
      obtain ⟨e1, h1, o, h2, h3⟩ := step i a env st ha h
      rw [List.map_cons, List.length_cons, Nat.add_comm ys.length 1, ← Nat.add_assoc]
      unfold forL
      rw [h1]
      dsimp only
      rw [h2]
      cases o with
      | nx e2 st2 => exact ih (i + 1) e2 st2 hd2 h3
      | ct e2 st2 => exact ih (i + 1) e2 st2 hd2 h3
      | bk e2 st2 => exact ⟨_, rfl, .inl h3⟩
      | rt e2 st2 => exact ⟨_, rfl, .inl h3⟩
      | ex c fs st2 => exact ⟨_, rfl, .inl h3⟩
  obtain ⟨o, h1, h2⟩ := key xs 0 env st (by simp) h0
  rw [Nat.zero_add] at h2
  rcases h2 with h2 | ⟨e', st', rfl, h2⟩
  · exact ⟨_, h1, h2⟩
  · exact ⟨_, h1, y _ _ h2⟩
/-- over range(n) -/
theorem wL_rg {n : Nat} (I : Nat → Env → Sto → Prop) (h0 : I 0 env st)
    (step : ∀ i env st, i < n → I i env st → ∃ e1, g (.d (.int (i : Int))) env = some e1 ∧ wS body e1 st (turnTo (I (i + 1)) R))
    (y : ∀ e2 st2, I n e2 st2 → R (.nx e2 st2)) : wL g body ((List.range n).map fun (i : Nat) => VL.d (.int (i : Int))) env st R := by
  refine wL_ix (v := fun (i : Nat) => VL.d (.int (i : Int))) I h0 (fun i a env st ha hI => ?_) fun e2 st2 h => y e2 st2 (by rwa [List.length_range] at h)
  obtain ⟨hi, e⟩ := List.getElem?_eq_some_iff.mp ha
  rw [List.length_range] at hi
  rw [List.getElem_range] at e
  subst e
  exact step _ env st hi hI
end
theorem lenX {st : Sto} {x : PyData} {ds : List PyData} (h : x = .list ds ∨ x = .tuple ds) {Q : VL → Sto → Prop} (q : Q (.d (.int (ds.length : Nat))) st) : wC cLen st [.d x] Q := by
  rcases h with rfl | rfl
  · exact wC_lenL q
  · exact wC_lenT q
theorem ixX {st : Sto} {x : PyData} {ds : List PyData} {i : Nat} {d : PyData} (h : x = .list ds ∨ x = .tuple ds) (hd : ds[i]? = some d) {Q : VL → Sto → Prop} (q : Q (.d d) st) : wO oIx st (.d x) (.d (.int (i : Int))) Q := by
  obtain ⟨k, e⟩ := asSeqD (st := st) h
  refine wO_ix e (z := .d d) ?_ q
  rw [List.getElem?_map, hd]
  rfl
end Sl
namespace Sl
open PySem PySem.Spec PyProof.Rows L2
/-- a walk by steps that may fail -/
def RunS {α σ : Type} (S : σ → α → σ → Prop) : σ → List α → σ → Prop
  | s, [], s' => s' = s
  | s, d :: ds, s' => ∃ s1, S s d s1 ∧ RunS S s1 ds s'
theorem wL_run {α σ : Type} {g : Tg} {body : SS} {v : α → VL} {xs : List α} {env : Env} {st : Sto} {R : Fl → Prop} (S : σ → α → σ → Prop) (fn : ∀ s d s1 s2, S s d s1 → S s d s2 → s1 = s2) (enc : Nat → σ → Env → Sto → Prop) (bad : Sto → Prop) {s0 : σ} (h0 : enc 0 s0 env st)
    (step : ∀ i s a env st, xs[i]? = some a → enc i s env st → ∃ e1, g (v a) env = some e1 ∧ wS body e1 st fun o => (∃ s1, S s a s1 ∧ ∃ e2 st2, o = .nx e2 st2 ∧ enc (i + 1) s1 e2 st2) ∨ ((∀ s1, ¬ S s a s1) ∧ ∃ st2, o = .rt (.d (.bool false)) st2 ∧ bad st2))
    (y : ∀ s' e2 st2, RunS S s0 xs s' → (∀ s2, RunS S s0 xs s2 → s2 = s') → enc xs.length s' e2 st2 → R (.nx e2 st2)) (n : (∀ s', ¬ RunS S s0 xs s') → ∀ st2, bad st2 → R (.rt (.d (.bool false)) st2)) : wL g body (xs.map v) env st R := by
  have key : ∀ (ys : List α) (i : Nat) (s : σ) (env : Env) (st : Sto), xs.drop i = ys → enc i s env st → ∃ o, forL g body (ys.map v) env st = some o ∧
      ((∃ s', RunS S s ys s' ∧ (∀ s2, RunS S s ys s2 → s2 = s') ∧ ∃ e2 st2, o = .nx e2 st2 ∧ enc (i + ys.length) s' e2 st2) ∨ ((∀ s', ¬ RunS S s ys s') ∧ ∃ st2, o = .rt (.d (.bool false)) st2 ∧ bad st2)) := by
    intro ys
    induction ys with
    | nil => exact fun i s env st _ h => ⟨_, rfl, .inl ⟨s, rfl, fun s2 h2 => h2, _, _, rfl, h⟩⟩
    | cons a ys ih =>
      intro i s env st hd h
      have ha : xs[i]? = some a := by
        have : (xs.drop i)[0]? = some a := by rw [hd]; rfl
        rw [List.getElem?_drop] at this
        exact this
      have hd2 : xs.drop (i + 1) = ys := by
        rw [← List.drop_drop, hd]
        rfl
      obtain ⟨e1, h1, o, h2, h3⟩ := step i s a env st ha h
      rw [List.map_cons, List.length_cons, Nat.add_comm ys.length 1, ← Nat.add_assoc]
      unfold forL
      rw [h1]
      dsimp only
      rw [h2]
      rcases h3 with ⟨s1, hS, e2, st2, rfl, he⟩ | ⟨hS, st2, rfl, hb⟩
      · obtain ⟨o, k1, k2⟩ := ih (i + 1) s1 e2 st2 hd2 he
        refine ⟨o, k1, ?_⟩
        rcases k2 with ⟨s', k3, k4, k5⟩ | ⟨k3, k4⟩
        · exact .inl ⟨s', ⟨s1, hS, k3⟩, fun s2 ⟨s3, k6, k7⟩ => k4 s2 (fn _ _ _ _ hS k6 ▸ k7), k5⟩
        · exact .inr ⟨fun s' ⟨s3, k6, k7⟩ => k3 s' (fn _ _ _ _ hS k6 ▸ k7), k4⟩
      · exact ⟨_, rfl, .inr ⟨fun s' ⟨s3, k6, _⟩ => hS s3 k6, st2, rfl, hb⟩⟩
  obtain ⟨o, h1, h2⟩ := key xs 0 s0 env st (by simp) h0
  rw [Nat.zero_add] at h2
  rcases h2 with ⟨s', k1, k2, e2, st2, rfl, k3⟩ | ⟨k1, st2, rfl, k2⟩
  · exact ⟨_, h1, y s' e2 st2 k1 k2 k3⟩
  · exact ⟨_, h1, n k1 st2 k2⟩
end Sl
namespace Sl
theorem nodup_len {r : List Int} {n : Nat} (h : r.Nodup) (hr : ∀ x ∈ r, 0 ≤ x ∧ x < n) : r.length ≤ n := by
  have hn : (r.map Int.toNat).Nodup := by
    refine List.pairwise_map.mpr (List.Pairwise.imp_of_mem (fun {x y} hx hy hxy => ?_) h)
    have := hr x hx
    have := hr y hy
    intro e
    exact hxy (by omega)
  have := len_le_of_sub (m := List.range n) hn fun x hx => by
    obtain ⟨y, hy, rfl⟩ := List.mem_map.mp hx
    have := hr y hy
    exact List.mem_range.mpr (by omega)
  rwa [List.length_map, List.length_range] at this
theorem rise_nodup {r : List Int} (h : r.Pairwise (· < ·)) : r.Nodup := h.imp fun {x y} h e => by omega
end Sl
namespace Sl
open PySem PySem.Spec PyProof.Rows L2
/-! ### a store that keeps its shape -/
structure Flt (st A : Sto) : Prop where
  len : A.length = st.length
  at_ : ∀ i : Nat, A[i]? = st[i]? ∨ ∃ b : Ob, A[i]? = some b ∧ b.flat = true
theorem Flt.refl (st : Sto) : Flt st st := ⟨rfl, fun _ => .inl rfl⟩
theorem Flt.set {st A : Sto} (h : Flt st A) {n : Nat} {b : Ob} (hb : b.flat = true) : Flt st (A.set n b) where
  len := by rw [List.length_set, h.len]
  at_ := fun i => by
    by_cases e : i = n
    · subst e
      by_cases hl : i < A.length
      · exact .inr ⟨b, List.getElem?_set_self hl, hb⟩
      · rw [List.set_eq_of_length_le (by omega)]
        exact h.at_ i
    · rw [List.getElem?_set_ne (fun k => e k.symm)]
      exact h.at_ i
theorem Flt.app {st A : Sto} (h : Flt st A) {x y : Ob} (hy : y.flat = true) : Flt (st ++ [x]) (A ++ [y]) where
  len := by rw [List.length_append, List.length_append, h.len]; rfl
  at_ := fun i => by
    by_cases hl : i < st.length
    · rw [List.getElem?_append_left (by rw [h.len]; exact hl), List.getElem?_append_left hl]
      exact h.at_ i
    · by_cases e : i = st.length
      · subst e
        rw [← h.len, List.getElem?_append_right (Nat.le_refl _), Nat.sub_self]
        exact .inr ⟨y, rfl, hy⟩
      · left
        rw [List.getElem?_eq_none_iff.mpr (by rw [List.length_append, h.len, List.length_singleton]; omega), List.getElem?_eq_none_iff.mpr (by rw [List.length_append, List.length_singleton]; omega)]
theorem cutOk_flt {st A l : Sto} (h : Flt st A) : cutOk st (A ++ l) := ⟨by rw [List.length_append, h.len]; omega, fun i hi => by
  rw [List.getElem?_append_left (by rw [h.len]; exact hi)]
  exact h.at_ i⟩
theorem take_flt {st A l : Sto} (h : Flt st A) : (A ++ l).take st.length = A := by
  rw [← h.len]
  exact take_app A l
section
variable {A : Sto} {n : Nat} {a b c d : Ob} {l : List Ob}
theorem getA0 (h : A.length = n) : (A ++ a :: l)[n]? = some a := h ▸ app_get0
theorem getA1 (h : A.length = n) : (A ++ a :: b :: l)[n + 1]? = some b := h ▸ app_get1
theorem setA0 (h : A.length = n) : (A ++ a :: l).set n b = A ++ b :: l := h ▸ app_set0
theorem setA1 (h : A.length = n) : (A ++ a :: b :: l).set (n + 1) d = A ++ a :: d :: l := h ▸ app_set1
theorem set_lo {s : Nat} (h : s < A.length) : (A ++ l).set s a = A.set s a ++ l := List.set_append_left _ _ h
theorem set_id {s : Nat} (h : A[s]? = some a) : A.set s a = A := by
  refine List.ext_getElem? fun i => ?_
  by_cases e : i = s
  · subst e
    rw [h, List.getElem?_set_self (List.getElem?_eq_some_iff.mp h).1]
  · rw [List.getElem?_set_ne fun k => e k.symm]
end
end Sl
namespace Sl
open PySem PySem.Spec PyProof.Rows L2
/-- a comprehension by its turns' numbers -/
theorem compL_ix {α : Type} {g : Tg} {t e : SE} {env : Env} (v : α → VL) (I : Nat → List VL → Sto → Prop) (xs : List α) (st : Sto) (hl : xs.length ≤ sizeLine) (h0 : I 0 [] st)
    (hs : ∀ i a acc st, xs[i]? = some a → I i acc st → ∃ e1, g (v a) env = some e1 ∧ wE t e1 st fun y st1 => wB y (wE e e1 st1 fun z st2 => I (i + 1) (acc ++ [z]) st2) (I (i + 1) acc st1)) :
    ∃ ys st', compL g t e env (xs.map v) [] st = some (ys, st') ∧ I xs.length ys st' := by
  have key : ∀ (zs : List α) (i : Nat) (acc : List VL) (st : Sto), xs.drop i = zs → acc.length ≤ i → I i acc st → ∃ ys st', compL g t e env (zs.map v) acc st = some (ys, st') ∧ I (i + zs.length) ys st' := by
    intro zs
    induction zs with
    | nil => exact fun i acc st _ _ h => ⟨acc, st, rfl, h⟩
    | cons a zs ih =>
      intro i acc st hd ha h
      have hx : xs[i]? = some a := by
        have : (xs.drop i)[0]? = some a := by rw [hd]; rfl
        rw [List.getElem?_drop] at this
        exact this
      have hd2 : xs.drop (i + 1) = zs := by
        rw [← List.drop_drop, hd]
        rfl
      have hi := (List.getElem?_eq_some_iff.mp hx).1
      obtain ⟨e1, h1, y, st1, h2, b, rfl, hy, hn⟩ := hs i a acc st hx h
      rw [List.map_cons, List.length_cons, Nat.add_comm zs.length 1, ← Nat.add_assoc]
      unfold compL
      rw [h1]
      dsimp only
      rw [h2]
      cases b with
      | true =>
        obtain ⟨z, st2, h3, h4⟩ := hy rfl
        dsimp only
        rw [h3]
        dsimp only
        rw [if_pos (by omega)]
        exact ih (i + 1) _ st2 hd2 (by rw [List.length_append, List.length_singleton]; omega) h4
      | false => exact ih (i + 1) acc st1 hd2 (by omega) (hn rfl)
  obtain ⟨ys, st', h1, h2⟩ := key xs 0 [] st (by simp) (Nat.le_refl _) h0
  rw [Nat.zero_add] at h2
  exact ⟨ys, st', h1, h2⟩
def pairP (p : Int × Int) : PyData := .list [.int p.1, .int p.2]
theorem pairsD_map : ∀ ps : List (Int × Int), pairsD (ps.map pairD) = some ps
  | [] => rfl
  | p :: ps => by
    show (pairsD (ps.map pairD)).map _ = _
    rw [pairsD_map ps]
    rfl
theorem wC_sortedP {mk : Mk} {st : Sto} {x : VL} {Q : VL → Sto → Prop} {ps : List (Int × Int)} (h1 : asSeq st x = some (false, ps.map pairD)) (w : wM mk ((sortP ps).map pairD) st Q) : wC (cSortedP mk) st [x] Q := by
  obtain ⟨r, st', e, q⟩ := w
  refine ⟨r, st', ?_, q⟩
  unfold cSortedP
  simp only [h1]
  rw [pairsD_map, Option.bind_some]
  exact e
theorem sortI_lt {ns : List Int} (h : ns.Nodup) : (sortI ns).Pairwise (· < ·) := by
  have h1 := sortI_rises ns
  have h2 : (sortI ns).Nodup := (sortI_perm ns).nodup_iff.mpr h
  exact (List.pairwise_and_iff.mpr ⟨h1, h2⟩).imp fun {a b} ⟨h3, h4⟩ => by
    have : a ≠ b := h4
    omega
end Sl
namespace Sl
open PySem PySem.Spec PyProof.Rows L2
section
variable {env : Env} {st : Sto} {Q : VL → Sto → Prop} {a c t e : SE} {mk : Mk} {tg : Tg} {vs : List Nat}
theorem wZ_fr {n : Nat} {d : PyData} (h : st[n]? = some (.fr d)) (q : Q (.d d) st) : wZ st (.o n) Q := by
  refine ⟨_, _, ?_, q⟩
  unfold frz
  simp only [h]
/-- a comprehension over an object, whose parts change nothing -/
theorem compO_pure {α : Type} {n : Nat} (v : α → VL) (p : α → Bool) (f : α → VL) {xs : List α} (hx : st[n]? = some (.lst (xs.map v))) (hl : xs.length ≤ sizeLine)
    (h : ∀ x, x ∈ xs → ∃ e1, tg (v x) env = some e1 ∧ wE t e1 st (fun y st1 => y = .d (.bool (p x)) ∧ st1 = st) ∧ (p x = true → wE e e1 st fun y st1 => y = f x ∧ st1 = st)) :
    compO tg t e env n ((xs.map v).length + 1) 0 [] st = some ((xs.filter p).map f, st) := by
  have key : ∀ (m i : Nat) (acc : List VL), i + m = xs.length + 1 → acc.length ≤ i → compO tg t e env n m i acc st = if m = 0 then none else some (acc ++ ((xs.drop i).filter p).map f, st) := by
    intro m
    induction m with
    | zero => exact fun i acc _ _ => rfl
    | succ m ih =>
      intro i acc hm ha
      rw [if_neg (Nat.succ_ne_zero m)]
      unfold compO
      have l1 : lstAt st (.o n) = some (n, xs.map v) := by simp only [lstAt, hx]
      rw [l1]
      dsimp only
      rw [List.getElem?_map]
      cases hi : xs[i]? with
      | none =>
        have := List.getElem?_eq_none_iff.mp hi
        rw [List.drop_of_length_le this]
        simp
      | some x =>
        have hil := (List.getElem?_eq_some_iff.mp hi).1
        obtain ⟨e1, h1, ⟨y, st1, h2, rfl, rfl⟩, h3⟩ := h x (List.mem_of_getElem? hi)
        have hd : xs.drop i = x :: xs.drop (i + 1) := by
          rw [← (List.getElem?_eq_some_iff.mp hi).2, List.getElem_cons_drop]
        rw [Option.map_some]
        dsimp only
        rw [h1]
        dsimp only
        rw [h2, hd, List.filter_cons]
        cases hp : p x with
        | true =>
          obtain ⟨z, st2, h4, rfl, rfl⟩ := h3 hp
          dsimp only
          rw [h4]
          dsimp only
          rw [if_pos (by omega), ih (i + 1) _ (by omega) (by rw [List.length_append, List.length_singleton]; omega), if_neg (by omega)]
          simp
        | false =>
          dsimp only
          rw [ih (i + 1) acc (by omega) (by omega), if_neg (by omega)]
          simp
  rw [List.length_map, key (xs.length + 1) 0 [] (by omega) (Nat.le_refl _), if_neg (Nat.succ_ne_zero _)]
  rfl
theorem wE_compO {n : Nat} {xs : List VL} (w : wE c env st fun x st1 => x = .o n ∧ st1[n]? = some (.lst xs) ∧ ∃ ys st2, compO tg t e (wipeE env vs) n (xs.length + 1) 0 [] st1 = some (ys, st2) ∧ wM mk ys st2 Q) : wE (eCompS mk c tg t e vs) env st Q := by
  obtain ⟨x, st1, e1, rfl, hx, ys, st2, e2, z, st3, e3, q⟩ := w
  refine ⟨z, st3, ?_, q⟩
  have hw : wlk st1 (.o n) = some (.inr (n, xs.length)) := by simp only [wlk, hx]
  simp only [eCompS, e1, obind, hw, e2, Option.bind_some, e3, Option.map_some]
end
end Sl
namespace Sl
open PySem PySem.Spec PyProof.Rows L2
theorem compW {α : Type} {g : Tg} {t e : SE} {env : Env} {mk : Mk} {Q : VL → Sto → Prop} {v : α → VL} (I : Nat → List VL → Sto → Prop) {xs : List α} {st : Sto} (hl : xs.length ≤ sizeLine) (h0 : I 0 [] st)
    (hs : ∀ i a acc st, xs[i]? = some a → I i acc st → ∃ e1, g (v a) env = some e1 ∧ wE t e1 st fun y st1 => wB y (wE e e1 st1 fun z st2 => I (i + 1) (acc ++ [z]) st2) (I (i + 1) acc st1))
    (fin : ∀ ys st', I xs.length ys st' → wM mk ys st' Q) : ∃ ys st2, compL g t e env (xs.map v) [] st = some (ys, st2) ∧ wM mk ys st2 Q := by
  obtain ⟨ys, st', h1, h2⟩ := compL_ix v I xs st hl h0 hs
  exact ⟨ys, st', h1, fin ys st' h2⟩
end Sl
set_option Elab.async false
set_option linter.all false
set_option autoImplicit false
set_option maxRecDepth 100000
set_option maxHeartbeats 4000000
namespace K75
open PySem PySem.Spec PyProof.Rows L2 Sl

def top (i : Nat) : Stmt := PySem.Challenge.pw_lastdoor_k75_judges_of_tables_and_slots.main.body.getD i (.Pass ⟨0, 0, 0, 0⟩)
abbrev XE0 : XK := fun _ _ _ => False
theorem pass00 {X : Cx} {E : XK} : Passes CX0 X E := fun _ _ _ _ _ _ _ h => h.elim
abbrev s_is_whole : Stmt := top 1
abbrev NN_is_whole : List Str := ["value"]
theorem sc_is_whole : FnScope ["value"] ["value"] (defScope s_is_whole) := ⟨rfl, rfl, rfl, by decide +kernel, rfl, by decide +kernel, by decide +kernel⟩
abbrev s_is_row : Stmt := top 2
abbrev NN_is_row : List Str := ["value"]
theorem sc_is_row : FnScope ["value"] ["value"] (defScope s_is_row) := ⟨rfl, rfl, rfl, by decide +kernel, rfl, by decide +kernel, by decide +kernel⟩
abbrev s_is_between : Stmt := top 3
abbrev NN_is_between : List Str := ["value", "low", "high"]
theorem sc_is_between : FnScope ["value", "low", "high"] ["value", "low", "high"] (defScope s_is_between) := ⟨rfl, rfl, rfl, by decide +kernel, rfl, by decide +kernel, by decide +kernel⟩
abbrev s_is_rising : Stmt := top 4
abbrev NN_is_rising : List Str := ["value", "last", "number"]
theorem sc_is_rising : FnScope ["value", "last", "number"] ["value"] (defScope s_is_rising) := ⟨rfl, rfl, rfl, by decide +kernel, rfl, by decide +kernel, by decide +kernel⟩
abbrev s_union : Stmt := top 5
abbrev NN_union : List Str := ["first", "second"]
theorem sc_union : FnScope ["first", "second"] ["first", "second"] (defScope s_union) := ⟨rfl, rfl, rfl, by decide +kernel, rfl, by decide +kernel, by decide +kernel⟩
abbrev s_is_needs_row : Stmt := top 15
abbrev NN_is_needs_row : List Str := ["row", "count"]
theorem sc_is_needs_row : FnScope ["row", "count"] ["row", "count"] (defScope s_is_needs_row) := ⟨rfl, rfl, rfl, by decide +kernel, rfl, by decide +kernel, by decide +kernel⟩
abbrev s_is_ready : Stmt := top 16
abbrev NN_is_ready : List Str := ["row", "done", "need"]
theorem sc_is_ready : FnScope ["row", "done", "need"] ["row", "done"] (defScope s_is_ready) := ⟨rfl, rfl, rfl, by decide +kernel, rfl, by decide +kernel, by decide +kernel⟩
abbrev s_order_of : Stmt := top 17
abbrev NN_order_of : List Str := ["table", "order", "done", "_", "ready", "task"]
theorem sc_order_of : FnScope ["table", "order", "done", "_", "ready", "task"] ["table"] (defScope s_order_of) := ⟨rfl, rfl, rfl, by decide +kernel, rfl, by decide +kernel, by decide +kernel⟩
abbrev s_check_table : Stmt := top 18
abbrev NN_check_table : List Str := ["table", "task", "order"]
theorem sc_check_table : FnScope ["table", "task", "order"] ["table"] (defScope s_check_table) := ⟨rfl, rfl, rfl, by decide +kernel, rfl, by decide +kernel, by decide +kernel⟩
abbrev s_all_needs : Stmt := top 19
abbrev NN_all_needs : List Str := ["table", "needs", "task", "found", "need"]
theorem sc_all_needs : FnScope ["table", "needs", "task", "found", "need"] ["table"] (defScope s_all_needs) := ⟨rfl, rfl, rfl, by decide +kernel, rfl, by decide +kernel, by decide +kernel⟩
abbrev s_chain_in : Stmt := top 20
abbrev NN_chain_in : List Str := ["needs", "tasks", "at"]
theorem sc_chain_in : FnScope ["needs", "tasks", "at"] ["needs", "tasks"] (defScope s_chain_in) := ⟨rfl, rfl, rfl, by decide +kernel, rfl, by decide +kernel, by decide +kernel⟩
abbrev s_is_chain : Stmt := top 21
abbrev NN_is_chain : List Str := ["table", "tasks"]
theorem sc_is_chain : FnScope ["table", "tasks"] ["table", "tasks"] (defScope s_is_chain) := ⟨rfl, rfl, rfl, by decide +kernel, rfl, by decide +kernel, by decide +kernel⟩
abbrev s_fits_slot : Stmt := top 23
abbrev NN_fits_slot : List Str := ["table", "slot", "done", "task"]
theorem sc_fits_slot : FnScope ["table", "slot", "done", "task"] ["table", "slot", "done"] (defScope s_fits_slot) := ⟨rfl, rfl, rfl, by decide +kernel, rfl, by decide +kernel, by decide +kernel⟩
abbrev s_is_schedule : Stmt := top 24
abbrev NN_is_schedule : List Str := ["table", "slots", "members", "done", "slot", "task"]
theorem sc_is_schedule : FnScope ["table", "slots", "members", "done", "slot", "task"] ["table", "slots", "members"] (defScope s_is_schedule) := ⟨rfl, rfl, rfl, by decide +kernel, rfl, by decide +kernel, by decide +kernel⟩
abbrev s_needs_all : Stmt := top 26
abbrev NN_needs_all : List Str := ["needs", "block", "before", "task", "need"]
theorem sc_needs_all : FnScope ["needs", "block", "before", "task", "need"] ["needs", "block", "before"] (defScope s_needs_all) := ⟨rfl, rfl, rfl, by decide +kernel, rfl, by decide +kernel, by decide +kernel⟩
abbrev s_are_blocks : Stmt := top 27
abbrev NN_are_blocks : List Str := ["table", "blocks", "needs", "seen", "before", "block", "task"]
theorem sc_are_blocks : FnScope ["table", "blocks", "needs", "seen", "before", "block", "task"] ["table", "blocks"] (defScope s_are_blocks) := ⟨rfl, rfl, rfl, by decide +kernel, rfl, by decide +kernel, by decide +kernel⟩
abbrev s_check_route : Stmt := top 33
abbrev NN_check_route : List Str := ["rooms", "step"]
theorem sc_check_route : FnScope ["rooms", "step"] ["rooms"] (defScope s_check_route) := ⟨rfl, rfl, rfl, by decide +kernel, rfl, by decide +kernel, by decide +kernel⟩
abbrev s_wrong_slot : Stmt := top 34
abbrev NN_wrong_slot : List Str := ["rooms", "slots", "last", "step"]
theorem sc_wrong_slot : FnScope ["rooms", "slots", "last", "step"] ["rooms", "slots"] (defScope s_wrong_slot) := ⟨rfl, rfl, rfl, by decide +kernel, rfl, by decide +kernel, by decide +kernel⟩
abbrev s_check_gap : Stmt := top 35
abbrev NN_check_gap : List Str := ["gap"]
theorem sc_check_gap : FnScope ["gap"] ["gap"] (defScope s_check_gap) := ⟨rfl, rfl, rfl, by decide +kernel, rfl, by decide +kernel, by decide +kernel⟩
abbrev s_meeting : Stmt := top 36
abbrev NN_meeting : List Str := ["rooms", "slots", "gap", "later", "step"]
theorem sc_meeting : FnScope ["rooms", "slots", "gap", "later", "step"] ["rooms", "slots", "gap"] (defScope s_meeting) := ⟨rfl, rfl, rfl, by decide +kernel, rfl, by decide +kernel, by decide +kernel⟩
abbrev s_are_slots : Stmt := top 37
abbrev NN_are_slots : List Str := ["rooms", "gap", "slots"]
theorem sc_are_slots : FnScope ["rooms", "gap", "slots"] ["rooms", "gap", "slots"] (defScope s_are_slots) := ⟨rfl, rfl, rfl, by decide +kernel, rfl, by decide +kernel, by decide +kernel⟩
abbrev s_are_independent : Stmt := top 39
abbrev NN_are_independent : List Str := ["table", "tasks", "needs", "task", "other"]
theorem sc_are_independent : FnScope ["table", "tasks", "needs", "task", "other"] ["table", "tasks"] (defScope s_are_independent) := ⟨rfl, rfl, rfl, by decide +kernel, rfl, by decide +kernel, by decide +kernel⟩
abbrev s_are_rows : Stmt := top 40
abbrev NN_are_rows : List Str := ["table", "rows", "needs", "seen", "row", "task"]
theorem sc_are_rows : FnScope ["table", "rows", "needs", "seen", "row", "task"] ["table", "rows"] (defScope s_are_rows) := ⟨rfl, rfl, rfl, by decide +kernel, rfl, by decide +kernel, by decide +kernel⟩
abbrev s__law_source : Stmt := top 42
abbrev NN__law_source : List Str := ["script", "k", "cell"]
theorem sc__law_source : FnScope ["script", "k", "cell"] ["script", "k"] (defScope s__law_source) := ⟨rfl, rfl, rfl, by decide +kernel, rfl, by decide +kernel, by decide +kernel⟩
abbrev s__law_draw : Stmt := top 43
abbrev NN__law_draw : List Str := ["source", "limit", "value"]
theorem sc__law_draw : FnScope ["source", "limit", "value"] ["source", "limit"] (defScope s__law_draw) := ⟨rfl, rfl, rfl, by decide +kernel, rfl, by decide +kernel, by decide +kernel⟩
abbrev s__law_is_integer : Stmt := top 44
abbrev NN__law_is_integer : List Str := ["actual"]
theorem sc__law_is_integer : FnScope ["actual"] ["actual"] (defScope s__law_is_integer) := ⟨rfl, rfl, rfl, by decide +kernel, rfl, by decide +kernel, by decide +kernel⟩
abbrev s__law_table : Stmt := top 45
abbrev NN__law_table : List Str := ["script", "start", "most", "source", "count", "order", "often", "rows", "at", "other", "task", "pair", "k"]
theorem sc__law_table : FnScope ["script", "start", "most", "source", "count", "order", "often", "rows", "at", "other", "task", "pair", "k"] ["script", "start", "most"] (defScope s__law_table) := ⟨rfl, rfl, rfl, by decide +kernel, rfl, by decide +kernel, by decide +kernel⟩
abbrev s__law_needed : Stmt := top 46
abbrev NN__law_needed : List Str := ["table", "needs", "turn", "grown", "row", "more", "other"]
theorem sc__law_needed : FnScope ["table", "needs", "turn", "grown", "row", "more", "other"] ["table"] (defScope s__law_needed) := ⟨rfl, rfl, rfl, by decide +kernel, rfl, by decide +kernel, by decide +kernel⟩
abbrev s__law_is_row : Stmt := top 47
abbrev NN__law_is_row : List Str := ["value"]
theorem sc__law_is_row : FnScope ["value"] ["value"] (defScope s__law_is_row) := ⟨rfl, rfl, rfl, by decide +kernel, rfl, by decide +kernel, by decide +kernel⟩
abbrev s__law_rising : Stmt := top 48
abbrev NN__law_rising : List Str := ["row", "count", "last", "task"]
theorem sc__law_rising : FnScope ["row", "count", "last", "task"] ["row", "count"] (defScope s__law_rising) := ⟨rfl, rfl, rfl, by decide +kernel, rfl, by decide +kernel, by decide +kernel⟩
abbrev s__law_schedule : Stmt := top 49
abbrev NN__law_schedule : List Str := ["needs", "slots", "members", "done", "slot", "task", "need"]
theorem sc__law_schedule : FnScope ["needs", "slots", "members", "done", "slot", "task", "need"] ["needs", "slots", "members"] (defScope s__law_schedule) := ⟨rfl, rfl, rfl, by decide +kernel, rfl, by decide +kernel, by decide +kernel⟩
abbrev s__law_blocks : Stmt := top 50
abbrev NN__law_blocks : List Str := ["needs", "blocks", "seen", "before", "block", "task", "need"]
theorem sc__law_blocks : FnScope ["needs", "blocks", "seen", "before", "block", "task", "need"] ["needs", "blocks"] (defScope s__law_blocks) := ⟨rfl, rfl, rfl, by decide +kernel, rfl, by decide +kernel, by decide +kernel⟩
abbrev s__law_chain : Stmt := top 51
abbrev NN__law_chain : List Str := ["needs", "tasks", "at"]
theorem sc__law_chain : FnScope ["needs", "tasks", "at"] ["needs", "tasks"] (defScope s__law_chain) := ⟨rfl, rfl, rfl, by decide +kernel, rfl, by decide +kernel, by decide +kernel⟩
abbrev s__law_cover : Stmt := top 52
abbrev NN__law_cover : List Str := ["needs", "rows", "seen", "row"]
theorem sc__law_cover : FnScope ["needs", "rows", "seen", "row"] ["needs", "rows"] (defScope s__law_cover) := ⟨rfl, rfl, rfl, by decide +kernel, rfl, by decide +kernel, by decide +kernel⟩
abbrev s__law_apart : Stmt := top 53
abbrev NN__law_apart : List Str := ["needs", "tasks", "task", "other"]
theorem sc__law_apart : FnScope ["needs", "tasks", "task", "other"] ["needs", "tasks"] (defScope s__law_apart) := ⟨rfl, rfl, rfl, by decide +kernel, rfl, by decide +kernel, by decide +kernel⟩
abbrev s__law_order : Stmt := top 54
abbrev NN__law_order : List Str := ["source", "rows", "order", "turn", "ready", "task", "need"]
theorem sc__law_order : FnScope ["source", "rows", "order", "turn", "ready", "task", "need"] ["source", "rows"] (defScope s__law_order) := ⟨rfl, rfl, rfl, by decide +kernel, rfl, by decide +kernel, by decide +kernel⟩
abbrev s__law_parts : Stmt := top 55
abbrev NN__law_parts : List Str := ["source", "order", "parts", "at", "turn", "size"]
theorem sc__law_parts : FnScope ["source", "order", "parts", "at", "turn", "size"] ["source", "order"] (defScope s__law_parts) := ⟨rfl, rfl, rfl, by decide +kernel, rfl, by decide +kernel, by decide +kernel⟩
abbrev s__law_runs : Stmt := top 56
abbrev NN__law_runs : List Str := ["source", "needs", "order", "rows", "task", "placed", "k"]
theorem sc__law_runs : FnScope ["source", "needs", "order", "rows", "task", "placed", "k"] ["source", "needs", "order"] (defScope s__law_runs) := ⟨rfl, rfl, rfl, by decide +kernel, rfl, by decide +kernel, by decide +kernel⟩
abbrev s__law_bent : Stmt := top 57
abbrev NN__law_bent : List Str := ["source", "parts", "count", "kind", "k", "part", "at", "number", "bent"]
theorem sc__law_bent : FnScope ["source", "parts", "count", "kind", "k", "part", "at", "number", "bent"] ["source", "parts", "count"] (defScope s__law_bent) := ⟨rfl, rfl, rfl, by decide +kernel, rfl, by decide +kernel, by decide +kernel⟩
abbrev s__law_as_tuples : Stmt := top 58
abbrev NN__law_as_tuples : List Str := ["source", "paper", "rows", "part"]
theorem sc__law_as_tuples : FnScope ["source", "paper", "rows", "part"] ["source", "paper"] (defScope s__law_as_tuples) := ⟨rfl, rfl, rfl, by decide +kernel, rfl, by decide +kernel, by decide +kernel⟩
abbrev s__law_says : Stmt := top 59
abbrev NN__law_says : List Str := ["told", "due"]
theorem sc__law_says : FnScope ["told", "due"] ["told", "due"] (defScope s__law_says) := ⟨rfl, rfl, rfl, by decide +kernel, rfl, by decide +kernel, by decide +kernel⟩
abbrev s__law_parts_judged : Stmt := top 60
abbrev NN__law_parts_judged : List Str := ["source", "table", "needs", "members", "turn", "order", "paper", "rows"]
theorem sc__law_parts_judged : FnScope ["source", "table", "needs", "members", "turn", "order", "paper", "rows"] ["source", "table", "needs", "members"] (defScope s__law_parts_judged) := ⟨rfl, rfl, rfl, by decide +kernel, rfl, by decide +kernel, by decide +kernel⟩
abbrev s__law_tasks_judged : Stmt := top 61
abbrev NN__law_tasks_judged : List Str := ["source", "table", "needs", "turn", "order", "tasks", "apart", "task", "paper", "chain", "number", "longer", "other"]
theorem sc__law_tasks_judged : FnScope ["source", "table", "needs", "turn", "order", "tasks", "apart", "task", "paper", "chain", "number", "longer", "other"] ["source", "table", "needs"] (defScope s__law_tasks_judged) := ⟨rfl, rfl, rfl, by decide +kernel, rfl, by decide +kernel, by decide +kernel⟩
abbrev s__law_slots_right : Stmt := top 62
abbrev NN__law_slots_right : List Str := ["rooms", "gap", "slots", "last", "step", "other"]
theorem sc__law_slots_right : FnScope ["rooms", "gap", "slots", "last", "step", "other"] ["rooms", "gap", "slots"] (defScope s__law_slots_right) := ⟨rfl, rfl, rfl, by decide +kernel, rfl, by decide +kernel, by decide +kernel⟩
abbrev s__law_slots_judged : Stmt := top 63
abbrev NN__law_slots_judged : List Str := ["source", "pool", "rooms", "gap", "turn", "slot", "slots", "room", "place", "kind", "k"]
theorem sc__law_slots_judged : FnScope ["source", "pool", "rooms", "gap", "turn", "slot", "slots", "room", "place", "kind", "k"] ["source"] (defScope s__law_slots_judged) := ⟨rfl, rfl, rfl, by decide +kernel, rfl, by decide +kernel, by decide +kernel⟩
abbrev s_law : Stmt := top 64
abbrev NN_law : List Str := ["script", "table", "copy", "needs", "source", "row"]
theorem sc_law : FnScope ["script", "table", "copy", "needs", "source", "row"] ["script"] (defScope s_law) := ⟨rfl, rfl, rfl, by decide +kernel, rfl, by decide +kernel, by decide +kernel⟩
/-! ### what the top leaves -/
structure Wd (K : PySem.W.Frag) (mg : Str → Option Value) : Prop where
  g_is_whole : mg "is_whole" = some (.ref (He.ga K "is_whole"))
  g_is_row : mg "is_row" = some (.ref (He.ga K "is_row"))
  g_is_between : mg "is_between" = some (.ref (He.ga K "is_between"))
  g_is_rising : mg "is_rising" = some (.ref (He.ga K "is_rising"))
  g_union : mg "union" = some (.ref (He.ga K "union"))
  g_is_needs_row : mg "is_needs_row" = some (.ref (He.ga K "is_needs_row"))
  g_is_ready : mg "is_ready" = some (.ref (He.ga K "is_ready"))
  g_order_of : mg "order_of" = some (.ref (He.ga K "order_of"))
  g_check_table : mg "check_table" = some (.ref (He.ga K "check_table"))
  g_all_needs : mg "all_needs" = some (.ref (He.ga K "all_needs"))
  g_chain_in : mg "chain_in" = some (.ref (He.ga K "chain_in"))
  g_is_chain : mg "is_chain" = some (.ref (He.ga K "is_chain"))
  g_fits_slot : mg "fits_slot" = some (.ref (He.ga K "fits_slot"))
  g_is_schedule : mg "is_schedule" = some (.ref (He.ga K "is_schedule"))
  g_needs_all : mg "needs_all" = some (.ref (He.ga K "needs_all"))
  g_are_blocks : mg "are_blocks" = some (.ref (He.ga K "are_blocks"))
  g_check_route : mg "check_route" = some (.ref (He.ga K "check_route"))
  g_wrong_slot : mg "wrong_slot" = some (.ref (He.ga K "wrong_slot"))
  g_check_gap : mg "check_gap" = some (.ref (He.ga K "check_gap"))
  g_meeting : mg "meeting" = some (.ref (He.ga K "meeting"))
  g_are_slots : mg "are_slots" = some (.ref (He.ga K "are_slots"))
  g_are_independent : mg "are_independent" = some (.ref (He.ga K "are_independent"))
  g_are_rows : mg "are_rows" = some (.ref (He.ga K "are_rows"))
  g__law_source : mg "_law_source" = some (.ref (He.ga K "_law_source"))
  g__law_draw : mg "_law_draw" = some (.ref (He.ga K "_law_draw"))
  g__law_is_integer : mg "_law_is_integer" = some (.ref (He.ga K "_law_is_integer"))
  g__law_table : mg "_law_table" = some (.ref (He.ga K "_law_table"))
  g__law_needed : mg "_law_needed" = some (.ref (He.ga K "_law_needed"))
  g__law_is_row : mg "_law_is_row" = some (.ref (He.ga K "_law_is_row"))
  g__law_rising : mg "_law_rising" = some (.ref (He.ga K "_law_rising"))
  g__law_schedule : mg "_law_schedule" = some (.ref (He.ga K "_law_schedule"))
  g__law_blocks : mg "_law_blocks" = some (.ref (He.ga K "_law_blocks"))
  g__law_chain : mg "_law_chain" = some (.ref (He.ga K "_law_chain"))
  g__law_cover : mg "_law_cover" = some (.ref (He.ga K "_law_cover"))
  g__law_apart : mg "_law_apart" = some (.ref (He.ga K "_law_apart"))
  g__law_order : mg "_law_order" = some (.ref (He.ga K "_law_order"))
  g__law_parts : mg "_law_parts" = some (.ref (He.ga K "_law_parts"))
  g__law_runs : mg "_law_runs" = some (.ref (He.ga K "_law_runs"))
  g__law_bent : mg "_law_bent" = some (.ref (He.ga K "_law_bent"))
  g__law_as_tuples : mg "_law_as_tuples" = some (.ref (He.ga K "_law_as_tuples"))
  g__law_says : mg "_law_says" = some (.ref (He.ga K "_law_says"))
  g__law_parts_judged : mg "_law_parts_judged" = some (.ref (He.ga K "_law_parts_judged"))
  g__law_tasks_judged : mg "_law_tasks_judged" = some (.ref (He.ga K "_law_tasks_judged"))
  g__law_slots_right : mg "_law_slots_right" = some (.ref (He.ga K "_law_slots_right"))
  g__law_slots_judged : mg "_law_slots_judged" = some (.ref (He.ga K "_law_slots_judged"))
  g_law : mg "law" = some (.ref (He.ga K "law"))
  d_is_whole : ∃ fd, FunD K "is_whole" "is_whole" (defArgs s_is_whole) (defBody s_is_whole) (defScope s_is_whole) [] [] (He.ga K "is_whole") fd
  d_is_row : ∃ fd, FunD K "is_row" "is_row" (defArgs s_is_row) (defBody s_is_row) (defScope s_is_row) [] [] (He.ga K "is_row") fd
  d_is_between : ∃ fd, FunD K "is_between" "is_between" (defArgs s_is_between) (defBody s_is_between) (defScope s_is_between) [] [] (He.ga K "is_between") fd
  d_is_rising : ∃ fd, FunD K "is_rising" "is_rising" (defArgs s_is_rising) (defBody s_is_rising) (defScope s_is_rising) [] [] (He.ga K "is_rising") fd
  d_union : ∃ fd, FunD K "union" "union" (defArgs s_union) (defBody s_union) (defScope s_union) [] [] (He.ga K "union") fd
  d_is_needs_row : ∃ fd, FunD K "is_needs_row" "is_needs_row" (defArgs s_is_needs_row) (defBody s_is_needs_row) (defScope s_is_needs_row) [] [] (He.ga K "is_needs_row") fd
  d_is_ready : ∃ fd, FunD K "is_ready" "is_ready" (defArgs s_is_ready) (defBody s_is_ready) (defScope s_is_ready) [] [] (He.ga K "is_ready") fd
  d_order_of : ∃ fd, FunD K "order_of" "order_of" (defArgs s_order_of) (defBody s_order_of) (defScope s_order_of) [] [] (He.ga K "order_of") fd
  d_check_table : ∃ fd, FunD K "check_table" "check_table" (defArgs s_check_table) (defBody s_check_table) (defScope s_check_table) [] [] (He.ga K "check_table") fd
  d_all_needs : ∃ fd, FunD K "all_needs" "all_needs" (defArgs s_all_needs) (defBody s_all_needs) (defScope s_all_needs) [] [] (He.ga K "all_needs") fd
  d_chain_in : ∃ fd, FunD K "chain_in" "chain_in" (defArgs s_chain_in) (defBody s_chain_in) (defScope s_chain_in) [] [] (He.ga K "chain_in") fd
  d_is_chain : ∃ fd, FunD K "is_chain" "is_chain" (defArgs s_is_chain) (defBody s_is_chain) (defScope s_is_chain) [] [] (He.ga K "is_chain") fd
  d_fits_slot : ∃ fd, FunD K "fits_slot" "fits_slot" (defArgs s_fits_slot) (defBody s_fits_slot) (defScope s_fits_slot) [] [] (He.ga K "fits_slot") fd
  d_is_schedule : ∃ fd, FunD K "is_schedule" "is_schedule" (defArgs s_is_schedule) (defBody s_is_schedule) (defScope s_is_schedule) [] [("members", V.int 2)] (He.ga K "is_schedule") fd
  d_needs_all : ∃ fd, FunD K "needs_all" "needs_all" (defArgs s_needs_all) (defBody s_needs_all) (defScope s_needs_all) [] [] (He.ga K "needs_all") fd
  d_are_blocks : ∃ fd, FunD K "are_blocks" "are_blocks" (defArgs s_are_blocks) (defBody s_are_blocks) (defScope s_are_blocks) [] [] (He.ga K "are_blocks") fd
  d_check_route : ∃ fd, FunD K "check_route" "check_route" (defArgs s_check_route) (defBody s_check_route) (defScope s_check_route) [] [] (He.ga K "check_route") fd
  d_wrong_slot : ∃ fd, FunD K "wrong_slot" "wrong_slot" (defArgs s_wrong_slot) (defBody s_wrong_slot) (defScope s_wrong_slot) [] [] (He.ga K "wrong_slot") fd
  d_check_gap : ∃ fd, FunD K "check_gap" "check_gap" (defArgs s_check_gap) (defBody s_check_gap) (defScope s_check_gap) [] [] (He.ga K "check_gap") fd
  d_meeting : ∃ fd, FunD K "meeting" "meeting" (defArgs s_meeting) (defBody s_meeting) (defScope s_meeting) [] [] (He.ga K "meeting") fd
  d_are_slots : ∃ fd, FunD K "are_slots" "are_slots" (defArgs s_are_slots) (defBody s_are_slots) (defScope s_are_slots) [] [] (He.ga K "are_slots") fd
  d_are_independent : ∃ fd, FunD K "are_independent" "are_independent" (defArgs s_are_independent) (defBody s_are_independent) (defScope s_are_independent) [] [] (He.ga K "are_independent") fd
  d_are_rows : ∃ fd, FunD K "are_rows" "are_rows" (defArgs s_are_rows) (defBody s_are_rows) (defScope s_are_rows) [] [] (He.ga K "are_rows") fd
  d__law_source : ∃ fd, FunD K "_law_source" "_law_source" (defArgs s__law_source) (defBody s__law_source) (defScope s__law_source) [] [] (He.ga K "_law_source") fd
  d__law_draw : ∃ fd, FunD K "_law_draw" "_law_draw" (defArgs s__law_draw) (defBody s__law_draw) (defScope s__law_draw) [] [] (He.ga K "_law_draw") fd
  d__law_is_integer : ∃ fd, FunD K "_law_is_integer" "_law_is_integer" (defArgs s__law_is_integer) (defBody s__law_is_integer) (defScope s__law_is_integer) [] [] (He.ga K "_law_is_integer") fd
  d__law_table : ∃ fd, FunD K "_law_table" "_law_table" (defArgs s__law_table) (defBody s__law_table) (defScope s__law_table) [] [] (He.ga K "_law_table") fd
  d__law_needed : ∃ fd, FunD K "_law_needed" "_law_needed" (defArgs s__law_needed) (defBody s__law_needed) (defScope s__law_needed) [] [] (He.ga K "_law_needed") fd
  d__law_is_row : ∃ fd, FunD K "_law_is_row" "_law_is_row" (defArgs s__law_is_row) (defBody s__law_is_row) (defScope s__law_is_row) [] [] (He.ga K "_law_is_row") fd
  d__law_rising : ∃ fd, FunD K "_law_rising" "_law_rising" (defArgs s__law_rising) (defBody s__law_rising) (defScope s__law_rising) [] [] (He.ga K "_law_rising") fd
  d__law_schedule : ∃ fd, FunD K "_law_schedule" "_law_schedule" (defArgs s__law_schedule) (defBody s__law_schedule) (defScope s__law_schedule) [] [] (He.ga K "_law_schedule") fd
  d__law_blocks : ∃ fd, FunD K "_law_blocks" "_law_blocks" (defArgs s__law_blocks) (defBody s__law_blocks) (defScope s__law_blocks) [] [] (He.ga K "_law_blocks") fd
  d__law_chain : ∃ fd, FunD K "_law_chain" "_law_chain" (defArgs s__law_chain) (defBody s__law_chain) (defScope s__law_chain) [] [] (He.ga K "_law_chain") fd
  d__law_cover : ∃ fd, FunD K "_law_cover" "_law_cover" (defArgs s__law_cover) (defBody s__law_cover) (defScope s__law_cover) [] [] (He.ga K "_law_cover") fd
  d__law_apart : ∃ fd, FunD K "_law_apart" "_law_apart" (defArgs s__law_apart) (defBody s__law_apart) (defScope s__law_apart) [] [] (He.ga K "_law_apart") fd
  d__law_order : ∃ fd, FunD K "_law_order" "_law_order" (defArgs s__law_order) (defBody s__law_order) (defScope s__law_order) [] [] (He.ga K "_law_order") fd
  d__law_parts : ∃ fd, FunD K "_law_parts" "_law_parts" (defArgs s__law_parts) (defBody s__law_parts) (defScope s__law_parts) [] [] (He.ga K "_law_parts") fd
  d__law_runs : ∃ fd, FunD K "_law_runs" "_law_runs" (defArgs s__law_runs) (defBody s__law_runs) (defScope s__law_runs) [] [] (He.ga K "_law_runs") fd
  d__law_bent : ∃ fd, FunD K "_law_bent" "_law_bent" (defArgs s__law_bent) (defBody s__law_bent) (defScope s__law_bent) [] [] (He.ga K "_law_bent") fd
  d__law_as_tuples : ∃ fd, FunD K "_law_as_tuples" "_law_as_tuples" (defArgs s__law_as_tuples) (defBody s__law_as_tuples) (defScope s__law_as_tuples) [] [] (He.ga K "_law_as_tuples") fd
  d__law_says : ∃ fd, FunD K "_law_says" "_law_says" (defArgs s__law_says) (defBody s__law_says) (defScope s__law_says) [] [] (He.ga K "_law_says") fd
  d__law_parts_judged : ∃ fd, FunD K "_law_parts_judged" "_law_parts_judged" (defArgs s__law_parts_judged) (defBody s__law_parts_judged) (defScope s__law_parts_judged) [] [] (He.ga K "_law_parts_judged") fd
  d__law_tasks_judged : ∃ fd, FunD K "_law_tasks_judged" "_law_tasks_judged" (defArgs s__law_tasks_judged) (defBody s__law_tasks_judged) (defScope s__law_tasks_judged) [] [] (He.ga K "_law_tasks_judged") fd
  d__law_slots_right : ∃ fd, FunD K "_law_slots_right" "_law_slots_right" (defArgs s__law_slots_right) (defBody s__law_slots_right) (defScope s__law_slots_right) [] [] (He.ga K "_law_slots_right") fd
  d__law_slots_judged : ∃ fd, FunD K "_law_slots_judged" "_law_slots_judged" (defArgs s__law_slots_judged) (defBody s__law_slots_judged) (defScope s__law_slots_judged) [] [] (He.ga K "_law_slots_judged") fd
  d_law : ∃ fd, FunD K "law" "law" (defArgs s_law) (defBody s_law) (defScope s_law) [] [] (He.ga K "law") fd
  b_abs : mg "abs" = none
  b_bool : mg "bool" = none
  b_int : mg "int" = none
  b_isinstance : mg "isinstance" = none
  b_len : mg "len" = none
  b_list : mg "list" = none
  b_range : mg "range" = none
  b_set : mg "set" = none
  b_sorted : mg "sorted" = none
  b_tuple : mg "tuple" = none
  i_LAST_ROOM : ∃ t, mg "LAST_ROOM" = some (.int 99 t)
  i_LAST_SLOT : ∃ t, mg "LAST_SLOT" = some (.int 9999 t)
  i_MOST_GAP : ∃ t, mg "MOST_GAP" = some (.int 10000 t)
  i_MOST_STEPS : ∃ t, mg "MOST_STEPS" = some (.int 60 t)
  i_MOST_TASKS : ∃ t, mg "MOST_TASKS" = some (.int 40 t)
/-! ### is_whole -/
noncomputable def c_is_whole : SS := (sRet (eAnd (eIsi [.int] (eVar 0)) (eNot (eIsi [.bool] (eVar 0)))))
noncomputable def m_is_whole : Fn := runFn 1 c_is_whole
/-! ### is_row -/
noncomputable def c_is_row : SS := (sRet (eIsi [.tuple, .list] (eVar 0)))
noncomputable def m_is_row : Fn := runFn 1 c_is_row
/-! ### is_between -/
noncomputable def c_is_between : SS := (sRet (eAnd (eCall (nFn 1 m_is_whole) (aCons (eVar 0) aNil)) (eChain oLe oLe (eVar 1) (eVar 0) (eVar 2))))
noncomputable def m_is_between : Fn := runFn 3 c_is_between
/-! ### is_rising -/
noncomputable def c_is_rising_B0 : SS := (sSeq (sIf (eNot (eCall (nFn 1 m_is_whole) (aCons (eVar 2) aNil))) (sRet (eC (.bool false))) sNx) (sSeq (sIf (eAnd (eOp oNotN (eVar 1) (eC .none)) (eOp oLe (eVar 2) (eVar 1))) (sRet (eC (.bool false))) sNx) (sAsg (eVar 2) (gN 1))))
noncomputable def c_is_rising : SS := (sSeq (sIf (eNot (eCall (nFn 1 m_is_row) (aCons (eVar 0) aNil))) (sRet (eC (.bool false))) sNx) (sSeq (sAsg (eC .none) (gN 1)) (sSeq (sForS (eVar 0) (gN 2) c_is_rising_B0) (sRet (eC (.bool true))))))
noncomputable def m_is_rising : Fn := runFn 3 c_is_rising
/-! ### union -/
noncomputable def c_union : SS := (sRet (eCB cTuple (aCons (eSortSet mkD (eOp (oAdd mkD) (eCB (cList mkD) (aCons (eVar 0) aNil)) (eCB (cList mkD) (aCons (eVar 1) aNil)))) aNil)))
noncomputable def m_union : Fn := runFn 2 c_union
/-! ### is_needs_row -/
noncomputable def c_is_needs_row : SS := (sSeq (sIf (eNot (eCall (nFn 1 m_is_rising) (aCons (eVar 0) aNil))) (sRet (eC (.bool false))) sNx) (sRet (eOr (eOp oEq (eCB cLen (aCons (eVar 0) aNil)) (eC (.int 0))) (eAnd (eOp oLe (eC (.int 0)) (eOp oIx (eVar 0) (eC (.int 0)))) (eOp oLt (eOp oIx (eVar 0) (eNeg (eC (.int 1)))) (eVar 1))))))
noncomputable def m_is_needs_row : Fn := runFn 2 c_is_needs_row
/-! ### is_ready -/
noncomputable def c_is_ready_B0 : SS := (sIf (eOp (oInD true) (eVar 2) (eVar 1)) (sRet (eC (.bool false))) sNx)
noncomputable def c_is_ready : SS := (sSeq (sForS (eVar 0) (gN 2) c_is_ready_B0) (sRet (eC (.bool true))))
noncomputable def m_is_ready : Fn := runFn 3 c_is_ready
/-! ### order_of -/
noncomputable def c_order_of_T0 : SE := (eAnd (eOp (oInD true) (eVar 5) (eVar 2)) (eCall (nFn 2 m_is_ready) (aCons (eOp oIx (eVar 0) (eVar 5)) (aCons (eVar 2) aNil))))
noncomputable def c_order_of_E1 : SE := (eVar 5)
noncomputable def c_order_of_B2 : SS := (sSeq (sAsg (eComp mkD (iR1 (aCons (eCB cLen (aCons (eVar 0) aNil)) aNil)) (gN 5) c_order_of_T0 c_order_of_E1 [5]) (gN 4)) (sSeq (sIf (eOp oEq (eCB cLen (aCons (eVar 4) aNil)) (eC (.int 0))) sBk sNx) (sSeq (sDrop (eAppend (eVar 1) (eOp oIx (eVar 4) (eC (.int 0))))) (sDput (eC (.bool true)) (eVar 2) (eOp oIx (eVar 4) (eC (.int 0)))))))
noncomputable def c_order_of : SS := (sSeq (sAsg (eLst mkN aNil) (gN 1)) (sSeq (sAsg (eDnew false) (gN 2)) (sSeq (sForS (eVar 0) (gN 3) c_order_of_B2) (sRet (eFrz (eVar 1))))))
noncomputable def m_order_of : Fn := fCut (runFn 6 c_order_of)
/-! ### check_table -/
noncomputable def c_check_table_B0 : SS := (sIf (eOp (oInS true) (eVar 1) (eVar 2)) sNever sNx)
noncomputable def c_check_table_B1 : SS := (sIf (eNot (eCall (nFn 2 m_is_needs_row) (aCons (eOp oIx (eVar 0) (eVar 1)) (aCons (eCB cLen (aCons (eVar 0) aNil)) aNil)))) sNever sNx)
noncomputable def c_check_table : SS := (sSeq (sIf (eOp oGt (eCB cLen (aCons (eVar 0) aNil)) (eC (.int 40))) sNever sNx) (sSeq (sFor (iR1 (aCons (eCB cLen (aCons (eVar 0) aNil)) aNil)) (gN 1) c_check_table_B1) (sSeq (sAsg (eCall (nFn 1 m_order_of) (aCons (eVar 0) aNil)) (gN 2)) (sFor (iR1 (aCons (eCB cLen (aCons (eVar 0) aNil)) aNil)) (gN 1) c_check_table_B0))))
noncomputable def m_check_table : Fn := runFn 3 c_check_table
/-! ### all_needs -/
noncomputable def c_all_needs_B0 : SS := (sAsg (eCall (nFn 2 m_union) (aCons (eVar 3) (aCons (eCall (nFn 2 m_union) (aCons (eTup (aCons (eVar 4) aNil)) (aCons (eOp oIx (eVar 1) (eVar 4)) aNil))) aNil))) (gN 3))
noncomputable def c_all_needs_B1 : SS := (sSeq (sAsg (eTup aNil) (gN 3)) (sSeq (sForS (eOp oIx (eVar 0) (eVar 2)) (gN 4) c_all_needs_B0) (sSetL (eVar 3) (eVar 1) (eVar 2))))
noncomputable def c_all_needs : SS := (sSeq (sDrop (eCall (nFn 1 m_check_table) (aCons (eVar 0) aNil))) (sSeq (sAsg (eRep mkN (aCons (eTup aNil) aNil) (eCB cLen (aCons (eVar 0) aNil))) (gN 1)) (sSeq (sForS (eCall (nFn 1 m_order_of) (aCons (eVar 0) aNil)) (gN 2) c_all_needs_B1) (sRet (eCB cTuple (aCons (eVar 1) aNil))))))
noncomputable def m_all_needs : Fn := fCut (runFn 5 c_all_needs)
/-! ### chain_in -/
noncomputable def c_chain_in_B0 : SS := (sSeq (sIf (eNot (eCall (nFn 3 m_is_between) (aCons (eOp oIx (eVar 1) (eVar 2)) (aCons (eC (.int 0)) (aCons (eOp oSub (eCB cLen (aCons (eVar 0) aNil)) (eC (.int 1))) aNil))))) (sRet (eC (.bool false))) sNx) (sIf (eAnd (eOp oGt (eVar 2) (eC (.int 0))) (eOp (oInS true) (eOp oIx (eVar 1) (eOp oSub (eVar 2) (eC (.int 1)))) (eOp oIx (eVar 0) (eOp oIx (eVar 1) (eVar 2))))) (sRet (eC (.bool false))) sNx))
noncomputable def c_chain_in : SS := (sSeq (sIf (eNot (eCall (nFn 1 m_is_row) (aCons (eVar 1) aNil))) (sRet (eC (.bool false))) sNx) (sSeq (sFor (iR1 (aCons (eCB cLen (aCons (eVar 1) aNil)) aNil)) (gN 2) c_chain_in_B0) (sRet (eC (.bool true)))))
noncomputable def m_chain_in : Fn := runFn 3 c_chain_in
/-! ### is_chain -/
noncomputable def c_is_chain : SS := (sRet (eCall (nFn 2 m_chain_in) (aCons (eCall (nFn 1 m_all_needs) (aCons (eVar 0) aNil)) (aCons (eVar 1) aNil))))
noncomputable def m_is_chain : Fn := runFn 2 c_is_chain
/-! ### fits_slot -/
noncomputable def c_fits_slot_B0 : SS := (sSeq (sIf (eNot (eCall (nFn 3 m_is_between) (aCons (eVar 3) (aCons (eC (.int 0)) (aCons (eOp oSub (eCB cLen (aCons (eVar 0) aNil)) (eC (.int 1))) aNil))))) (sRet (eC (.bool false))) sNx) (sIf (eOr (eOp (oInD false) (eVar 3) (eVar 2)) (eNot (eCall (nFn 2 m_is_ready) (aCons (eOp oIx (eVar 0) (eVar 3)) (aCons (eVar 2) aNil))))) (sRet (eC (.bool false))) sNx))
noncomputable def c_fits_slot : SS := (sSeq (sForS (eVar 1) (gN 3) c_fits_slot_B0) (sRet (eC (.bool true))))
noncomputable def m_fits_slot : Fn := runFn 4 c_fits_slot
/-! ### is_schedule -/
noncomputable def c_is_schedule_B0 : SS := (sDput (eC (.bool true)) (eVar 3) (eVar 5))
noncomputable def c_is_schedule_B1 : SS := (sSeq (sIf (eOr (eNot (eCall (nFn 1 m_is_rising) (aCons (eVar 4) aNil))) (eNot (eChain oLe oLe (eC (.int 1)) (eCB cLen (aCons (eVar 4) aNil)) (eVar 2)))) (sRet (eC (.bool false))) sNx) (sSeq (sIf (eNot (eCall (nFn 3 m_fits_slot) (aCons (eVar 0) (aCons (eVar 4) (aCons (eVar 3) aNil))))) (sRet (eC (.bool false))) sNx) (sForS (eVar 4) (gN 5) c_is_schedule_B0)))
noncomputable def c_is_schedule : SS := (sSeq (sDrop (eCall (nFn 1 m_check_table) (aCons (eVar 0) aNil))) (sSeq (sIf (eNot (eCall (nFn 1 m_is_row) (aCons (eVar 1) aNil))) (sRet (eC (.bool false))) sNx) (sSeq (sAsg (eDnew false) (gN 3)) (sSeq (sForS (eVar 1) (gN 4) c_is_schedule_B1) (sRet (eOp oEq (eCB cLenD (aCons (eVar 3) aNil)) (eCB cLen (aCons (eVar 0) aNil))))))))
noncomputable def m_is_schedule : Fn := fCut (runFn 6 c_is_schedule)
/-! ### needs_all -/
noncomputable def c_needs_all_B0 : SS := (sIf (eOp (oInS true) (eVar 4) (eOp oIx (eVar 0) (eVar 3))) (sRet (eC (.bool false))) sNx)
noncomputable def c_needs_all_B1 : SS := (sForS (eVar 2) (gN 4) c_needs_all_B0)
noncomputable def c_needs_all : SS := (sSeq (sForS (eVar 1) (gN 3) c_needs_all_B1) (sRet (eC (.bool true))))
noncomputable def m_needs_all : Fn := runFn 5 c_needs_all
/-! ### are_blocks -/
noncomputable def c_are_blocks_B0 : SS := (sSeq (sIf (eOr (eNot (eCall (nFn 3 m_is_between) (aCons (eVar 6) (aCons (eC (.int 0)) (aCons (eOp oSub (eCB cLen (aCons (eVar 0) aNil)) (eC (.int 1))) aNil))))) (eOp (oInD false) (eVar 6) (eVar 3))) (sRet (eC (.bool false))) sNx) (sDput (eC (.bool true)) (eVar 3) (eVar 6)))
noncomputable def c_are_blocks_B1 : SS := (sSeq (sIf (eOr (eNot (eCall (nFn 1 m_is_rising) (aCons (eVar 5) aNil))) (eOp oEq (eCB cLen (aCons (eVar 5) aNil)) (eC (.int 0)))) (sRet (eC (.bool false))) sNx) (sSeq (sForS (eVar 5) (gN 6) c_are_blocks_B0) (sSeq (sIf (eNot (eCall (nFn 3 m_needs_all) (aCons (eVar 2) (aCons (eVar 5) (aCons (eVar 4) aNil))))) (sRet (eC (.bool false))) sNx) (sAsg (eVar 5) (gN 4)))))
noncomputable def c_are_blocks : SS := (sSeq (sAsg (eCall (nFn 1 m_all_needs) (aCons (eVar 0) aNil)) (gN 2)) (sSeq (sIf (eNot (eCall (nFn 1 m_is_row) (aCons (eVar 1) aNil))) (sRet (eC (.bool false))) sNx) (sSeq (sAsg (eDnew false) (gN 3)) (sSeq (sAsg (eTup aNil) (gN 4)) (sSeq (sForS (eVar 1) (gN 5) c_are_blocks_B1) (sRet (eC (.bool true))))))))
noncomputable def m_are_blocks : Fn := fCut (runFn 7 c_are_blocks)
/-! ### check_route -/
noncomputable def c_check_route_B0 : SS := (sIf (eNot (eCall (nFn 3 m_is_between) (aCons (eOp oIx (eVar 0) (eVar 1)) (aCons (eC (.int 0)) (aCons (eC (.int 99)) aNil))))) sNever sNx)
noncomputable def c_check_route : SS := (sSeq (sIf (eOp oEq (eCB cLen (aCons (eVar 0) aNil)) (eC (.int 0))) sNever sNx) (sSeq (sIf (eOp oGt (eCB cLen (aCons (eVar 0) aNil)) (eC (.int 60))) sNever sNx) (sFor (iR1 (aCons (eCB cLen (aCons (eVar 0) aNil)) aNil)) (gN 1) c_check_route_B0)))
noncomputable def m_check_route : Fn := runFn 2 c_check_route
/-! ### wrong_slot -/
noncomputable def c_wrong_slot_B0 : SS := (sSeq (sIf (eOr (eOp oGe (eVar 3) (eCB cLen (aCons (eVar 1) aNil))) (eNot (eCall (nFn 3 m_is_between) (aCons (eOp oIx (eVar 1) (eVar 3)) (aCons (eOp (oAdd mkD) (eVar 2) (eC (.int 1))) (aCons (eC (.int 9999)) aNil)))))) (sRet (eVar 3)) sNx) (sAsg (eOp oIx (eVar 1) (eVar 3)) (gN 2)))
noncomputable def c_wrong_slot : SS := (sSeq (sAsg (eNeg (eC (.int 1))) (gN 2)) (sSeq (sFor (iR1 (aCons (eCB cLen (aCons (eVar 0) aNil)) aNil)) (gN 3) c_wrong_slot_B0) (sSeq (sIf (eOp oGt (eCB cLen (aCons (eVar 1) aNil)) (eCB cLen (aCons (eVar 0) aNil))) (sRet (eCB cLen (aCons (eVar 0) aNil))) sNx) (sRet (eC .none)))))
noncomputable def m_wrong_slot : Fn := runFn 4 c_wrong_slot
/-! ### check_gap -/
noncomputable def c_check_gap : SS := (sSeq (sIf (eOp oLt (eVar 0) (eC (.int 1))) sNever sNx) (sIf (eOp oGt (eVar 0) (eC (.int 10000))) sNever sNx))
noncomputable def m_check_gap : Fn := runFn 1 c_check_gap
/-! ### meeting -/
noncomputable def c_meeting_B0 : SS := (sIf (eAnd (eOp oEq (eOp oIx (eVar 0) (eVar 4)) (eOp oIx (eVar 0) (eVar 3))) (eOp oEq (eOp oMod (eOp oSub (eOp oIx (eVar 1) (eVar 3)) (eOp oIx (eVar 1) (eVar 4))) (eVar 2)) (eC (.int 0)))) (sRet (eTup (aCons (eOp oIx (eVar 1) (eVar 3)) (aCons (eOp oIx (eVar 0) (eVar 3)) (aCons (eVar 4) (aCons (eVar 3) aNil)))))) sNx)
noncomputable def c_meeting_B1 : SS := (sFor (iR1 (aCons (eVar 3) aNil)) (gN 4) c_meeting_B0)
noncomputable def c_meeting : SS := (sSeq (sFor (iR1 (aCons (eCB cLen (aCons (eVar 0) aNil)) aNil)) (gN 3) c_meeting_B1) (sRet (eC .none)))
noncomputable def m_meeting : Fn := runFn 5 c_meeting
/-! ### are_slots -/
noncomputable def c_are_slots : SS := (sSeq (sDrop (eCall (nFn 1 m_check_route) (aCons (eVar 0) aNil))) (sSeq (sDrop (eCall (nFn 1 m_check_gap) (aCons (eVar 1) aNil))) (sSeq (sIf (eOr (eNot (eCall (nFn 1 m_is_row) (aCons (eVar 2) aNil))) (eOp oNotN (eCall (nFn 2 m_wrong_slot) (aCons (eVar 0) (aCons (eVar 2) aNil))) (eC .none))) (sRet (eC (.bool false))) sNx) (sRet (eAnd (eOp oEq (eOp oIx (eVar 2) (eC (.int 0))) (eC (.int 0))) (eOp oIsN (eCall (nFn 3 m_meeting) (aCons (eVar 0) (aCons (eVar 2) (aCons (eVar 1) aNil)))) (eC .none)))))))
noncomputable def m_are_slots : Fn := runFn 3 c_are_slots
/-! ### are_independent -/
noncomputable def c_are_independent_B0 : SS := (sIf (eOp (oInS false) (eVar 4) (eOp oIx (eVar 2) (eVar 3))) (sRet (eC (.bool false))) sNx)
noncomputable def c_are_independent_B1 : SS := (sForS (eVar 1) (gN 4) c_are_independent_B0)
noncomputable def c_are_independent_B2 : SS := (sIf (eNot (eCall (nFn 3 m_is_between) (aCons (eVar 3) (aCons (eC (.int 0)) (aCons (eOp oSub (eCB cLen (aCons (eVar 2) aNil)) (eC (.int 1))) aNil))))) (sRet (eC (.bool false))) sNx)
noncomputable def c_are_independent : SS := (sSeq (sAsg (eCall (nFn 1 m_all_needs) (aCons (eVar 0) aNil)) (gN 2)) (sSeq (sIf (eNot (eCall (nFn 1 m_is_rising) (aCons (eVar 1) aNil))) (sRet (eC (.bool false))) sNx) (sSeq (sForS (eVar 1) (gN 3) c_are_independent_B2) (sSeq (sForS (eVar 1) (gN 3) c_are_independent_B1) (sRet (eC (.bool true)))))))
noncomputable def m_are_independent : Fn := runFn 5 c_are_independent
/-! ### are_rows -/
noncomputable def c_are_rows_B0 : SS := (sSeq (sIf (eOp (oInD false) (eVar 5) (eVar 3)) (sRet (eC (.bool false))) sNx) (sDput (eC (.bool true)) (eVar 3) (eVar 5)))
noncomputable def c_are_rows_B1 : SS := (sSeq (sIf (eOr (eNot (eCall (nFn 2 m_chain_in) (aCons (eVar 2) (aCons (eVar 4) aNil)))) (eOp oEq (eCB cLen (aCons (eVar 4) aNil)) (eC (.int 0)))) (sRet (eC (.bool false))) sNx) (sForS (eVar 4) (gN 5) c_are_rows_B0))
noncomputable def c_are_rows : SS := (sSeq (sAsg (eCall (nFn 1 m_all_needs) (aCons (eVar 0) aNil)) (gN 2)) (sSeq (sIf (eNot (eCall (nFn 1 m_is_row) (aCons (eVar 1) aNil))) (sRet (eC (.bool false))) sNx) (sSeq (sAsg (eDnew false) (gN 3)) (sSeq (sForS (eVar 1) (gN 4) c_are_rows_B1) (sRet (eOp oEq (eCB cLenD (aCons (eVar 3) aNil)) (eCB cLen (aCons (eVar 2) aNil))))))))
noncomputable def m_are_rows : Fn := fCut (runFn 6 c_are_rows)
/-! ### _law_source -/
noncomputable def c__law_source : SS := (sSeq (sAsg (eC (.int 0)) (gN 2)) (sSeq (sIf (eOp oLt (eVar 1) (eCB cLen (aCons (eVar 0) aNil))) (sAsg (eCB cAbs (aCons (eOp oIx (eVar 0) (eVar 1)) aNil)) (gN 2)) sNx) (sRet (eLst mkN (aCons (eVar 2) (aCons (eOp oMod (eCB cInt (aCons (eOp (oAdd mkD) (eOp (oAdd mkD) (eOp oMul (eVar 2) (eC (.int 48271))) (eC (.int 1013904223))) (eOp oMul (eVar 1) (eC (.int 69621)))) aNil)) (eC (.int 2147483647))) aNil))))))
noncomputable def m__law_source : Fn := runFn 3 c__law_source
/-! ### _law_draw -/
noncomputable def c__law_draw : SS := (sSeq (sIf (eOp oGe (eOp oIx (eVar 0) (eC (.int 0))) (eOp oPow (eC (.int 10)) (eC (.int 6)))) (sSeq (sAsg (eOp oMod (eCB cInt (aCons (eOp oIx (eVar 0) (eC (.int 0))) aNil)) (eVar 1)) (gN 2)) (sSeq (sSetL (eOp oDiv (eOp oIx (eVar 0) (eC (.int 0))) (eVar 1)) (eVar 0) (eC (.int 0))) (sRet (eVar 2)))) sNx) (sSeq (sSetL (eOp oMod (eCB cInt (aCons (eOp (oAdd mkD) (eOp (oAdd mkD) (eOp oMul (eOp oIx (eVar 0) (eC (.int 1))) (eC (.int 48271))) (eOp oIx (eVar 0) (eC (.int 0)))) (eC (.int 1))) aNil)) (eC (.int 2147483647))) (eVar 0) (eC (.int 1))) (sRet (eOp oMod (eCB cInt (aCons (eOp oDiv (eOp oIx (eVar 0) (eC (.int 1))) (eC (.int 11))) aNil)) (eVar 1)))))
noncomputable def m__law_draw : Fn := runFn 3 c__law_draw
/-! ### _law_is_integer -/
noncomputable def c__law_is_integer : SS := (sRet (eAnd (eIsi [.int] (eVar 0)) (eNot (eIsi [.bool] (eVar 0)))))
noncomputable def m__law_is_integer : Fn := runFn 1 c__law_is_integer
/-! ### _law_table -/
noncomputable def c__law_table_T0 : SE := (eOp oLt (eCall (nFn 2 m__law_draw) (aCons (eVar 9) (aCons (eC (.int 6)) aNil))) (eVar 6))
noncomputable def c__law_table_E1 : SE := (eOp oIx (eVar 5) (eVar 12))
noncomputable def c__law_table_B2 : SS := (sSeq (sAsg (eCall (nFn 2 m__law_source) (aCons (eVar 0) (aCons (eOp (oAdd mkD) (eOp (oAdd mkD) (eVar 1) (eC (.int 1))) (eVar 8)) aNil))) (gN 9)) (sSetL (eCB (cSorted mkD) (aCons (eComp mkD (iR1 (aCons (eVar 8) aNil)) (gN 12) c__law_table_T0 c__law_table_E1 [12]) aNil)) (eVar 7) (eOp oIx (eVar 5) (eVar 8))))
noncomputable def c__law_table_E3 : SE := (eLst mkD aNil)
noncomputable def c__law_table_E4 : SE := (eLst mkD (aCons (eCall (nFn 2 m__law_draw) (aCons (eVar 3) (aCons (eC (.int 1000)) aNil))) (aCons (eVar 10) aNil)))
noncomputable def c__law_table_E5 : SE := (eOp oIx (eVar 11) (eC (.int 1)))
noncomputable def c__law_table : SS := (sSeq (sAsg (eCall (nFn 2 m__law_source) (aCons (eVar 0) (aCons (eVar 1) aNil))) (gN 3)) (sSeq (sAsg (eCall (nFn 2 m__law_draw) (aCons (eVar 3) (aCons (eOp (oAdd mkD) (eVar 2) (eC (.int 1))) aNil))) (gN 4)) (sSeq (sAsg (eCompS mkD (eCB (cSortedP mkD) (aCons (eComp mkD (iR1 (aCons (eVar 4) aNil)) (gN 10) (eC (.bool true)) c__law_table_E4 [10]) aNil)) (gN 11) (eC (.bool true)) c__law_table_E5 [11]) (gN 5)) (sSeq (sAsg (eOp oIx (eLst mkD (aCons (eC (.int 0)) (aCons (eC (.int 1)) (aCons (eC (.int 2)) (aCons (eC (.int 4)) aNil))))) (eCall (nFn 2 m__law_draw) (aCons (eVar 3) (aCons (eC (.int 4)) aNil)))) (gN 6)) (sSeq (sAsg (eComp mkN (iR1 (aCons (eVar 4) aNil)) (gN 10) (eC (.bool true)) c__law_table_E3 [10]) (gN 7)) (sSeq (sFor (iR1 (aCons (eVar 4) aNil)) (gN 8) (sCut c__law_table_B2)) (sRet (eFrz (eVar 7)))))))))
noncomputable def m__law_table : Fn := fCut (runFn 13 c__law_table)
/-! ### _law_needed -/
noncomputable def c__law_needed_B0 : SS := (sAsg (eOp (oAdd mkD) (eVar 5) (eOp oIx (eVar 1) (eVar 6))) (gN 5))
noncomputable def c__law_needed_B1 : SS := (sSeq (sAsg (eCB (cList mkD) (aCons (eVar 4) aNil)) (gN 5)) (sSeq (sForS (eVar 4) (gN 6) c__law_needed_B0) (sDrop (eAppend (eVar 3) (eSortSet mkD (eVar 5))))))
noncomputable def c__law_needed_B2 : SS := (sSeq (sAsg (eLst mkN aNil) (gN 3)) (sSeq (sForS (eVar 1) (gN 4) c__law_needed_B1) (sSeq (sIf (eOp oEq (eVar 3) (eVar 1)) sBk sNx) (sAsg (eFrz (eVar 3)) (gN 1)))))
noncomputable def c__law_needed_E3 : SE := (eCB (cList mkD) (aCons (eVar 4) aNil))
noncomputable def c__law_needed : SS := (sSeq (sAsg (eCompS mkD (eVar 0) (gN 4) (eC (.bool true)) c__law_needed_E3 [4]) (gN 1)) (sSeq (sFor (iR1 (aCons (eCB cLen (aCons (eVar 0) aNil)) aNil)) (gN 2) (sCut c__law_needed_B2)) (sRet (eVar 1))))
noncomputable def m__law_needed : Fn := fCut (runFn 7 c__law_needed)
/-! ### _law_is_row -/
noncomputable def c__law_is_row : SS := (sRet (eIsi [.tuple, .list] (eVar 0)))
noncomputable def m__law_is_row : Fn := runFn 1 c__law_is_row
/-! ### _law_rising -/
noncomputable def c__law_rising_B0 : SS := (sSeq (sIf (eOr (eNot (eCall (nFn 1 m__law_is_integer) (aCons (eVar 3) aNil))) (eOr (eOp oLe (eVar 3) (eVar 2)) (eOp oGe (eVar 3) (eVar 1)))) (sRet (eC (.bool false))) sNx) (sAsg (eVar 3) (gN 2)))
noncomputable def c__law_rising : SS := (sSeq (sIf (eNot (eCall (nFn 1 m__law_is_row) (aCons (eVar 0) aNil))) (sRet (eC (.bool false))) sNx) (sSeq (sAsg (eNeg (eC (.int 1))) (gN 2)) (sSeq (sForS (eVar 0) (gN 3) c__law_rising_B0) (sRet (eC (.bool true))))))
noncomputable def m__law_rising : Fn := runFn 4 c__law_rising
/-! ### _law_schedule -/
noncomputable def c__law_schedule_T0 : SE := (eOp (oInS true) (eVar 6) (eVar 3))
noncomputable def c__law_schedule_E1 : SE := (eVar 6)
noncomputable def c__law_schedule_B2 : SS := (sIf (eOr (eOp (oInS false) (eVar 5) (eVar 3)) (eOp oGt (eCB cLen (aCons (eCompS mkD (eOp oIx (eVar 0) (eVar 5)) (gN 6) c__law_schedule_T0 c__law_schedule_E1 [6]) aNil)) (eC (.int 0)))) (sRet (eC (.bool false))) sNx)
noncomputable def c__law_schedule_B3 : SS := (sSeq (sIf (eOr (eNot (eCall (nFn 2 m__law_rising) (aCons (eVar 4) (aCons (eCB cLen (aCons (eVar 0) aNil)) aNil)))) (eOr (eOp oEq (eCB cLen (aCons (eVar 4) aNil)) (eC (.int 0))) (eOp oGt (eCB cLen (aCons (eVar 4) aNil)) (eVar 2)))) (sRet (eC (.bool false))) sNx) (sSeq (sForS (eVar 4) (gN 5) c__law_schedule_B2) (sAsg (eOp (oAdd mkD) (eVar 3) (eCB (cList mkD) (aCons (eVar 4) aNil))) (gN 3))))
noncomputable def c__law_schedule : SS := (sSeq (sIf (eNot (eCall (nFn 1 m__law_is_row) (aCons (eVar 1) aNil))) (sRet (eC (.bool false))) sNx) (sSeq (sAsg (eLst mkD aNil) (gN 3)) (sSeq (sForS (eVar 1) (gN 4) c__law_schedule_B3) (sRet (eOp oEq (eCB cLen (aCons (eVar 3) aNil)) (eCB cLen (aCons (eVar 0) aNil)))))))
noncomputable def m__law_schedule : Fn := runFn 7 c__law_schedule
/-! ### _law_blocks -/
noncomputable def c__law_blocks_T0 : SE := (eOp (oInS true) (eVar 6) (eOp oIx (eVar 0) (eVar 5)))
noncomputable def c__law_blocks_E1 : SE := (eVar 6)
noncomputable def c__law_blocks_B2 : SS := (sIf (eOr (eOp (oInS false) (eVar 5) (eVar 2)) (eOp oGt (eCB cLen (aCons (eCompS mkD (eVar 3) (gN 6) c__law_blocks_T0 c__law_blocks_E1 [6]) aNil)) (eC (.int 0)))) (sRet (eC (.bool false))) sNx)
noncomputable def c__law_blocks_B3 : SS := (sSeq (sIf (eOr (eNot (eCall (nFn 2 m__law_rising) (aCons (eVar 4) (aCons (eCB cLen (aCons (eVar 0) aNil)) aNil)))) (eOp oEq (eCB cLen (aCons (eVar 4) aNil)) (eC (.int 0)))) (sRet (eC (.bool false))) sNx) (sSeq (sForS (eVar 4) (gN 5) c__law_blocks_B2) (sSeq (sAsg (eOp (oAdd mkD) (eVar 2) (eCB (cList mkD) (aCons (eVar 4) aNil))) (gN 2)) (sAsg (eCB (cList mkD) (aCons (eVar 4) aNil)) (gN 3)))))
noncomputable def c__law_blocks : SS := (sSeq (sIf (eNot (eCall (nFn 1 m__law_is_row) (aCons (eVar 1) aNil))) (sRet (eC (.bool false))) sNx) (sSeq (sAsg (eLst mkD aNil) (gN 2)) (sSeq (sAsg (eLst mkD aNil) (gN 3)) (sSeq (sForS (eVar 1) (gN 4) c__law_blocks_B3) (sRet (eC (.bool true)))))))
noncomputable def m__law_blocks : Fn := runFn 7 c__law_blocks
/-! ### _law_chain -/
noncomputable def c__law_chain_B0 : SS := (sSeq (sIf (eOr (eNot (eCall (nFn 1 m__law_is_integer) (aCons (eOp oIx (eVar 1) (eVar 2)) aNil))) (eOr (eOp oLt (eOp oIx (eVar 1) (eVar 2)) (eC (.int 0))) (eOp oGe (eOp oIx (eVar 1) (eVar 2)) (eCB cLen (aCons (eVar 0) aNil))))) (sRet (eC (.bool false))) sNx) (sIf (eAnd (eOp oGt (eVar 2) (eC (.int 0))) (eOp (oInS true) (eOp oIx (eVar 1) (eOp oSub (eVar 2) (eC (.int 1)))) (eOp oIx (eVar 0) (eOp oIx (eVar 1) (eVar 2))))) (sRet (eC (.bool false))) sNx))
noncomputable def c__law_chain : SS := (sSeq (sIf (eNot (eCall (nFn 1 m__law_is_row) (aCons (eVar 1) aNil))) (sRet (eC (.bool false))) sNx) (sSeq (sFor (iR1 (aCons (eCB cLen (aCons (eVar 1) aNil)) aNil)) (gN 2) c__law_chain_B0) (sRet (eC (.bool true)))))
noncomputable def m__law_chain : Fn := runFn 3 c__law_chain
/-! ### _law_cover -/
noncomputable def c__law_cover_B0 : SS := (sSeq (sIf (eOr (eNot (eCall (nFn 2 m__law_chain) (aCons (eVar 0) (aCons (eVar 3) aNil)))) (eOp oEq (eCB cLen (aCons (eVar 3) aNil)) (eC (.int 0)))) (sRet (eC (.bool false))) sNx) (sAsg (eOp (oAdd mkD) (eVar 2) (eCB (cList mkD) (aCons (eVar 3) aNil))) (gN 2)))
noncomputable def c__law_cover : SS := (sSeq (sIf (eNot (eCall (nFn 1 m__law_is_row) (aCons (eVar 1) aNil))) (sRet (eC (.bool false))) sNx) (sSeq (sAsg (eLst mkD aNil) (gN 2)) (sSeq (sForS (eVar 1) (gN 3) c__law_cover_B0) (sRet (eAnd (eOp oEq (eCB cLen (aCons (eVar 2) aNil)) (eCB cLen (aCons (eVar 0) aNil))) (eOp oEq (eLenSet (eVar 2)) (eCB cLen (aCons (eVar 0) aNil))))))))
noncomputable def m__law_cover : Fn := runFn 4 c__law_cover
/-! ### _law_apart -/
noncomputable def c__law_apart_T0 : SE := (eOp (oInS false) (eVar 3) (eOp oIx (eVar 0) (eVar 2)))
noncomputable def c__law_apart_E1 : SE := (eVar 3)
noncomputable def c__law_apart_B2 : SS := (sIf (eOp oGt (eCB cLen (aCons (eCompS mkD (eVar 1) (gN 3) c__law_apart_T0 c__law_apart_E1 [3]) aNil)) (eC (.int 0))) (sRet (eC (.bool false))) sNx)
noncomputable def c__law_apart : SS := (sSeq (sIf (eNot (eCall (nFn 2 m__law_rising) (aCons (eVar 1) (aCons (eCB cLen (aCons (eVar 0) aNil)) aNil)))) (sRet (eC (.bool false))) sNx) (sSeq (sForS (eVar 1) (gN 2) c__law_apart_B2) (sRet (eC (.bool true)))))
noncomputable def m__law_apart : Fn := runFn 4 c__law_apart
/-! ### _law_order -/
noncomputable def c__law_order_T0 : SE := (eOp (oInS true) (eVar 6) (eVar 2))
noncomputable def c__law_order_E1 : SE := (eVar 6)
noncomputable def c__law_order_B2 : SS := (sIf (eAnd (eOp (oInS true) (eVar 5) (eVar 2)) (eOp oEq (eCB cLen (aCons (eCompS mkD (eOp oIx (eVar 1) (eVar 5)) (gN 6) c__law_order_T0 c__law_order_E1 [6]) aNil)) (eC (.int 0)))) (sDrop (eAppend (eVar 4) (eVar 5))) sNx)
noncomputable def c__law_order_B3 : SS := (sSeq (sAsg (eLst mkN aNil) (gN 4)) (sSeq (sFor (iR1 (aCons (eCB cLen (aCons (eVar 1) aNil)) aNil)) (gN 5) c__law_order_B2) (sDrop (eAppend (eVar 2) (eOp oIx (eVar 4) (eCall (nFn 2 m__law_draw) (aCons (eVar 0) (aCons (eCB cLen (aCons (eVar 4) aNil)) aNil))))))))
noncomputable def c__law_order : SS := (sSeq (sAsg (eLst mkN aNil) (gN 2)) (sSeq (sFor (iR1 (aCons (eCB cLen (aCons (eVar 1) aNil)) aNil)) (gN 3) (sCut c__law_order_B3)) (sRet (eFrz (eVar 2)))))
noncomputable def m__law_order : Fn := fCut (runFn 7 c__law_order)
/-! ### _law_parts -/
noncomputable def c__law_parts_B0 : SS := (sIf (eOp oLt (eVar 3) (eCB cLen (aCons (eVar 1) aNil))) (sSeq (sAsg (eOp (oAdd mkD) (eC (.int 1)) (eCall (nFn 2 m__law_draw) (aCons (eVar 0) (aCons (eC (.int 3)) aNil)))) (gN 5)) (sSeq (sDrop (eAppend (eVar 2) (eCB (cSorted mkD) (aCons (eSl mkD (eVar 1) (oSome (eVar 3)) (oSome (eOp (oAdd mkD) (eVar 3) (eVar 5)))) aNil)))) (sAsg (eOp (oAdd mkD) (eVar 3) (eVar 5)) (gN 3)))) sNx)
noncomputable def c__law_parts : SS := (sSeq (sAsg (eLst mkN aNil) (gN 2)) (sSeq (sAsg (eC (.int 0)) (gN 3)) (sSeq (sFor (iR1 (aCons (eCB cLen (aCons (eVar 1) aNil)) aNil)) (gN 4) c__law_parts_B0) (sRet (eFrz (eVar 2))))))
noncomputable def m__law_parts : Fn := fCut (runFn 6 c__law_parts)
/-! ### _law_runs -/
noncomputable def c__law_runs_B0 : SS := (sIf (eAnd (eNot (eVar 5)) (eAnd (eOp (oInS false) (eOp oIx (eOp oIx (eVar 3) (eVar 6)) (eNeg (eC (.int 1)))) (eOp oIx (eVar 1) (eVar 4))) (eOp oGt (eCall (nFn 2 m__law_draw) (aCons (eVar 0) (aCons (eC (.int 4)) aNil))) (eC (.int 0))))) (sSeq (sSetL (eOp (oAdd mkD) (eOp oIx (eVar 3) (eVar 6)) (eLst mkD (aCons (eVar 4) aNil))) (eVar 3) (eVar 6)) (sAsg (eC (.bool true)) (gN 5))) sNx)
noncomputable def c__law_runs_B1 : SS := (sSeq (sAsg (eC (.bool false)) (gN 5)) (sSeq (sFor (iR1 (aCons (eCB cLen (aCons (eVar 3) aNil)) aNil)) (gN 6) c__law_runs_B0) (sIf (eNot (eVar 5)) (sDrop (eAppend (eVar 3) (eLst mkD (aCons (eVar 4) aNil)))) sNx)))
noncomputable def c__law_runs : SS := (sSeq (sAsg (eLst mkN aNil) (gN 3)) (sSeq (sForS (eVar 2) (gN 4) c__law_runs_B1) (sRet (eFrz (eVar 3)))))
noncomputable def m__law_runs : Fn := fCut (runFn 7 c__law_runs)
/-! ### _law_bent -/
noncomputable def c__law_bent : SS := (sSeq (sAsg (eCall (nFn 2 m__law_draw) (aCons (eVar 0) (aCons (eC (.int 14)) aNil))) (gN 3)) (sSeq (sIf (eOp oEq (eVar 3) (eC (.int 13))) (sRet (eOp oIx (eLst mkD (aCons (eC .none) (aCons (eC (.int 7)) (aCons (eC (.bool true)) (aCons (eC (.str (Str.ofString ""))) (aCons (eC (.str (Str.ofString "0"))) (aCons (eTup aNil) (aCons (eLst mkD (aCons (eTup aNil) aNil)) (aCons (eLst mkD (aCons (eC .none) aNil)) (aCons (eLst mkD (aCons (eC (.int 0)) aNil)) (aCons (eLst mkD (aCons (eLst mkD (aCons (eLst mkD (aCons (eC (.int 0)) aNil)) aNil)) aNil)) (aCons (eLst mkD (aCons (eLst mkD (aCons (eC (.str (Str.ofString "0"))) aNil)) aNil)) (aCons (eTup (aCons (eTup (aCons (eC (.int 0)) (aCons (eC (.bool true)) aNil))) aNil)) aNil))))))))))))) (eCall (nFn 2 m__law_draw) (aCons (eVar 0) (aCons (eC (.int 12)) aNil))))) sNx) (sSeq (sIf (eOr (eOp oLt (eVar 3) (eC (.int 5))) (eOp oEq (eCB cLen (aCons (eVar 1) aNil)) (eC (.int 0)))) (sRet (eVar 1)) sNx) (sSeq (sAsg (eCall (nFn 2 m__law_draw) (aCons (eVar 0) (aCons (eCB cLen (aCons (eVar 1) aNil)) aNil))) (gN 4)) (sSeq (sAsg (eOp oIx (eVar 1) (eVar 4)) (gN 5)) (sSeq (sIf (eOp oEq (eCB cLen (aCons (eVar 5) aNil)) (eC (.int 0))) (sRet (eOp (oAdd mkD) (eVar 1) (eLst mkD (aCons (eLst mkD (aCons (eC (.int 0)) aNil)) aNil)))) sNx) (sSeq (sAsg (eCall (nFn 2 m__law_draw) (aCons (eVar 0) (aCons (eCB cLen (aCons (eVar 5) aNil)) aNil))) (gN 6)) (sSeq (sAsg (eOp oSub (eCall (nFn 2 m__law_draw) (aCons (eVar 0) (aCons (eOp (oAdd mkD) (eVar 2) (eC (.int 2))) aNil))) (eC (.int 1))) (gN 7)) (sSeq (sIf (eOp oEq (eVar 3) (eC (.int 5))) (sRet (eOp (oAdd mkD) (eSl mkD (eVar 1) oNone (oSome (eVar 4))) (eSl mkD (eVar 1) (oSome (eOp (oAdd mkD) (eVar 4) (eC (.int 1)))) oNone))) sNx) (sSeq (sIf (eOp oEq (eVar 3) (eC (.int 6))) (sRet (eOp (oAdd mkD) (eVar 1) (eLst mkD (aCons (eVar 5) aNil)))) sNx) (sSeq (sIf (eOp oEq (eVar 3) (eC (.int 7))) (sRet (eOp (oAdd mkD) (eOp (oAdd mkD) (eOp (oAdd mkD) (eSl mkD (eVar 1) oNone (oSome (eVar 4))) (eSl mkD (eVar 1) (oSome (eOp (oAdd mkD) (eVar 4) (eC (.int 1)))) (oSome (eOp (oAdd mkD) (eVar 4) (eC (.int 2)))))) (eLst mkD (aCons (eVar 5) aNil))) (eSl mkD (eVar 1) (oSome (eOp (oAdd mkD) (eVar 4) (eC (.int 2)))) oNone))) sNx) (sSeq (sAsg (eOp (oAdd mkD) (eSl mkD (eVar 5) oNone (oSome (eVar 6))) (eSl mkD (eVar 5) (oSome (eOp (oAdd mkD) (eVar 6) (eC (.int 1)))) oNone)) (gN 8)) (sSeq (sIf (eOp oEq (eVar 3) (eC (.int 9))) (sAsg (eCB (cSorted mkD) (aCons (eOp (oAdd mkD) (eVar 5) (eLst mkD (aCons (eVar 7) aNil))) aNil)) (gN 8)) sNx) (sSeq (sIf (eOp oEq (eVar 3) (eC (.int 10))) (sAsg (eRev mkD (eVar 5)) (gN 8)) sNx) (sSeq (sIf (eOp oEq (eVar 3) (eC (.int 11))) (sAsg (eOp (oAdd mkD) (eOp (oAdd mkD) (eSl mkD (eVar 5) oNone (oSome (eVar 6))) (eLst mkD (aCons (eOp oEq (eOp oIx (eVar 5) (eVar 6)) (eC (.int 1))) aNil))) (eSl mkD (eVar 5) (oSome (eOp (oAdd mkD) (eVar 6) (eC (.int 1)))) oNone)) (gN 8)) sNx) (sSeq (sIf (eOp oEq (eVar 3) (eC (.int 12))) (sAsg (eOp (oAdd mkD) (eOp (oAdd mkD) (eSl mkD (eVar 5) oNone (oSome (eVar 6))) (eLst mkD (aCons (eVar 7) aNil))) (eSl mkD (eVar 5) (oSome (eOp (oAdd mkD) (eVar 6) (eC (.int 1)))) oNone)) (gN 8)) sNx) (sRet (eOp (oAdd mkD) (eOp (oAdd mkD) (eSl mkD (eVar 1) oNone (oSome (eVar 4))) (eLst mkD (aCons (eVar 8) aNil))) (eSl mkD (eVar 1) (oSome (eOp (oAdd mkD) (eVar 4) (eC (.int 1)))) oNone)))))))))))))))))))
noncomputable def m__law_bent : Fn := runFn 9 c__law_bent
/-! ### _law_as_tuples -/
noncomputable def c__law_as_tuples_B0 : SS := (sSeq (sIf (eIsi [.list] (eVar 3)) (sAsg (eCB cTuple (aCons (eVar 3) aNil)) (gN 3)) sNx) (sDrop (eAppend (eVar 2) (eVar 3))))
noncomputable def c__law_as_tuples : SS := (sSeq (sIf (eOr (eNot (eIsi [.list] (eVar 1))) (eOp oEq (eCall (nFn 2 m__law_draw) (aCons (eVar 0) (aCons (eC (.int 2)) aNil))) (eC (.int 0)))) (sRet (eVar 1)) sNx) (sSeq (sAsg (eLst mkN aNil) (gN 2)) (sSeq (sForS (eVar 1) (gN 3) c__law_as_tuples_B0) (sRet (eCB cTuple (aCons (eVar 2) aNil))))))
noncomputable def m__law_as_tuples : Fn := fCut (runFn 4 c__law_as_tuples)
/-! ### _law_says -/
noncomputable def c__law_says : SS := (sRet (eAnd (eIsi [.bool] (eVar 0)) (eOp oEq (eVar 0) (eVar 1))))
noncomputable def m__law_says : Fn := runFn 2 c__law_says
/-! ### _law_parts_judged -/
noncomputable def c__law_parts_judged_B0 : SS := (sSeq (sAsg (eCall (nFn 2 m__law_order) (aCons (eVar 0) (aCons (eVar 1) aNil))) (gN 5)) (sSeq (sAsg (eCall (nFn 2 m__law_as_tuples) (aCons (eVar 0) (aCons (eCall (nFn 3 m__law_bent) (aCons (eVar 0) (aCons (eCall (nFn 2 m__law_parts) (aCons (eVar 0) (aCons (eVar 5) aNil))) (aCons (eCB cLen (aCons (eVar 1) aNil)) aNil)))) aNil))) (gN 6)) (sSeq (sIf (eNot (eCall (nFn 2 m__law_says) (aCons (eCall (nFn (2 + 1) m_is_schedule) (aApp (aCons (eVar 1) (aCons (eVar 6) aNil)) (aCons (eVar 3) aNil))) (aCons (eCall (nFn 3 m__law_schedule) (aCons (eVar 2) (aCons (eVar 6) (aCons (eVar 3) aNil)))) aNil)))) (sRet (eC (.bool false))) sNx) (sSeq (sIf (eNot (eCall (nFn 2 m__law_says) (aCons (eCall (nFn 2 m_are_blocks) (aCons (eVar 1) (aCons (eVar 6) aNil))) (aCons (eCall (nFn 2 m__law_blocks) (aCons (eVar 2) (aCons (eVar 6) aNil))) aNil)))) (sRet (eC (.bool false))) sNx) (sSeq (sIf (eNot (eCall (nFn 2 m__law_says) (aCons (eCall (nFn 2 m_are_rows) (aCons (eVar 1) (aCons (eVar 6) aNil))) (aCons (eCall (nFn 2 m__law_cover) (aCons (eVar 2) (aCons (eVar 6) aNil))) aNil)))) (sRet (eC (.bool false))) sNx) (sSeq (sAsg (eCall (nFn 2 m__law_as_tuples) (aCons (eVar 0) (aCons (eCall (nFn 3 m__law_bent) (aCons (eVar 0) (aCons (eCall (nFn 3 m__law_runs) (aCons (eVar 0) (aCons (eVar 2) (aCons (eVar 5) aNil)))) (aCons (eCB cLen (aCons (eVar 1) aNil)) aNil)))) aNil))) (gN 7)) (sSeq (sIf (eNot (eCall (nFn 2 m__law_says) (aCons (eCall (nFn 2 m_are_rows) (aCons (eVar 1) (aCons (eVar 7) aNil))) (aCons (eCall (nFn 2 m__law_cover) (aCons (eVar 2) (aCons (eVar 7) aNil))) aNil)))) (sRet (eC (.bool false))) sNx) (sIf (eNot (eCall (nFn 2 m__law_says) (aCons (eCall (nFn 2 m_are_blocks) (aCons (eVar 1) (aCons (eVar 7) aNil))) (aCons (eCall (nFn 2 m__law_blocks) (aCons (eVar 2) (aCons (eVar 7) aNil))) aNil)))) (sRet (eC (.bool false))) sNx))))))))
noncomputable def c__law_parts_judged : SS := (sSeq (sFor (iR1 (aCons (eC (.int 4)) aNil)) (gN 4) c__law_parts_judged_B0) (sRet (eC (.bool true))))
noncomputable def m__law_parts_judged : Fn := runFn 8 c__law_parts_judged
/-! ### _law_tasks_judged -/
noncomputable def c__law_tasks_judged_B0 : SS := (sIf (eOr (eOp oEq (eCB cLen (aCons (eVar 9) aNil)) (eC (.int 0))) (eOp (oInS false) (eOp oIx (eVar 9) (eNeg (eC (.int 1)))) (eOp oIx (eVar 2) (eVar 7)))) (sDrop (eAppend (eVar 9) (eVar 7))) sNx)
noncomputable def c__law_tasks_judged_B1 : SS := (sSeq (sIf (eNot (eCall (nFn 2 m__law_says) (aCons (eCall (nFn 2 m_is_chain) (aCons (eVar 1) (aCons (eVar 8) aNil))) (aCons (eCall (nFn 2 m__law_chain) (aCons (eVar 2) (aCons (eVar 8) aNil))) aNil)))) (sRet (eC (.bool false))) sNx) (sIf (eNot (eCall (nFn 2 m__law_says) (aCons (eCall (nFn 2 m_are_independent) (aCons (eVar 1) (aCons (eVar 8) aNil))) (aCons (eCall (nFn 2 m__law_apart) (aCons (eVar 2) (aCons (eVar 8) aNil))) aNil)))) (sRet (eC (.bool false))) sNx))
noncomputable def c__law_tasks_judged_T2 : SE := (eOp (oInS false) (eVar 12) (eOp oIx (eVar 2) (eVar 7)))
noncomputable def c__law_tasks_judged_E3 : SE := (eVar 12)
noncomputable def c__law_tasks_judged_B4 : SS := (sIf (eAnd (eOp oEq (eCB cLen (aCons (eCompS mkD (eVar 6) (gN 12) c__law_tasks_judged_T2 c__law_tasks_judged_E3 [12]) aNil)) (eC (.int 0))) (eOp oGt (eCall (nFn 2 m__law_draw) (aCons (eVar 0) (aCons (eC (.int 3)) aNil))) (eC (.int 0)))) (sDrop (eAppend (eVar 6) (eVar 7))) sNx)
noncomputable def c__law_tasks_judged_T5 : SE := (eOp oGt (eCall (nFn 2 m__law_draw) (aCons (eVar 0) (aCons (eC (.int 3)) aNil))) (eC (.int 0)))
noncomputable def c__law_tasks_judged_E6 : SE := (eVar 7)
noncomputable def c__law_tasks_judged_B7 : SS := (sSeq (sAsg (eCall (nFn 2 m__law_order) (aCons (eVar 0) (aCons (eVar 1) aNil))) (gN 4)) (sSeq (sAsg (eCompS mkD (eVar 4) (gN 7) c__law_tasks_judged_T5 c__law_tasks_judged_E6 [7]) (gN 5)) (sSeq (sAsg (eLst mkN aNil) (gN 6)) (sSeq (sForS (eVar 4) (gN 7) c__law_tasks_judged_B4) (sSeq (sForS (eLst mkD (aCons (eVar 5) (aCons (eCB (cSorted mkD) (aCons (eVar 5) aNil)) (aCons (eCB (cSorted mkD) (aCons (eFrz (eVar 6)) aNil)) (aCons (eFrz (eVar 6)) (aCons (eCall (nFn 3 m__law_bent) (aCons (eVar 0) (aCons (eLst mkD (aCons (eCB (cSorted mkD) (aCons (eFrz (eVar 6)) aNil)) aNil)) (aCons (eCB cLen (aCons (eVar 1) aNil)) aNil)))) aNil)))))) (gN 8) c__law_tasks_judged_B1) (sSeq (sAsg (eLst mkN aNil) (gN 9)) (sSeq (sForS (eVar 4) (gN 7) c__law_tasks_judged_B0) (sSeq (sAsg (eOp oSub (eCall (nFn 2 m__law_draw) (aCons (eVar 0) (aCons (eOp (oAdd mkD) (eCB cLen (aCons (eVar 1) aNil)) (eC (.int 2))) aNil))) (eC (.int 1))) (gN 10)) (sSeq (sAsg (eOp (oAdd mkD) (eVar 9) (eLst mkD (aCons (eVar 10) aNil))) (gN 11)) (sSeq (sIf (eNot (eCall (nFn 2 m__law_says) (aCons (eCall (nFn 2 m_is_chain) (aCons (eVar 1) (aCons (eCB cTuple (aCons (eFrz (eVar 9)) aNil)) aNil))) (aCons (eCall (nFn 2 m__law_chain) (aCons (eVar 2) (aCons (eFrz (eVar 9)) aNil))) aNil)))) (sRet (eC (.bool false))) sNx) (sIf (eNot (eCall (nFn 2 m__law_says) (aCons (eCall (nFn 2 m_is_chain) (aCons (eVar 1) (aCons (eVar 11) aNil))) (aCons (eCall (nFn 2 m__law_chain) (aCons (eVar 2) (aCons (eVar 11) aNil))) aNil)))) (sRet (eC (.bool false))) sNx)))))))))))
noncomputable def c__law_tasks_judged : SS := (sSeq (sFor (iR1 (aCons (eC (.int 5)) aNil)) (gN 3) (sCut c__law_tasks_judged_B7)) (sRet (eC (.bool true))))
noncomputable def m__law_tasks_judged : Fn := runFn 13 c__law_tasks_judged
/-! ### _law_slots_right -/
noncomputable def c__law_slots_right_B0 : SS := (sIf (eAnd (eOp oEq (eOp oIx (eVar 0) (eVar 5)) (eOp oIx (eVar 0) (eVar 4))) (eOp oEq (eOp oMod (eCB cInt (aCons (eOp oSub (eOp oIx (eVar 2) (eVar 4)) (eOp oIx (eVar 2) (eVar 5))) aNil)) (eVar 1)) (eC (.int 0)))) (sRet (eC (.bool false))) sNx)
noncomputable def c__law_slots_right_B1 : SS := (sSeq (sIf (eOr (eNot (eCall (nFn 1 m__law_is_integer) (aCons (eOp oIx (eVar 2) (eVar 4)) aNil))) (eOr (eOp oLe (eOp oIx (eVar 2) (eVar 4)) (eVar 3)) (eOp oGt (eOp oIx (eVar 2) (eVar 4)) (eC (.int 9999))))) (sRet (eC (.bool false))) sNx) (sSeq (sAsg (eOp oIx (eVar 2) (eVar 4)) (gN 3)) (sFor (iR1 (aCons (eVar 4) aNil)) (gN 5) c__law_slots_right_B0)))
noncomputable def c__law_slots_right : SS := (sSeq (sIf (eOr (eNot (eCall (nFn 1 m__law_is_row) (aCons (eVar 2) aNil))) (eOp oNe (eCB cLen (aCons (eVar 2) aNil)) (eCB cLen (aCons (eVar 0) aNil)))) (sRet (eC (.bool false))) sNx) (sSeq (sAsg (eNeg (eC (.int 1))) (gN 3)) (sSeq (sFor (iR1 (aCons (eCB cLen (aCons (eVar 2) aNil)) aNil)) (gN 4) c__law_slots_right_B1) (sRet (eOp oEq (eOp oIx (eVar 2) (eC (.int 0))) (eC (.int 0)))))))
noncomputable def m__law_slots_right : Fn := runFn 6 c__law_slots_right
/-! ### _law_slots_judged -/
noncomputable def c__law_slots_judged_B0 : SS := (sSeq (sDrop (eAppend (eVar 6) (eVar 5))) (sAsg (eOp (oAdd mkD) (eOp (oAdd mkD) (eVar 5) (eC (.int 1))) (eCall (nFn 2 m__law_draw) (aCons (eVar 0) (aCons (eC (.int 3)) aNil)))) (gN 5)))
noncomputable def c__law_slots_judged_B1 : SS := (sSeq (sAsg (eOp oIx (eLst mkD (aCons (eC (.int 0)) (aCons (eC (.int 0)) (aCons (eC (.int 0)) (aCons (eC (.int 1)) aNil))))) (eCall (nFn 2 m__law_draw) (aCons (eVar 0) (aCons (eC (.int 4)) aNil)))) (gN 5)) (sSeq (sAsg (eLst mkN aNil) (gN 6)) (sSeq (sForS (eVar 2) (gN 7) c__law_slots_judged_B0) (sSeq (sAsg (eCall (nFn 2 m__law_draw) (aCons (eVar 0) (aCons (eCB cLen (aCons (eVar 6) aNil)) aNil))) (gN 8)) (sSeq (sAsg (eCall (nFn 2 m__law_draw) (aCons (eVar 0) (aCons (eC (.int 9)) aNil))) (gN 9)) (sSeq (sIf (eOp oLt (eVar 9) (eC (.int 5))) (sSetL (eOp (oAdd mkD) (eOp oIx (eVar 6) (eVar 8)) (eOp oIx (eLst mkD (aCons (eC (.int 0)) (aCons (eC (.int 0)) (aCons (eC (.int 1)) (aCons (eVar 3) (aCons (eOp oMul (eC (.int 2)) (eVar 3)) aNil)))))) (eVar 9))) (eVar 6) (eVar 8)) sNx) (sSeq (sIf (eOp oEq (eVar 9) (eC (.int 5))) (sAsg (eOp (oAdd mkN) (eSl mkD (eVar 6) oNone (oSome (eVar 8))) (eSl mkD (eVar 6) (oSome (eOp (oAdd mkD) (eVar 8) (eC (.int 1)))) oNone)) (gN 6)) sNx) (sSeq (sIf (eOp oEq (eVar 9) (eC (.int 6))) (sAsg (eOp (oAdd mkN) (eVar 6) (eLst mkD (aCons (eVar 5) aNil))) (gN 6)) sNx) (sSeq (sIf (eOp oEq (eVar 9) (eC (.int 7))) (sSetL (eOp oIx (eLst mkD (aCons (eC (.bool true)) (aCons (eC (.bool false)) (aCons (eC .none) (aCons (eNeg (eC (.int 1))) (aCons (eC (.int 10000)) (aCons (eC (.str (Str.ofString "0"))) aNil))))))) (eCall (nFn 2 m__law_draw) (aCons (eVar 0) (aCons (eC (.int 6)) aNil)))) (eVar 6) (eVar 8)) sNx) (sIf (eNot (eCall (nFn 2 m__law_says) (aCons (eCall (nFn 3 m_are_slots) (aCons (eVar 2) (aCons (eVar 3) (aCons (eFrz (eVar 6)) aNil)))) (aCons (eCall (nFn 3 m__law_slots_right) (aCons (eVar 2) (aCons (eVar 3) (aCons (eFrz (eVar 6)) aNil)))) aNil)))) (sRet (eC (.bool false))) sNx))))))))))
noncomputable def c__law_slots_judged_E2 : SE := (eOp oIx (eVar 1) (eCall (nFn 2 m__law_draw) (aCons (eVar 0) (aCons (eCB cLen (aCons (eVar 1) aNil)) aNil))))
noncomputable def c__law_slots_judged_E3 : SE := (eCall (nFn 2 m__law_draw) (aCons (eVar 0) (aCons (eC (.int 100)) aNil)))
noncomputable def c__law_slots_judged : SS := (sSeq (sAsg (eComp mkD (iR1 (aCons (eOp (oAdd mkD) (eC (.int 1)) (eCall (nFn 2 m__law_draw) (aCons (eVar 0) (aCons (eC (.int 4)) aNil)))) aNil)) (gN 10) (eC (.bool true)) c__law_slots_judged_E3 [10]) (gN 1)) (sSeq (sAsg (eComp mkD (iR1 (aCons (eOp (oAdd mkD) (eC (.int 1)) (eCall (nFn 2 m__law_draw) (aCons (eVar 0) (aCons (eC (.int 10)) aNil)))) aNil)) (gN 10) (eC (.bool true)) c__law_slots_judged_E2 [10]) (gN 2)) (sSeq (sAsg (eOp (oAdd mkD) (eC (.int 1)) (eCall (nFn 2 m__law_draw) (aCons (eVar 0) (aCons (eC (.int 8)) aNil)))) (gN 3)) (sSeq (sFor (iR1 (aCons (eC (.int 6)) aNil)) (gN 4) (sCut c__law_slots_judged_B1)) (sRet (eC (.bool true)))))))
noncomputable def m__law_slots_judged : Fn := runFn 11 c__law_slots_judged
/-! ### law -/
noncomputable def c_law_E0 : SE := (eCB (cList mkD) (aCons (eVar 5) aNil))
noncomputable def c_law : SS := (sSeq (sAsg (eCall (nFn 3 m__law_table) (aCons (eVar 0) (aCons (eC (.int 1)) (aCons (eC (.int 10)) aNil)))) (gN 1)) (sSeq (sAsg (eCompS mkD (eVar 1) (gN 5) (eC (.bool true)) c_law_E0 [5]) (gN 2)) (sSeq (sAsg (eCall (nFn 1 m__law_needed) (aCons (eVar 2) aNil)) (gN 3)) (sSeq (sAsg (eCall (nFn 2 m__law_source) (aCons (eVar 0) (aCons (eC (.int 20)) aNil))) (gN 4)) (sSeq (sIf (eNot (eCall (nFn 4 m__law_parts_judged) (aCons (eVar 4) (aCons (eVar 1) (aCons (eVar 3) (aCons (eOp (oAdd mkD) (eC (.int 1)) (eCall (nFn 2 m__law_draw) (aCons (eVar 4) (aCons (eC (.int 4)) aNil)))) aNil)))))) (sRet (eC (.bool false))) sNx) (sSeq (sIf (eNot (eCall (nFn 3 m__law_tasks_judged) (aCons (eCall (nFn 2 m__law_source) (aCons (eVar 0) (aCons (eC (.int 21)) aNil))) (aCons (eVar 1) (aCons (eVar 3) aNil))))) (sRet (eC (.bool false))) sNx) (sRet (eAnd (eCall (nFn 1 m__law_slots_judged) (aCons (eCall (nFn 2 m__law_source) (aCons (eVar 0) (aCons (eC (.int 22)) aNil))) aNil)) (eOp oEq (eVar 1) (eVar 2))))))))))
noncomputable def m_law : Fn := runFn 6 c_law
section
variable {P : Program} {w : World} {K : PySem.W.Frag} {mg : Str → Option Value} {base : Heap} {Pr : Par}
theorem bn_is_whole (W : Wd K mg) : Binds K W.d_is_whole.choose ["value"] [] := W.d_is_whole.choose_spec.bindsN fun _ _ _ _ _ _ us hl => match us, hl with | [_], _ => rfl
theorem ok_is_whole (W : Wd K mg) : FnOk P w K mg base CX0 1 (He.ga K "is_whole") W.d_is_whole.choose ["value"] (spF K Pr 1 m_is_whole) := by
  refine FunD.ok W.d_is_whole.choose_spec sc_is_whole (fun _ _ _ _ h => spF_len h) fun cdv A outer s H vs Q E hr h => ?_
  have hu := hu_of hr
  refine ⟨rdS K Pr E c_is_whole, ?_, body_rd (N := ["value"]) h⟩
  exact (ss_one (s_ret (e_and (e_isi .int (by decide) rfl W.b_isinstance (e_var 0) (pe_bltn rfl W.b_int bt_int rfl)) (e_one (e_not (e_isi .bool (by decide) rfl W.b_isinstance (e_var 0) (pe_bltn rfl W.b_bool bt_bool rfl)))))))
theorem bn_is_row (W : Wd K mg) : Binds K W.d_is_row.choose ["value"] [] := W.d_is_row.choose_spec.bindsN fun _ _ _ _ _ _ us hl => match us, hl with | [_], _ => rfl
theorem ok_is_row (W : Wd K mg) : FnOk P w K mg base CX0 1 (He.ga K "is_row") W.d_is_row.choose ["value"] (spF K Pr 1 m_is_row) := by
  refine FunD.ok W.d_is_row.choose_spec sc_is_row (fun _ _ _ _ h => spF_len h) fun cdv A outer s H vs Q E hr h => ?_
  have hu := hu_of hr
  refine ⟨rdS K Pr E c_is_row, ?_, body_rd (N := ["value"]) h⟩
  exact (ss_one (s_ret (e_isi2 .tuple .list (by decide) (by decide) rfl W.b_isinstance (e_var 0) (pe_tup (pa_cons (pe_bltn rfl W.b_tuple bt_tuple rfl) (pa_cons (pe_bltn rfl W.b_list bt_list rfl) pa_nil))))))
theorem bn_is_between (W : Wd K mg) : Binds K W.d_is_between.choose ["value", "low", "high"] [] := W.d_is_between.choose_spec.bindsN fun _ _ _ _ _ _ us hl => match us, hl with | [_, _, _], _ => rfl
theorem ok_is_between (W : Wd K mg) : FnOk P w K mg base CX0 2 (He.ga K "is_between") W.d_is_between.choose ["value", "low", "high"] (spF K Pr 3 m_is_between) := by
  refine FunD.ok W.d_is_between.choose_spec sc_is_between (fun _ _ _ _ h => spF_len h) fun cdv A outer s H vs Q E hr h => ?_
  have hu := hu_of hr
  refine ⟨rdS K Pr E c_is_between, ?_, body_rd (N := ["value", "low", "high"]) h⟩
  exact (ss_one (s_ret (e_and (e_call (ok_is_whole W) (hr.mono (by decide)) rfl W.g_is_whole W.d_is_whole.choose_spec.kp (bn_is_whole W) pass00 (a_cons (e_var 0) a_nil)) (e_one (e_chain op_le op_le pr_le pr_le (e_var 1) (e_var 0) (e_var 2))))))
theorem bn_is_rising (W : Wd K mg) : Binds K W.d_is_rising.choose ["value"] [] := W.d_is_rising.choose_spec.bindsN fun _ _ _ _ _ _ us hl => match us, hl with | [_], _ => rfl
theorem ok_is_rising (W : Wd K mg) : FnOk P w K mg base CX0 2 (He.ga K "is_rising") W.d_is_rising.choose ["value"] (spF K Pr 1 m_is_rising) := by
  refine FunD.ok W.d_is_rising.choose_spec sc_is_rising (fun _ _ _ _ h => spF_len h) fun cdv A outer s H vs Q E hr h => ?_
  have hu := hu_of hr
  refine ⟨rdS K Pr E c_is_rising, ?_, body_rd (N := ["value", "last", "number"]) h⟩
  exact (ss_cons (s_if (t_not (t_val (e_call (ok_is_row W) (hr.mono (by decide)) rfl W.g_is_row W.d_is_row.choose_spec.kp (bn_is_row W) pass00 (a_cons (e_var 0) a_nil)))) (ss_one (s_ret e_bl)) ss_nil) (ss_cons (s_set (i := 1) sc_is_rising.nd rfl (by first | exact Or.inl rfl | exact Or.inr rfl) e_non) (ss_cons (s_forS (passes_of rfl) rfl (e_var 0) (g_name (i := 2) sc_is_rising.nd rfl (by first | exact Or.inl rfl | exact Or.inr rfl)) (ss_cons (s_if (t_not (t_val (e_call (ok_is_whole W) (hr.mono (by decide)) rfl W.g_is_whole W.d_is_whole.choose_spec.kp (bn_is_whole W) pass00 (a_cons (e_var 2) a_nil)))) (ss_one (s_ret e_bl)) ss_nil) (ss_cons (s_if (t_w (w_and (t_cmp op_notN pr_notN (e_var 1) e_non (nomark _)) (w_and1 (t_cmp op_le pr_le (e_var 2) (e_var 1) (nomark _))))) (ss_one (s_ret e_bl)) ss_nil) (ss_one (s_set (i := 1) sc_is_rising.nd rfl (by first | exact Or.inl rfl | exact Or.inr rfl) (e_var 2)))))) (ss_one (s_ret e_bl)))))
theorem bn_union (W : Wd K mg) : Binds K W.d_union.choose ["first", "second"] [] := W.d_union.choose_spec.bindsN fun _ _ _ _ _ _ us hl => match us, hl with | [_, _], _ => rfl
theorem ok_union (W : Wd K mg) : FnOk P w K mg base CX0 1 (He.ga K "union") W.d_union.choose ["first", "second"] (spF K Pr 2 m_union) := by
  refine FunD.ok W.d_union.choose_spec sc_union (fun _ _ _ _ h => spF_len h) fun cdv A outer s H vs Q E hr h => ?_
  have hu := hu_of hr
  refine ⟨rdS K Pr E c_union, ?_, body_rd (N := ["first", "second"]) h⟩
  exact (ss_one (s_ret (e_callTy call_tupleS pr_tuple rfl W.b_tuple bt_tuple (a_cons (e_sortSet mkD_ok rfl rfl W.b_sorted rfl W.b_set (e_bin op_addA (pr_add mkD_ok) (e_callTy call_listS (pr_list mkD_ok) rfl W.b_list bt_list (a_cons (e_var 0) a_nil)) (e_callTy call_listS (pr_list mkD_ok) rfl W.b_list bt_list (a_cons (e_var 1) a_nil)))) a_nil))))
theorem bn_is_needs_row (W : Wd K mg) : Binds K W.d_is_needs_row.choose ["row", "count"] [] := W.d_is_needs_row.choose_spec.bindsN fun _ _ _ _ _ _ us hl => match us, hl with | [_, _], _ => rfl
theorem ok_is_needs_row (W : Wd K mg) : FnOk P w K mg base CX0 3 (He.ga K "is_needs_row") W.d_is_needs_row.choose ["row", "count"] (spF K Pr 2 m_is_needs_row) := by
  refine FunD.ok W.d_is_needs_row.choose_spec sc_is_needs_row (fun _ _ _ _ h => spF_len h) fun cdv A outer s H vs Q E hr h => ?_
  have hu := hu_of hr
  refine ⟨rdS K Pr E c_is_needs_row, ?_, body_rd (N := ["row", "count"]) h⟩
  exact (ss_cons (s_if (t_not (t_val (e_call (ok_is_rising W) (hr.mono (by decide)) rfl W.g_is_rising W.d_is_rising.choose_spec.kp (bn_is_rising W) pass00 (a_cons (e_var 0) a_nil)))) (ss_one (s_ret e_bl)) ss_nil) (ss_one (s_ret (e_or (e_cmp (op_eqA hr.units) pr_eq (e_callB call_lenS pr_len rfl W.b_len bt_len (a_cons (e_var 0) a_nil)) e_int (nomark _)) (e_one (e_and (e_cmp op_le pr_le e_int (e_ix ix_A pr_ix (e_var 0) e_int (fun _ _ => rfl)) (nomark _)) (e_one (e_cmp op_lt pr_lt (e_ix ix_A pr_ix (e_var 0) (e_neg e_int) (fun _ _ => rfl)) (e_var 1) (nomark _)))))))))
theorem bn_is_ready (W : Wd K mg) : Binds K W.d_is_ready.choose ["row", "done"] [] := W.d_is_ready.choose_spec.bindsN fun _ _ _ _ _ _ us hl => match us, hl with | [_, _], _ => rfl
theorem ok_is_ready (W : Wd K mg) : FnOk P w K mg base CX0 1 (He.ga K "is_ready") W.d_is_ready.choose ["row", "done"] (spF K Pr 2 m_is_ready) := by
  refine FunD.ok W.d_is_ready.choose_spec sc_is_ready (fun _ _ _ _ h => spF_len h) fun cdv A outer s H vs Q E hr h => ?_
  have hu := hu_of hr
  refine ⟨rdS K Pr E c_is_ready, ?_, body_rd (N := ["row", "done", "need"]) h⟩
  exact (ss_cons (s_forS (passes_of rfl) rfl (e_var 0) (g_name (i := 2) sc_is_ready.nd rfl (by first | exact Or.inl rfl | exact Or.inr rfl)) (ss_one (s_if (t_cmp (op_notInD hu) pr_inD (e_var 2) (e_var 1) (by rfl)) (ss_one (s_ret e_bl)) ss_nil))) (ss_one (s_ret e_bl)))
theorem bn_order_of (W : Wd K mg) : Binds K W.d_order_of.choose ["table"] [] := W.d_order_of.choose_spec.bindsN fun _ _ _ _ _ _ us hl => match us, hl with | [_], _ => rfl
theorem ok_order_of (W : Wd K mg) : FnOk P w K mg base CX0 2 (He.ga K "order_of") W.d_order_of.choose ["table"] (spF K Pr 1 m_order_of) := by
  refine FunD.ok W.d_order_of.choose_spec sc_order_of (fun _ _ _ _ h => spF_len h) fun cdv A outer s H vs Q E hr h => ?_
  have hu := hu_of hr
  refine ⟨rdS K Pr E c_order_of, ?_, body_rd (N := ["table", "order", "done", "_", "ready", "task"]) (spF_cut h)⟩
  exact (ss_cons (s_set (i := 1) sc_order_of.nd rfl (by first | exact Or.inl rfl | exact Or.inr rfl) (e_lst mkN_ok a_nil)) (ss_cons (s_set (i := 2) sc_order_of.nd rfl (by first | exact Or.inl rfl | exact Or.inr rfl) e_dnew) (ss_cons (s_forS (passes_of rfl) rfl (e_var 0) (g_name (i := 3) sc_order_of.nd rfl (by first | exact Or.inl rfl | exact Or.inr rfl)) (ss_cons (s_compV (E' := XE0) (i := 4) mkD_ok rfl sc_order_of.nd rfl rfl (sw_true rfl rfl rfl (by decide +kernel)) (i_r1 rfl W.b_range (a_cons (e_callB call_lenS pr_len rfl W.b_len bt_len (a_cons (e_var 0) a_nil)) a_nil)) (blkOk_by (own := [("task", 5)]) (by show blkC NN_order_of (defScope s_order_of) _ _ = true; decide +kernel)) (fun s2 H2 C2 cl2 fp2 => (g_name (i := 5) sc_order_of.nd rfl (by first | exact Or.inl rfl | exact Or.inr rfl))) (fun s2 H2 C2 cl2 fp2 => (ts_one (t_w (w_and (t_cmp (op_notInD hu) pr_inD (e_var 5) (e_var 2) (by rfl)) (w_and1 (t_val (e_call (ok_is_ready W) (hr.mono (by decide)) rfl W.g_is_ready W.d_is_ready.choose_spec.kp (bn_is_ready W) pass00 (a_cons (e_ix ix_A pr_ix (e_var 0) (e_var 5) (fun _ _ => rfl)) (a_cons (e_var 2) a_nil))))))))) (fun s2 H2 C2 cl2 fp2 => (e_var 5))) (ss_cons (s_if (t_cmp (op_eqA hr.units) pr_eq (e_callB call_lenS pr_len rfl W.b_len bt_len (a_cons (e_var 4) a_nil)) e_int (nomark _)) (ss_one s_break) ss_nil) (ss_cons (s_expr (e_append (e_var 1) (e_ix ix_A pr_ix (e_var 4) e_int (fun _ _ => rfl)))) (ss_one (s_dput hu e_bl (e_var 2) (e_ix ix_A pr_ix (e_var 4) e_int (fun _ _ => rfl)))))))) (ss_one (s_ret (e_frz (e_var 1)))))))
theorem bn_check_table (W : Wd K mg) : Binds K W.d_check_table.choose ["table"] [] := W.d_check_table.choose_spec.bindsN fun _ _ _ _ _ _ us hl => match us, hl with | [_], _ => rfl
theorem ok_check_table (W : Wd K mg) : FnOk P w K mg base CX0 4 (He.ga K "check_table") W.d_check_table.choose ["table"] (spF K Pr 1 m_check_table) := by
  refine FunD.ok W.d_check_table.choose_spec sc_check_table (fun _ _ _ _ h => spF_len h) fun cdv A outer s H vs Q E hr h => ?_
  have hu := hu_of hr
  refine ⟨rdS K Pr E c_check_table, ?_, body_rd (N := ["table", "task", "order"]) h⟩
  exact (ss_cons (s_if (t_cmp op_gt pr_gt (e_callB call_lenS pr_len rfl W.b_len bt_len (a_cons (e_var 0) a_nil)) (e_globI rfl W.i_MOST_TASKS) (nomark _)) (ss_one s_never) ss_nil) (ss_cons (s_for (passes_of rfl) rfl (i_r1 rfl W.b_range (a_cons (e_callB call_lenS pr_len rfl W.b_len bt_len (a_cons (e_var 0) a_nil)) a_nil)) (g_name (i := 1) sc_check_table.nd rfl (by first | exact Or.inl rfl | exact Or.inr rfl)) (ss_one (s_if (t_not (t_val (e_call (ok_is_needs_row W) (hr.mono (by decide)) rfl W.g_is_needs_row W.d_is_needs_row.choose_spec.kp (bn_is_needs_row W) pass00 (a_cons (e_ix ix_A pr_ix (e_var 0) (e_var 1) (fun _ _ => rfl)) (a_cons (e_callB call_lenS pr_len rfl W.b_len bt_len (a_cons (e_var 0) a_nil)) a_nil))))) (ss_one s_never) ss_nil))) (ss_cons (s_set (i := 2) sc_check_table.nd rfl (by first | exact Or.inl rfl | exact Or.inr rfl) (e_call (ok_order_of W) (hr.mono (by decide)) rfl W.g_order_of W.d_order_of.choose_spec.kp (bn_order_of W) pass00 (a_cons (e_var 0) a_nil))) (ss_one (s_for (passes_of rfl) rfl (i_r1 rfl W.b_range (a_cons (e_callB call_lenS pr_len rfl W.b_len bt_len (a_cons (e_var 0) a_nil)) a_nil)) (g_name (i := 1) sc_check_table.nd rfl (by first | exact Or.inl rfl | exact Or.inr rfl)) (ss_one (s_if (t_cmp op_notIn_seq pr_in (e_var 1) (e_var 2) (by rfl)) (ss_one s_never) ss_nil)))))))
theorem bn_all_needs (W : Wd K mg) : Binds K W.d_all_needs.choose ["table"] [] := W.d_all_needs.choose_spec.bindsN fun _ _ _ _ _ _ us hl => match us, hl with | [_], _ => rfl
theorem ok_all_needs (W : Wd K mg) : FnOk P w K mg base CX0 5 (He.ga K "all_needs") W.d_all_needs.choose ["table"] (spF K Pr 1 m_all_needs) := by
  refine FunD.ok W.d_all_needs.choose_spec sc_all_needs (fun _ _ _ _ h => spF_len h) fun cdv A outer s H vs Q E hr h => ?_
  have hu := hu_of hr
  refine ⟨rdS K Pr E c_all_needs, ?_, body_rd (N := ["table", "needs", "task", "found", "need"]) (spF_cut h)⟩
  exact (ss_cons (s_expr (e_call (ok_check_table W) (hr.mono (by decide)) rfl W.g_check_table W.d_check_table.choose_spec.kp (bn_check_table W) pass00 (a_cons (e_var 0) a_nil))) (ss_cons (s_set (i := 1) sc_all_needs.nd rfl (by first | exact Or.inl rfl | exact Or.inr rfl) (e_rep mkN_ok (a_cons (e_tup a_nil) a_nil) (e_callB call_lenS pr_len rfl W.b_len bt_len (a_cons (e_var 0) a_nil)))) (ss_cons (s_forS (passes_of rfl) rfl (e_call (ok_order_of W) (hr.mono (by decide)) rfl W.g_order_of W.d_order_of.choose_spec.kp (bn_order_of W) pass00 (a_cons (e_var 0) a_nil)) (g_name (i := 2) sc_all_needs.nd rfl (by first | exact Or.inl rfl | exact Or.inr rfl)) (ss_cons (s_set (i := 3) sc_all_needs.nd rfl (by first | exact Or.inl rfl | exact Or.inr rfl) (e_tup a_nil)) (ss_cons (s_forS (passes_of rfl) rfl (e_ix ix_A pr_ix (e_var 0) (e_var 2) (fun _ _ => rfl)) (g_name (i := 4) sc_all_needs.nd rfl (by first | exact Or.inl rfl | exact Or.inr rfl)) (ss_one (s_set (i := 3) sc_all_needs.nd rfl (by first | exact Or.inl rfl | exact Or.inr rfl) (e_call (ok_union W) (hr.mono (by decide)) rfl W.g_union W.d_union.choose_spec.kp (bn_union W) pass00 (a_cons (e_var 3) (a_cons (e_call (ok_union W) (hr.mono (by decide)) rfl W.g_union W.d_union.choose_spec.kp (bn_union W) pass00 (a_cons (e_tup (a_cons (e_var 4) a_nil)) (a_cons (e_ix ix_A pr_ix (e_var 1) (e_var 4) (fun _ _ => rfl)) a_nil))) a_nil)))))) (ss_one (s_setL (e_var 3) (e_var 1) (e_var 2)))))) (ss_one (s_ret (e_callTy call_tupleS pr_tuple rfl W.b_tuple bt_tuple (a_cons (e_var 1) a_nil)))))))
theorem bn_chain_in (W : Wd K mg) : Binds K W.d_chain_in.choose ["needs", "tasks"] [] := W.d_chain_in.choose_spec.bindsN fun _ _ _ _ _ _ us hl => match us, hl with | [_, _], _ => rfl
theorem ok_chain_in (W : Wd K mg) : FnOk P w K mg base CX0 3 (He.ga K "chain_in") W.d_chain_in.choose ["needs", "tasks"] (spF K Pr 2 m_chain_in) := by
  refine FunD.ok W.d_chain_in.choose_spec sc_chain_in (fun _ _ _ _ h => spF_len h) fun cdv A outer s H vs Q E hr h => ?_
  have hu := hu_of hr
  refine ⟨rdS K Pr E c_chain_in, ?_, body_rd (N := ["needs", "tasks", "at"]) h⟩
  exact (ss_cons (s_if (t_not (t_val (e_call (ok_is_row W) (hr.mono (by decide)) rfl W.g_is_row W.d_is_row.choose_spec.kp (bn_is_row W) pass00 (a_cons (e_var 1) a_nil)))) (ss_one (s_ret e_bl)) ss_nil) (ss_cons (s_for (passes_of rfl) rfl (i_r1 rfl W.b_range (a_cons (e_callB call_lenS pr_len rfl W.b_len bt_len (a_cons (e_var 1) a_nil)) a_nil)) (g_name (i := 2) sc_chain_in.nd rfl (by first | exact Or.inl rfl | exact Or.inr rfl)) (ss_cons (s_if (t_not (t_val (e_call (ok_is_between W) (hr.mono (by decide)) rfl W.g_is_between W.d_is_between.choose_spec.kp (bn_is_between W) pass00 (a_cons (e_ix ix_A pr_ix (e_var 1) (e_var 2) (fun _ _ => rfl)) (a_cons e_int (a_cons (e_bin op_sub pr_sub (e_callB call_lenS pr_len rfl W.b_len bt_len (a_cons (e_var 0) a_nil)) e_int) a_nil)))))) (ss_one (s_ret e_bl)) ss_nil) (ss_one (s_if (t_w (w_and (t_cmp op_gt pr_gt (e_var 2) e_int (nomark _)) (w_and1 (t_cmp op_notIn_seq pr_in (e_ix ix_A pr_ix (e_var 1) (e_bin op_sub pr_sub (e_var 2) e_int) (fun _ _ => rfl)) (e_ix ix_A pr_ix (e_var 0) (e_ix ix_A pr_ix (e_var 1) (e_var 2) (fun _ _ => rfl)) (fun _ _ => rfl)) (by rfl))))) (ss_one (s_ret e_bl)) ss_nil)))) (ss_one (s_ret e_bl))))
theorem bn_is_chain (W : Wd K mg) : Binds K W.d_is_chain.choose ["table", "tasks"] [] := W.d_is_chain.choose_spec.bindsN fun _ _ _ _ _ _ us hl => match us, hl with | [_, _], _ => rfl
theorem ok_is_chain (W : Wd K mg) : FnOk P w K mg base CX0 6 (He.ga K "is_chain") W.d_is_chain.choose ["table", "tasks"] (spF K Pr 2 m_is_chain) := by
  refine FunD.ok W.d_is_chain.choose_spec sc_is_chain (fun _ _ _ _ h => spF_len h) fun cdv A outer s H vs Q E hr h => ?_
  have hu := hu_of hr
  refine ⟨rdS K Pr E c_is_chain, ?_, body_rd (N := ["table", "tasks"]) h⟩
  exact (ss_one (s_ret (e_call (ok_chain_in W) (hr.mono (by decide)) rfl W.g_chain_in W.d_chain_in.choose_spec.kp (bn_chain_in W) pass00 (a_cons (e_call (ok_all_needs W) (hr.mono (by decide)) rfl W.g_all_needs W.d_all_needs.choose_spec.kp (bn_all_needs W) pass00 (a_cons (e_var 0) a_nil)) (a_cons (e_var 1) a_nil)))))
theorem bn_fits_slot (W : Wd K mg) : Binds K W.d_fits_slot.choose ["table", "slot", "done"] [] := W.d_fits_slot.choose_spec.bindsN fun _ _ _ _ _ _ us hl => match us, hl with | [_, _, _], _ => rfl
theorem ok_fits_slot (W : Wd K mg) : FnOk P w K mg base CX0 3 (He.ga K "fits_slot") W.d_fits_slot.choose ["table", "slot", "done"] (spF K Pr 3 m_fits_slot) := by
  refine FunD.ok W.d_fits_slot.choose_spec sc_fits_slot (fun _ _ _ _ h => spF_len h) fun cdv A outer s H vs Q E hr h => ?_
  have hu := hu_of hr
  refine ⟨rdS K Pr E c_fits_slot, ?_, body_rd (N := ["table", "slot", "done", "task"]) h⟩
  exact (ss_cons (s_forS (passes_of rfl) rfl (e_var 1) (g_name (i := 3) sc_fits_slot.nd rfl (by first | exact Or.inl rfl | exact Or.inr rfl)) (ss_cons (s_if (t_not (t_val (e_call (ok_is_between W) (hr.mono (by decide)) rfl W.g_is_between W.d_is_between.choose_spec.kp (bn_is_between W) pass00 (a_cons (e_var 3) (a_cons e_int (a_cons (e_bin op_sub pr_sub (e_callB call_lenS pr_len rfl W.b_len bt_len (a_cons (e_var 0) a_nil)) e_int) a_nil)))))) (ss_one (s_ret e_bl)) ss_nil) (ss_one (s_if (t_w (w_or (t_cmp (op_inD hu) pr_inD (e_var 3) (e_var 2) (by rfl)) (w_or1 (t_not (t_val (e_call (ok_is_ready W) (hr.mono (by decide)) rfl W.g_is_ready W.d_is_ready.choose_spec.kp (bn_is_ready W) pass00 (a_cons (e_ix ix_A pr_ix (e_var 0) (e_var 3) (fun _ _ => rfl)) (a_cons (e_var 2) a_nil)))))))) (ss_one (s_ret e_bl)) ss_nil)))) (ss_one (s_ret e_bl)))
theorem kn_is_schedule (W : Wd K mg) : KBn K W.d_is_schedule.choose ["table", "slots", "members"] 2 ["members"] (fun us ws => us ++ ws) (fun vs zs => vs ++ zs) := by
  obtain ⟨mv, h⟩ := FunD.kbinds0 W.d_is_schedule.choose_spec (ps := ["table", "slots", "members"]) 2 ["members"] [] (fun us _ ws => us ++ ws) (by simp) (by simp) (fun a _ c => Vals.append a c) (fun D doc pm an cdv ct us mv ws l1 l2 l3 => by
    match us, l1, ws, l3, mv, l2 with
    | [_, _], _, [_], _, [], _ => rfl)
  exact h
theorem ok_is_schedule (W : Wd K mg) : FnOk P w K mg base CX0 5 (He.ga K "is_schedule") W.d_is_schedule.choose ["table", "slots", "members"] (spF K Pr (2 + 1) m_is_schedule) := by
  refine FunD.ok W.d_is_schedule.choose_spec sc_is_schedule (fun _ _ _ _ h => spF_len h) fun cdv A outer s H vs Q E hr h => ?_
  have hu := hu_of hr
  refine ⟨rdS K Pr E c_is_schedule, ?_, body_rd (N := ["table", "slots", "members", "done", "slot", "task"]) (spF_cut h)⟩
  exact (ss_cons (s_expr (e_call (ok_check_table W) (hr.mono (by decide)) rfl W.g_check_table W.d_check_table.choose_spec.kp (bn_check_table W) pass00 (a_cons (e_var 0) a_nil))) (ss_cons (s_if (t_not (t_val (e_call (ok_is_row W) (hr.mono (by decide)) rfl W.g_is_row W.d_is_row.choose_spec.kp (bn_is_row W) pass00 (a_cons (e_var 1) a_nil)))) (ss_one (s_ret e_bl)) ss_nil) (ss_cons (s_set (i := 3) sc_is_schedule.nd rfl (by first | exact Or.inl rfl | exact Or.inr rfl) e_dnew) (ss_cons (s_forS (passes_of rfl) rfl (e_var 1) (g_name (i := 4) sc_is_schedule.nd rfl (by first | exact Or.inl rfl | exact Or.inr rfl)) (ss_cons (s_if (t_w (w_or (t_not (t_val (e_call (ok_is_rising W) (hr.mono (by decide)) rfl W.g_is_rising W.d_is_rising.choose_spec.kp (bn_is_rising W) pass00 (a_cons (e_var 4) a_nil)))) (w_or1 (t_not (t_chain op_le op_le pr_le pr_le e_int (e_callB call_lenS pr_len rfl W.b_len bt_len (a_cons (e_var 4) a_nil)) (e_var 2)))))) (ss_one (s_ret e_bl)) ss_nil) (ss_cons (s_if (t_not (t_val (e_call (ok_fits_slot W) (hr.mono (by decide)) rfl W.g_fits_slot W.d_fits_slot.choose_spec.kp (bn_fits_slot W) pass00 (a_cons (e_var 0) (a_cons (e_var 4) (a_cons (e_var 3) a_nil)))))) (ss_one (s_ret e_bl)) ss_nil) (ss_one (s_forS (passes_of rfl) rfl (e_var 4) (g_name (i := 5) sc_is_schedule.nd rfl (by first | exact Or.inl rfl | exact Or.inr rfl)) (ss_one (s_dput hu e_bl (e_var 3) (e_var 5)))))))) (ss_one (s_ret (e_cmp (op_eqA hr.units) pr_eq (e_callB call_lenDD pr_lenD rfl W.b_len bt_len (a_cons (e_var 3) a_nil)) (e_callB call_lenS pr_len rfl W.b_len bt_len (a_cons (e_var 0) a_nil)) (nomark _))))))))
theorem bn_needs_all (W : Wd K mg) : Binds K W.d_needs_all.choose ["needs", "block", "before"] [] := W.d_needs_all.choose_spec.bindsN fun _ _ _ _ _ _ us hl => match us, hl with | [_, _, _], _ => rfl
theorem ok_needs_all (W : Wd K mg) : FnOk P w K mg base CX0 1 (He.ga K "needs_all") W.d_needs_all.choose ["needs", "block", "before"] (spF K Pr 3 m_needs_all) := by
  refine FunD.ok W.d_needs_all.choose_spec sc_needs_all (fun _ _ _ _ h => spF_len h) fun cdv A outer s H vs Q E hr h => ?_
  have hu := hu_of hr
  refine ⟨rdS K Pr E c_needs_all, ?_, body_rd (N := ["needs", "block", "before", "task", "need"]) h⟩
  exact (ss_cons (s_forS (passes_of rfl) rfl (e_var 1) (g_name (i := 3) sc_needs_all.nd rfl (by first | exact Or.inl rfl | exact Or.inr rfl)) (ss_one (s_forS (passes_of rfl) rfl (e_var 2) (g_name (i := 4) sc_needs_all.nd rfl (by first | exact Or.inl rfl | exact Or.inr rfl)) (ss_one (s_if (t_cmp op_notIn_seq pr_in (e_var 4) (e_ix ix_A pr_ix (e_var 0) (e_var 3) (fun _ _ => rfl)) (by rfl)) (ss_one (s_ret e_bl)) ss_nil))))) (ss_one (s_ret e_bl)))
theorem bn_are_blocks (W : Wd K mg) : Binds K W.d_are_blocks.choose ["table", "blocks"] [] := W.d_are_blocks.choose_spec.bindsN fun _ _ _ _ _ _ us hl => match us, hl with | [_, _], _ => rfl
theorem ok_are_blocks (W : Wd K mg) : FnOk P w K mg base CX0 6 (He.ga K "are_blocks") W.d_are_blocks.choose ["table", "blocks"] (spF K Pr 2 m_are_blocks) := by
  refine FunD.ok W.d_are_blocks.choose_spec sc_are_blocks (fun _ _ _ _ h => spF_len h) fun cdv A outer s H vs Q E hr h => ?_
  have hu := hu_of hr
  refine ⟨rdS K Pr E c_are_blocks, ?_, body_rd (N := ["table", "blocks", "needs", "seen", "before", "block", "task"]) (spF_cut h)⟩
  exact (ss_cons (s_set (i := 2) sc_are_blocks.nd rfl (by first | exact Or.inl rfl | exact Or.inr rfl) (e_call (ok_all_needs W) (hr.mono (by decide)) rfl W.g_all_needs W.d_all_needs.choose_spec.kp (bn_all_needs W) pass00 (a_cons (e_var 0) a_nil))) (ss_cons (s_if (t_not (t_val (e_call (ok_is_row W) (hr.mono (by decide)) rfl W.g_is_row W.d_is_row.choose_spec.kp (bn_is_row W) pass00 (a_cons (e_var 1) a_nil)))) (ss_one (s_ret e_bl)) ss_nil) (ss_cons (s_set (i := 3) sc_are_blocks.nd rfl (by first | exact Or.inl rfl | exact Or.inr rfl) e_dnew) (ss_cons (s_set (i := 4) sc_are_blocks.nd rfl (by first | exact Or.inl rfl | exact Or.inr rfl) (e_tup a_nil)) (ss_cons (s_forS (passes_of rfl) rfl (e_var 1) (g_name (i := 5) sc_are_blocks.nd rfl (by first | exact Or.inl rfl | exact Or.inr rfl)) (ss_cons (s_if (t_w (w_or (t_not (t_val (e_call (ok_is_rising W) (hr.mono (by decide)) rfl W.g_is_rising W.d_is_rising.choose_spec.kp (bn_is_rising W) pass00 (a_cons (e_var 5) a_nil)))) (w_or1 (t_cmp (op_eqA hr.units) pr_eq (e_callB call_lenS pr_len rfl W.b_len bt_len (a_cons (e_var 5) a_nil)) e_int (nomark _))))) (ss_one (s_ret e_bl)) ss_nil) (ss_cons (s_forS (passes_of rfl) rfl (e_var 5) (g_name (i := 6) sc_are_blocks.nd rfl (by first | exact Or.inl rfl | exact Or.inr rfl)) (ss_cons (s_if (t_w (w_or (t_not (t_val (e_call (ok_is_between W) (hr.mono (by decide)) rfl W.g_is_between W.d_is_between.choose_spec.kp (bn_is_between W) pass00 (a_cons (e_var 6) (a_cons e_int (a_cons (e_bin op_sub pr_sub (e_callB call_lenS pr_len rfl W.b_len bt_len (a_cons (e_var 0) a_nil)) e_int) a_nil)))))) (w_or1 (t_cmp (op_inD hu) pr_inD (e_var 6) (e_var 3) (by rfl))))) (ss_one (s_ret e_bl)) ss_nil) (ss_one (s_dput hu e_bl (e_var 3) (e_var 6))))) (ss_cons (s_if (t_not (t_val (e_call (ok_needs_all W) (hr.mono (by decide)) rfl W.g_needs_all W.d_needs_all.choose_spec.kp (bn_needs_all W) pass00 (a_cons (e_var 2) (a_cons (e_var 5) (a_cons (e_var 4) a_nil)))))) (ss_one (s_ret e_bl)) ss_nil) (ss_one (s_set (i := 4) sc_are_blocks.nd rfl (by first | exact Or.inl rfl | exact Or.inr rfl) (e_var 5))))))) (ss_one (s_ret e_bl)))))))
theorem bn_check_route (W : Wd K mg) : Binds K W.d_check_route.choose ["rooms"] [] := W.d_check_route.choose_spec.bindsN fun _ _ _ _ _ _ us hl => match us, hl with | [_], _ => rfl
theorem ok_check_route (W : Wd K mg) : FnOk P w K mg base CX0 3 (He.ga K "check_route") W.d_check_route.choose ["rooms"] (spF K Pr 1 m_check_route) := by
  refine FunD.ok W.d_check_route.choose_spec sc_check_route (fun _ _ _ _ h => spF_len h) fun cdv A outer s H vs Q E hr h => ?_
  have hu := hu_of hr
  refine ⟨rdS K Pr E c_check_route, ?_, body_rd (N := ["rooms", "step"]) h⟩
  exact (ss_cons (s_if (t_cmp (op_eqA hr.units) pr_eq (e_callB call_lenS pr_len rfl W.b_len bt_len (a_cons (e_var 0) a_nil)) e_int (nomark _)) (ss_one s_never) ss_nil) (ss_cons (s_if (t_cmp op_gt pr_gt (e_callB call_lenS pr_len rfl W.b_len bt_len (a_cons (e_var 0) a_nil)) (e_globI rfl W.i_MOST_STEPS) (nomark _)) (ss_one s_never) ss_nil) (ss_one (s_for (passes_of rfl) rfl (i_r1 rfl W.b_range (a_cons (e_callB call_lenS pr_len rfl W.b_len bt_len (a_cons (e_var 0) a_nil)) a_nil)) (g_name (i := 1) sc_check_route.nd rfl (by first | exact Or.inl rfl | exact Or.inr rfl)) (ss_one (s_if (t_not (t_val (e_call (ok_is_between W) (hr.mono (by decide)) rfl W.g_is_between W.d_is_between.choose_spec.kp (bn_is_between W) pass00 (a_cons (e_ix ix_A pr_ix (e_var 0) (e_var 1) (fun _ _ => rfl)) (a_cons e_int (a_cons (e_globI rfl W.i_LAST_ROOM) a_nil)))))) (ss_one s_never) ss_nil))))))
theorem bn_wrong_slot (W : Wd K mg) : Binds K W.d_wrong_slot.choose ["rooms", "slots"] [] := W.d_wrong_slot.choose_spec.bindsN fun _ _ _ _ _ _ us hl => match us, hl with | [_, _], _ => rfl
theorem ok_wrong_slot (W : Wd K mg) : FnOk P w K mg base CX0 3 (He.ga K "wrong_slot") W.d_wrong_slot.choose ["rooms", "slots"] (spF K Pr 2 m_wrong_slot) := by
  refine FunD.ok W.d_wrong_slot.choose_spec sc_wrong_slot (fun _ _ _ _ h => spF_len h) fun cdv A outer s H vs Q E hr h => ?_
  have hu := hu_of hr
  refine ⟨rdS K Pr E c_wrong_slot, ?_, body_rd (N := ["rooms", "slots", "last", "step"]) h⟩
  exact (ss_cons (s_set (i := 2) sc_wrong_slot.nd rfl (by first | exact Or.inl rfl | exact Or.inr rfl) (e_neg e_int)) (ss_cons (s_for (passes_of rfl) rfl (i_r1 rfl W.b_range (a_cons (e_callB call_lenS pr_len rfl W.b_len bt_len (a_cons (e_var 0) a_nil)) a_nil)) (g_name (i := 3) sc_wrong_slot.nd rfl (by first | exact Or.inl rfl | exact Or.inr rfl)) (ss_cons (s_if (t_w (w_or (t_cmp op_ge pr_ge (e_var 3) (e_callB call_lenS pr_len rfl W.b_len bt_len (a_cons (e_var 1) a_nil)) (nomark _)) (w_or1 (t_not (t_val (e_call (ok_is_between W) (hr.mono (by decide)) rfl W.g_is_between W.d_is_between.choose_spec.kp (bn_is_between W) pass00 (a_cons (e_ix ix_A pr_ix (e_var 1) (e_var 3) (fun _ _ => rfl)) (a_cons (e_bin op_addA (pr_add mkD_ok) (e_var 2) e_int) (a_cons (e_globI rfl W.i_LAST_SLOT) a_nil))))))))) (ss_one (s_ret (e_var 3))) ss_nil) (ss_one (s_set (i := 2) sc_wrong_slot.nd rfl (by first | exact Or.inl rfl | exact Or.inr rfl) (e_ix ix_A pr_ix (e_var 1) (e_var 3) (fun _ _ => rfl)))))) (ss_cons (s_if (t_cmp op_gt pr_gt (e_callB call_lenS pr_len rfl W.b_len bt_len (a_cons (e_var 1) a_nil)) (e_callB call_lenS pr_len rfl W.b_len bt_len (a_cons (e_var 0) a_nil)) (nomark _)) (ss_one (s_ret (e_callB call_lenS pr_len rfl W.b_len bt_len (a_cons (e_var 0) a_nil)))) ss_nil) (ss_one (s_ret e_non)))))
theorem bn_check_gap (W : Wd K mg) : Binds K W.d_check_gap.choose ["gap"] [] := W.d_check_gap.choose_spec.bindsN fun _ _ _ _ _ _ us hl => match us, hl with | [_], _ => rfl
theorem ok_check_gap (W : Wd K mg) : FnOk P w K mg base CX0 1 (He.ga K "check_gap") W.d_check_gap.choose ["gap"] (spF K Pr 1 m_check_gap) := by
  refine FunD.ok W.d_check_gap.choose_spec sc_check_gap (fun _ _ _ _ h => spF_len h) fun cdv A outer s H vs Q E hr h => ?_
  have hu := hu_of hr
  refine ⟨rdS K Pr E c_check_gap, ?_, body_rd (N := ["gap"]) h⟩
  exact (ss_cons (s_if (t_cmp op_lt pr_lt (e_var 0) e_int (nomark _)) (ss_one s_never) ss_nil) (ss_one (s_if (t_cmp op_gt pr_gt (e_var 0) (e_globI rfl W.i_MOST_GAP) (nomark _)) (ss_one s_never) ss_nil)))
theorem bn_meeting (W : Wd K mg) : Binds K W.d_meeting.choose ["rooms", "slots", "gap"] [] := W.d_meeting.choose_spec.bindsN fun _ _ _ _ _ _ us hl => match us, hl with | [_, _, _], _ => rfl
theorem ok_meeting (W : Wd K mg) : FnOk P w K mg base CX0 1 (He.ga K "meeting") W.d_meeting.choose ["rooms", "slots", "gap"] (spF K Pr 3 m_meeting) := by
  refine FunD.ok W.d_meeting.choose_spec sc_meeting (fun _ _ _ _ h => spF_len h) fun cdv A outer s H vs Q E hr h => ?_
  have hu := hu_of hr
  refine ⟨rdS K Pr E c_meeting, ?_, body_rd (N := ["rooms", "slots", "gap", "later", "step"]) h⟩
  exact (ss_cons (s_for (passes_of rfl) rfl (i_r1 rfl W.b_range (a_cons (e_callB call_lenS pr_len rfl W.b_len bt_len (a_cons (e_var 0) a_nil)) a_nil)) (g_name (i := 3) sc_meeting.nd rfl (by first | exact Or.inl rfl | exact Or.inr rfl)) (ss_one (s_for (passes_of rfl) rfl (i_r1 rfl W.b_range (a_cons (e_var 3) a_nil)) (g_name (i := 4) sc_meeting.nd rfl (by first | exact Or.inl rfl | exact Or.inr rfl)) (ss_one (s_if (t_w (w_and (t_cmp (op_eqA hr.units) pr_eq (e_ix ix_A pr_ix (e_var 0) (e_var 4) (fun _ _ => rfl)) (e_ix ix_A pr_ix (e_var 0) (e_var 3) (fun _ _ => rfl)) (nomark _)) (w_and1 (t_cmp (op_eqA hr.units) pr_eq (e_bin op_mod pr_mod (e_bin op_sub pr_sub (e_ix ix_A pr_ix (e_var 1) (e_var 3) (fun _ _ => rfl)) (e_ix ix_A pr_ix (e_var 1) (e_var 4) (fun _ _ => rfl))) (e_var 2)) e_int (nomark _))))) (ss_one (s_ret (e_tup (a_cons (e_ix ix_A pr_ix (e_var 1) (e_var 3) (fun _ _ => rfl)) (a_cons (e_ix ix_A pr_ix (e_var 0) (e_var 3) (fun _ _ => rfl)) (a_cons (e_var 4) (a_cons (e_var 3) a_nil))))))) ss_nil))))) (ss_one (s_ret e_non)))
theorem bn_are_slots (W : Wd K mg) : Binds K W.d_are_slots.choose ["rooms", "gap", "slots"] [] := W.d_are_slots.choose_spec.bindsN fun _ _ _ _ _ _ us hl => match us, hl with | [_, _, _], _ => rfl
theorem ok_are_slots (W : Wd K mg) : FnOk P w K mg base CX0 4 (He.ga K "are_slots") W.d_are_slots.choose ["rooms", "gap", "slots"] (spF K Pr 3 m_are_slots) := by
  refine FunD.ok W.d_are_slots.choose_spec sc_are_slots (fun _ _ _ _ h => spF_len h) fun cdv A outer s H vs Q E hr h => ?_
  have hu := hu_of hr
  refine ⟨rdS K Pr E c_are_slots, ?_, body_rd (N := ["rooms", "gap", "slots"]) h⟩
  exact (ss_cons (s_expr (e_call (ok_check_route W) (hr.mono (by decide)) rfl W.g_check_route W.d_check_route.choose_spec.kp (bn_check_route W) pass00 (a_cons (e_var 0) a_nil))) (ss_cons (s_expr (e_call (ok_check_gap W) (hr.mono (by decide)) rfl W.g_check_gap W.d_check_gap.choose_spec.kp (bn_check_gap W) pass00 (a_cons (e_var 1) a_nil))) (ss_cons (s_if (t_w (w_or (t_not (t_val (e_call (ok_is_row W) (hr.mono (by decide)) rfl W.g_is_row W.d_is_row.choose_spec.kp (bn_is_row W) pass00 (a_cons (e_var 2) a_nil)))) (w_or1 (t_cmp op_notN pr_notN (e_call (ok_wrong_slot W) (hr.mono (by decide)) rfl W.g_wrong_slot W.d_wrong_slot.choose_spec.kp (bn_wrong_slot W) pass00 (a_cons (e_var 0) (a_cons (e_var 2) a_nil))) e_non (nomark _))))) (ss_one (s_ret e_bl)) ss_nil) (ss_one (s_ret (e_and (e_cmp (op_eqA hr.units) pr_eq (e_ix ix_A pr_ix (e_var 2) e_int (fun _ _ => rfl)) e_int (nomark _)) (e_one (e_cmp op_isN pr_isN (e_call (ok_meeting W) (hr.mono (by decide)) rfl W.g_meeting W.d_meeting.choose_spec.kp (bn_meeting W) pass00 (a_cons (e_var 0) (a_cons (e_var 2) (a_cons (e_var 1) a_nil)))) e_non (nomark _)))))))))
theorem bn_are_independent (W : Wd K mg) : Binds K W.d_are_independent.choose ["table", "tasks"] [] := W.d_are_independent.choose_spec.bindsN fun _ _ _ _ _ _ us hl => match us, hl with | [_, _], _ => rfl
theorem ok_are_independent (W : Wd K mg) : FnOk P w K mg base CX0 6 (He.ga K "are_independent") W.d_are_independent.choose ["table", "tasks"] (spF K Pr 2 m_are_independent) := by
  refine FunD.ok W.d_are_independent.choose_spec sc_are_independent (fun _ _ _ _ h => spF_len h) fun cdv A outer s H vs Q E hr h => ?_
  have hu := hu_of hr
  refine ⟨rdS K Pr E c_are_independent, ?_, body_rd (N := ["table", "tasks", "needs", "task", "other"]) h⟩
  exact (ss_cons (s_set (i := 2) sc_are_independent.nd rfl (by first | exact Or.inl rfl | exact Or.inr rfl) (e_call (ok_all_needs W) (hr.mono (by decide)) rfl W.g_all_needs W.d_all_needs.choose_spec.kp (bn_all_needs W) pass00 (a_cons (e_var 0) a_nil))) (ss_cons (s_if (t_not (t_val (e_call (ok_is_rising W) (hr.mono (by decide)) rfl W.g_is_rising W.d_is_rising.choose_spec.kp (bn_is_rising W) pass00 (a_cons (e_var 1) a_nil)))) (ss_one (s_ret e_bl)) ss_nil) (ss_cons (s_forS (passes_of rfl) rfl (e_var 1) (g_name (i := 3) sc_are_independent.nd rfl (by first | exact Or.inl rfl | exact Or.inr rfl)) (ss_one (s_if (t_not (t_val (e_call (ok_is_between W) (hr.mono (by decide)) rfl W.g_is_between W.d_is_between.choose_spec.kp (bn_is_between W) pass00 (a_cons (e_var 3) (a_cons e_int (a_cons (e_bin op_sub pr_sub (e_callB call_lenS pr_len rfl W.b_len bt_len (a_cons (e_var 2) a_nil)) e_int) a_nil)))))) (ss_one (s_ret e_bl)) ss_nil))) (ss_cons (s_forS (passes_of rfl) rfl (e_var 1) (g_name (i := 3) sc_are_independent.nd rfl (by first | exact Or.inl rfl | exact Or.inr rfl)) (ss_one (s_forS (passes_of rfl) rfl (e_var 1) (g_name (i := 4) sc_are_independent.nd rfl (by first | exact Or.inl rfl | exact Or.inr rfl)) (ss_one (s_if (t_cmp op_in_seq pr_in (e_var 4) (e_ix ix_A pr_ix (e_var 2) (e_var 3) (fun _ _ => rfl)) (by rfl)) (ss_one (s_ret e_bl)) ss_nil))))) (ss_one (s_ret e_bl))))))
theorem bn_are_rows (W : Wd K mg) : Binds K W.d_are_rows.choose ["table", "rows"] [] := W.d_are_rows.choose_spec.bindsN fun _ _ _ _ _ _ us hl => match us, hl with | [_, _], _ => rfl
theorem ok_are_rows (W : Wd K mg) : FnOk P w K mg base CX0 6 (He.ga K "are_rows") W.d_are_rows.choose ["table", "rows"] (spF K Pr 2 m_are_rows) := by
  refine FunD.ok W.d_are_rows.choose_spec sc_are_rows (fun _ _ _ _ h => spF_len h) fun cdv A outer s H vs Q E hr h => ?_
  have hu := hu_of hr
  refine ⟨rdS K Pr E c_are_rows, ?_, body_rd (N := ["table", "rows", "needs", "seen", "row", "task"]) (spF_cut h)⟩
  exact (ss_cons (s_set (i := 2) sc_are_rows.nd rfl (by first | exact Or.inl rfl | exact Or.inr rfl) (e_call (ok_all_needs W) (hr.mono (by decide)) rfl W.g_all_needs W.d_all_needs.choose_spec.kp (bn_all_needs W) pass00 (a_cons (e_var 0) a_nil))) (ss_cons (s_if (t_not (t_val (e_call (ok_is_row W) (hr.mono (by decide)) rfl W.g_is_row W.d_is_row.choose_spec.kp (bn_is_row W) pass00 (a_cons (e_var 1) a_nil)))) (ss_one (s_ret e_bl)) ss_nil) (ss_cons (s_set (i := 3) sc_are_rows.nd rfl (by first | exact Or.inl rfl | exact Or.inr rfl) e_dnew) (ss_cons (s_forS (passes_of rfl) rfl (e_var 1) (g_name (i := 4) sc_are_rows.nd rfl (by first | exact Or.inl rfl | exact Or.inr rfl)) (ss_cons (s_if (t_w (w_or (t_not (t_val (e_call (ok_chain_in W) (hr.mono (by decide)) rfl W.g_chain_in W.d_chain_in.choose_spec.kp (bn_chain_in W) pass00 (a_cons (e_var 2) (a_cons (e_var 4) a_nil))))) (w_or1 (t_cmp (op_eqA hr.units) pr_eq (e_callB call_lenS pr_len rfl W.b_len bt_len (a_cons (e_var 4) a_nil)) e_int (nomark _))))) (ss_one (s_ret e_bl)) ss_nil) (ss_one (s_forS (passes_of rfl) rfl (e_var 4) (g_name (i := 5) sc_are_rows.nd rfl (by first | exact Or.inl rfl | exact Or.inr rfl)) (ss_cons (s_if (t_cmp (op_inD hu) pr_inD (e_var 5) (e_var 3) (by rfl)) (ss_one (s_ret e_bl)) ss_nil) (ss_one (s_dput hu e_bl (e_var 3) (e_var 5)))))))) (ss_one (s_ret (e_cmp (op_eqA hr.units) pr_eq (e_callB call_lenDD pr_lenD rfl W.b_len bt_len (a_cons (e_var 3) a_nil)) (e_callB call_lenS pr_len rfl W.b_len bt_len (a_cons (e_var 2) a_nil)) (nomark _))))))))
theorem bn__law_source (W : Wd K mg) : Binds K W.d__law_source.choose ["script", "k"] [] := W.d__law_source.choose_spec.bindsN fun _ _ _ _ _ _ us hl => match us, hl with | [_, _], _ => rfl
theorem ok__law_source (W : Wd K mg) : FnOk P w K mg base CX0 1 (He.ga K "_law_source") W.d__law_source.choose ["script", "k"] (spF K Pr 2 m__law_source) := by
  refine FunD.ok W.d__law_source.choose_spec sc__law_source (fun _ _ _ _ h => spF_len h) fun cdv A outer s H vs Q E hr h => ?_
  have hu := hu_of hr
  refine ⟨rdS K Pr E c__law_source, ?_, body_rd (N := ["script", "k", "cell"]) h⟩
  exact (ss_cons (s_set (i := 2) sc__law_source.nd rfl (by first | exact Or.inl rfl | exact Or.inr rfl) e_int) (ss_cons (s_if (t_cmp op_lt pr_lt (e_var 1) (e_callB call_lenS pr_len rfl W.b_len bt_len (a_cons (e_var 0) a_nil)) (nomark _)) (ss_one (s_set (i := 2) sc__law_source.nd rfl (by first | exact Or.inl rfl | exact Or.inr rfl) (e_callB call_absA pr_abs rfl W.b_abs bt_abs (a_cons (e_ix ix_A pr_ix (e_var 0) (e_var 1) (fun _ _ => rfl)) a_nil)))) ss_nil) (ss_one (s_ret (e_lst mkN_ok (a_cons (e_var 2) (a_cons (e_bin op_mod pr_mod (e_callTy call_intA pr_int rfl W.b_int bt_int (a_cons (e_bin op_addA (pr_add mkD_ok) (e_bin op_addA (pr_add mkD_ok) (e_bin op_mul pr_mul (e_var 2) e_int) e_int) (e_bin op_mul pr_mul (e_var 1) e_int)) a_nil)) e_int) a_nil)))))))
theorem bn__law_draw (W : Wd K mg) : Binds K W.d__law_draw.choose ["source", "limit"] [] := W.d__law_draw.choose_spec.bindsN fun _ _ _ _ _ _ us hl => match us, hl with | [_, _], _ => rfl
theorem ok__law_draw (W : Wd K mg) : FnOk P w K mg base CX0 1 (He.ga K "_law_draw") W.d__law_draw.choose ["source", "limit"] (spF K Pr 2 m__law_draw) := by
  refine FunD.ok W.d__law_draw.choose_spec sc__law_draw (fun _ _ _ _ h => spF_len h) fun cdv A outer s H vs Q E hr h => ?_
  have hu := hu_of hr
  refine ⟨rdS K Pr E c__law_draw, ?_, body_rd (N := ["source", "limit", "value"]) h⟩
  exact (ss_cons (s_if (t_cmp op_ge pr_ge (e_ix ix_A pr_ix (e_var 0) e_int (fun _ _ => rfl)) (e_bin op_pow pr_pow e_int e_int) (nomark _)) (ss_cons (s_set (i := 2) sc__law_draw.nd rfl (by first | exact Or.inl rfl | exact Or.inr rfl) (e_bin op_mod pr_mod (e_callTy call_intA pr_int rfl W.b_int bt_int (a_cons (e_ix ix_A pr_ix (e_var 0) e_int (fun _ _ => rfl)) a_nil)) (e_var 1))) (ss_cons (s_setL (e_bin op_fdiv pr_div (e_ix ix_A pr_ix (e_var 0) e_int (fun _ _ => rfl)) (e_var 1)) (e_var 0) e_int) (ss_one (s_ret (e_var 2))))) ss_nil) (ss_cons (s_setL (e_bin op_mod pr_mod (e_callTy call_intA pr_int rfl W.b_int bt_int (a_cons (e_bin op_addA (pr_add mkD_ok) (e_bin op_addA (pr_add mkD_ok) (e_bin op_mul pr_mul (e_ix ix_A pr_ix (e_var 0) e_int (fun _ _ => rfl)) e_int) (e_ix ix_A pr_ix (e_var 0) e_int (fun _ _ => rfl))) e_int) a_nil)) e_int) (e_var 0) e_int) (ss_one (s_ret (e_bin op_mod pr_mod (e_callTy call_intA pr_int rfl W.b_int bt_int (a_cons (e_bin op_fdiv pr_div (e_ix ix_A pr_ix (e_var 0) e_int (fun _ _ => rfl)) e_int) a_nil)) (e_var 1))))))
theorem bn__law_is_integer (W : Wd K mg) : Binds K W.d__law_is_integer.choose ["actual"] [] := W.d__law_is_integer.choose_spec.bindsN fun _ _ _ _ _ _ us hl => match us, hl with | [_], _ => rfl
theorem ok__law_is_integer (W : Wd K mg) : FnOk P w K mg base CX0 1 (He.ga K "_law_is_integer") W.d__law_is_integer.choose ["actual"] (spF K Pr 1 m__law_is_integer) := by
  refine FunD.ok W.d__law_is_integer.choose_spec sc__law_is_integer (fun _ _ _ _ h => spF_len h) fun cdv A outer s H vs Q E hr h => ?_
  have hu := hu_of hr
  refine ⟨rdS K Pr E c__law_is_integer, ?_, body_rd (N := ["actual"]) h⟩
  exact (ss_one (s_ret (e_and (e_isi .int (by decide) rfl W.b_isinstance (e_var 0) (pe_bltn rfl W.b_int bt_int rfl)) (e_one (e_not (e_isi .bool (by decide) rfl W.b_isinstance (e_var 0) (pe_bltn rfl W.b_bool bt_bool rfl)))))))
theorem bn__law_table (W : Wd K mg) : Binds K W.d__law_table.choose ["script", "start", "most"] [] := W.d__law_table.choose_spec.bindsN fun _ _ _ _ _ _ us hl => match us, hl with | [_, _, _], _ => rfl
theorem ok__law_table (W : Wd K mg) : FnOk P w K mg base CX0 2 (He.ga K "_law_table") W.d__law_table.choose ["script", "start", "most"] (spF K Pr 3 m__law_table) := by
  refine FunD.ok W.d__law_table.choose_spec sc__law_table (fun _ _ _ _ h => spF_len h) fun cdv A outer s H vs Q E hr h => ?_
  have hu := hu_of hr
  refine ⟨rdS K Pr E c__law_table, ?_, body_rd (N := ["script", "start", "most", "source", "count", "order", "often", "rows", "at", "other", "task", "pair", "k"]) (spF_cut h)⟩
  exact (ss_cons (s_set (i := 3) sc__law_table.nd rfl (by first | exact Or.inl rfl | exact Or.inr rfl) (e_call (ok__law_source W) (hr.mono (by decide)) rfl W.g__law_source W.d__law_source.choose_spec.kp (bn__law_source W) pass00 (a_cons (e_var 0) (a_cons (e_var 1) a_nil)))) (ss_cons (s_set (i := 4) sc__law_table.nd rfl (by first | exact Or.inl rfl | exact Or.inr rfl) (e_call (ok__law_draw W) (hr.mono (by decide)) rfl W.g__law_draw W.d__law_draw.choose_spec.kp (bn__law_draw W) pass00 (a_cons (e_var 3) (a_cons (e_bin op_addA (pr_add mkD_ok) (e_var 2) e_int) a_nil)))) (ss_cons (s_set (i := 5) sc__law_table.nd rfl (by first | exact Or.inl rfl | exact Or.inr rfl) (e_compSV (E' := XE0) mkD_ok rfl sc__law_table.nd (e_callB (cr_sortedLP (room8 hr)) (pr_sortedP mkD_ok) rfl W.b_sorted bt_sorted (a_cons (e_compV (E' := XE0) mkD_ok rfl sc__law_table.nd (i_r1 rfl W.b_range (a_cons (e_var 4) a_nil)) (blkOk_by (own := [("task", 10)]) (by show blkC NN__law_table (defScope s__law_table) _ _ = true; decide +kernel)) (fun s2 H2 C2 cl2 fp2 => (g_name (i := 10) sc__law_table.nd rfl (by first | exact Or.inl rfl | exact Or.inr rfl))) (fun s2 H2 C2 cl2 fp2 => ts_nil) (fun s2 H2 C2 cl2 fp2 => (e_lst mkD_ok (a_cons (e_call (ok__law_draw W) (hr.mono (by decide)) rfl W.g__law_draw W.d__law_draw.choose_spec.kp (bn__law_draw W) pass00 (a_cons (e_var 3) (a_cons e_int a_nil))) (a_cons (e_var 10) a_nil))))) a_nil)) (blkOk_by (own := [("pair", 11)]) (by show blkC NN__law_table (defScope s__law_table) _ _ = true; decide +kernel)) (fun s2 H2 C2 cl2 fp2 => (g_name (i := 11) sc__law_table.nd rfl (by first | exact Or.inl rfl | exact Or.inr rfl))) (fun s2 H2 C2 cl2 fp2 => ts_nil) (fun s2 H2 C2 cl2 fp2 => (e_ix ix_A pr_ix (e_var 11) e_int (fun _ _ => rfl))))) (ss_cons (s_set (i := 6) sc__law_table.nd rfl (by first | exact Or.inl rfl | exact Or.inr rfl) (e_ix ix_A pr_ix (e_lst mkD_ok (a_cons e_int (a_cons e_int (a_cons e_int (a_cons e_int a_nil))))) (e_call (ok__law_draw W) (hr.mono (by decide)) rfl W.g__law_draw W.d__law_draw.choose_spec.kp (bn__law_draw W) pass00 (a_cons (e_var 3) (a_cons e_int a_nil))) (fun _ _ => rfl))) (ss_cons (s_compV (E' := XE0) (i := 7) mkN_ok rfl sc__law_table.nd rfl rfl (sw_true rfl rfl rfl (by decide +kernel)) (i_r1 rfl W.b_range (a_cons (e_var 4) a_nil)) (blkOk_by (own := [("task", 10)]) (by show blkC NN__law_table (defScope s__law_table) _ _ = true; decide +kernel)) (fun s2 H2 C2 cl2 fp2 => (g_name (i := 10) sc__law_table.nd rfl (by first | exact Or.inl rfl | exact Or.inr rfl))) (fun s2 H2 C2 cl2 fp2 => ts_nil) (fun s2 H2 C2 cl2 fp2 => (e_lst mkD_ok a_nil))) (ss_cons (s_for (passes_of rfl) rfl (i_r1 rfl W.b_range (a_cons (e_var 4) a_nil)) (g_name (i := 8) sc__law_table.nd rfl (by first | exact Or.inl rfl | exact Or.inr rfl)) (ss_cut (ss_cons (s_set (i := 9) sc__law_table.nd rfl (by first | exact Or.inl rfl | exact Or.inr rfl) (e_call (ok__law_source W) (hr.mono (by decide)) rfl W.g__law_source W.d__law_source.choose_spec.kp (bn__law_source W) pass00 (a_cons (e_var 0) (a_cons (e_bin op_addA (pr_add mkD_ok) (e_bin op_addA (pr_add mkD_ok) (e_var 1) e_int) (e_var 8)) a_nil)))) (ss_one (s_setL (e_callB cr_sortedI (pr_sorted mkD_ok) rfl W.b_sorted bt_sorted (a_cons (e_compV (E' := XE0) mkD_ok rfl sc__law_table.nd (i_r1 rfl W.b_range (a_cons (e_var 8) a_nil)) (blkOk_by (own := [("k", 12)]) (by show blkC NN__law_table (defScope s__law_table) _ _ = true; decide +kernel)) (fun s2 H2 C2 cl2 fp2 => (g_name (i := 12) sc__law_table.nd rfl (by first | exact Or.inl rfl | exact Or.inr rfl))) (fun s2 H2 C2 cl2 fp2 => (ts_one (t_cmp op_lt pr_lt (e_call (ok__law_draw W) (hr.mono (by decide)) rfl W.g__law_draw W.d__law_draw.choose_spec.kp (bn__law_draw W) pass00 (a_cons (e_var 9) (a_cons e_int a_nil))) (e_var 6) (nomark _)))) (fun s2 H2 C2 cl2 fp2 => (e_ix ix_A pr_ix (e_var 5) (e_var 12) (fun _ _ => rfl)))) a_nil)) (e_var 7) (e_ix ix_A pr_ix (e_var 5) (e_var 8) (fun _ _ => rfl))))))) (ss_one (s_ret (e_frz (e_var 7))))))))))
theorem bn__law_needed (W : Wd K mg) : Binds K W.d__law_needed.choose ["table"] [] := W.d__law_needed.choose_spec.bindsN fun _ _ _ _ _ _ us hl => match us, hl with | [_], _ => rfl
theorem ok__law_needed (W : Wd K mg) : FnOk P w K mg base CX0 1 (He.ga K "_law_needed") W.d__law_needed.choose ["table"] (spF K Pr 1 m__law_needed) := by
  refine FunD.ok W.d__law_needed.choose_spec sc__law_needed (fun _ _ _ _ h => spF_len h) fun cdv A outer s H vs Q E hr h => ?_
  have hu := hu_of hr
  refine ⟨rdS K Pr E c__law_needed, ?_, body_rd (N := ["table", "needs", "turn", "grown", "row", "more", "other"]) (spF_cut h)⟩
  exact (ss_cons (s_compSV (E' := XE0) (i := 1) mkD_ok rfl sc__law_needed.nd rfl rfl (sw_true rfl rfl rfl (by decide +kernel)) (e_var 0) (blkOk_by (own := [("row", 4)]) (by show blkC NN__law_needed (defScope s__law_needed) _ _ = true; decide +kernel)) (fun s2 H2 C2 cl2 fp2 => (g_name (i := 4) sc__law_needed.nd rfl (by first | exact Or.inl rfl | exact Or.inr rfl))) (fun s2 H2 C2 cl2 fp2 => ts_nil) (fun s2 H2 C2 cl2 fp2 => (e_callTy call_listS (pr_list mkD_ok) rfl W.b_list bt_list (a_cons (e_var 4) a_nil)))) (ss_cons (s_for (passes_of rfl) rfl (i_r1 rfl W.b_range (a_cons (e_callB call_lenS pr_len rfl W.b_len bt_len (a_cons (e_var 0) a_nil)) a_nil)) (g_name (i := 2) sc__law_needed.nd rfl (by first | exact Or.inl rfl | exact Or.inr rfl)) (ss_cut (ss_cons (s_set (i := 3) sc__law_needed.nd rfl (by first | exact Or.inl rfl | exact Or.inr rfl) (e_lst mkN_ok a_nil)) (ss_cons (s_forS (passes_of rfl) rfl (e_var 1) (g_name (i := 4) sc__law_needed.nd rfl (by first | exact Or.inl rfl | exact Or.inr rfl)) (ss_cons (s_set (i := 5) sc__law_needed.nd rfl (by first | exact Or.inl rfl | exact Or.inr rfl) (e_callTy call_listS (pr_list mkD_ok) rfl W.b_list bt_list (a_cons (e_var 4) a_nil))) (ss_cons (s_forS (passes_of rfl) rfl (e_var 4) (g_name (i := 6) sc__law_needed.nd rfl (by first | exact Or.inl rfl | exact Or.inr rfl)) (ss_one (s_set (i := 5) sc__law_needed.nd rfl (by first | exact Or.inl rfl | exact Or.inr rfl) (e_bin op_addA (pr_add mkD_ok) (e_var 5) (e_ix ix_A pr_ix (e_var 1) (e_var 6) (fun _ _ => rfl)))))) (ss_one (s_expr (e_append (e_var 3) (e_sortSet mkD_ok rfl rfl W.b_sorted rfl W.b_set (e_var 5)))))))) (ss_cons (s_if (t_cmp (op_eqA hr.units) pr_eq (e_var 3) (e_var 1) (nomark _)) (ss_one s_break) ss_nil) (ss_one (s_set (i := 1) sc__law_needed.nd rfl (by first | exact Or.inl rfl | exact Or.inr rfl) (e_frz (e_var 3))))))))) (ss_one (s_ret (e_var 1)))))
theorem bn__law_is_row (W : Wd K mg) : Binds K W.d__law_is_row.choose ["value"] [] := W.d__law_is_row.choose_spec.bindsN fun _ _ _ _ _ _ us hl => match us, hl with | [_], _ => rfl
theorem ok__law_is_row (W : Wd K mg) : FnOk P w K mg base CX0 1 (He.ga K "_law_is_row") W.d__law_is_row.choose ["value"] (spF K Pr 1 m__law_is_row) := by
  refine FunD.ok W.d__law_is_row.choose_spec sc__law_is_row (fun _ _ _ _ h => spF_len h) fun cdv A outer s H vs Q E hr h => ?_
  have hu := hu_of hr
  refine ⟨rdS K Pr E c__law_is_row, ?_, body_rd (N := ["value"]) h⟩
  exact (ss_one (s_ret (e_isi2 .tuple .list (by decide) (by decide) rfl W.b_isinstance (e_var 0) (pe_tup (pa_cons (pe_bltn rfl W.b_tuple bt_tuple rfl) (pa_cons (pe_bltn rfl W.b_list bt_list rfl) pa_nil))))))
theorem bn__law_rising (W : Wd K mg) : Binds K W.d__law_rising.choose ["row", "count"] [] := W.d__law_rising.choose_spec.bindsN fun _ _ _ _ _ _ us hl => match us, hl with | [_, _], _ => rfl
theorem ok__law_rising (W : Wd K mg) : FnOk P w K mg base CX0 2 (He.ga K "_law_rising") W.d__law_rising.choose ["row", "count"] (spF K Pr 2 m__law_rising) := by
  refine FunD.ok W.d__law_rising.choose_spec sc__law_rising (fun _ _ _ _ h => spF_len h) fun cdv A outer s H vs Q E hr h => ?_
  have hu := hu_of hr
  refine ⟨rdS K Pr E c__law_rising, ?_, body_rd (N := ["row", "count", "last", "task"]) h⟩
  exact (ss_cons (s_if (t_not (t_val (e_call (ok__law_is_row W) (hr.mono (by decide)) rfl W.g__law_is_row W.d__law_is_row.choose_spec.kp (bn__law_is_row W) pass00 (a_cons (e_var 0) a_nil)))) (ss_one (s_ret e_bl)) ss_nil) (ss_cons (s_set (i := 2) sc__law_rising.nd rfl (by first | exact Or.inl rfl | exact Or.inr rfl) (e_neg e_int)) (ss_cons (s_forS (passes_of rfl) rfl (e_var 0) (g_name (i := 3) sc__law_rising.nd rfl (by first | exact Or.inl rfl | exact Or.inr rfl)) (ss_cons (s_if (t_w (w_or (t_not (t_val (e_call (ok__law_is_integer W) (hr.mono (by decide)) rfl W.g__law_is_integer W.d__law_is_integer.choose_spec.kp (bn__law_is_integer W) pass00 (a_cons (e_var 3) a_nil)))) (w_or (t_cmp op_le pr_le (e_var 3) (e_var 2) (nomark _)) (w_or1 (t_cmp op_ge pr_ge (e_var 3) (e_var 1) (nomark _)))))) (ss_one (s_ret e_bl)) ss_nil) (ss_one (s_set (i := 2) sc__law_rising.nd rfl (by first | exact Or.inl rfl | exact Or.inr rfl) (e_var 3))))) (ss_one (s_ret e_bl)))))
theorem bn__law_schedule (W : Wd K mg) : Binds K W.d__law_schedule.choose ["needs", "slots", "members"] [] := W.d__law_schedule.choose_spec.bindsN fun _ _ _ _ _ _ us hl => match us, hl with | [_, _, _], _ => rfl
theorem ok__law_schedule (W : Wd K mg) : FnOk P w K mg base CX0 3 (He.ga K "_law_schedule") W.d__law_schedule.choose ["needs", "slots", "members"] (spF K Pr 3 m__law_schedule) := by
  refine FunD.ok W.d__law_schedule.choose_spec sc__law_schedule (fun _ _ _ _ h => spF_len h) fun cdv A outer s H vs Q E hr h => ?_
  have hu := hu_of hr
  refine ⟨rdS K Pr E c__law_schedule, ?_, body_rd (N := ["needs", "slots", "members", "done", "slot", "task", "need"]) h⟩
  exact (ss_cons (s_if (t_not (t_val (e_call (ok__law_is_row W) (hr.mono (by decide)) rfl W.g__law_is_row W.d__law_is_row.choose_spec.kp (bn__law_is_row W) pass00 (a_cons (e_var 1) a_nil)))) (ss_one (s_ret e_bl)) ss_nil) (ss_cons (s_set (i := 3) sc__law_schedule.nd rfl (by first | exact Or.inl rfl | exact Or.inr rfl) (e_lst mkD_ok a_nil)) (ss_cons (s_forS (passes_of rfl) rfl (e_var 1) (g_name (i := 4) sc__law_schedule.nd rfl (by first | exact Or.inl rfl | exact Or.inr rfl)) (ss_cons (s_if (t_w (w_or (t_not (t_val (e_call (ok__law_rising W) (hr.mono (by decide)) rfl W.g__law_rising W.d__law_rising.choose_spec.kp (bn__law_rising W) pass00 (a_cons (e_var 4) (a_cons (e_callB call_lenS pr_len rfl W.b_len bt_len (a_cons (e_var 0) a_nil)) a_nil))))) (w_or (t_cmp (op_eqA hr.units) pr_eq (e_callB call_lenS pr_len rfl W.b_len bt_len (a_cons (e_var 4) a_nil)) e_int (nomark _)) (w_or1 (t_cmp op_gt pr_gt (e_callB call_lenS pr_len rfl W.b_len bt_len (a_cons (e_var 4) a_nil)) (e_var 2) (nomark _)))))) (ss_one (s_ret e_bl)) ss_nil) (ss_cons (s_forS (passes_of rfl) rfl (e_var 4) (g_name (i := 5) sc__law_schedule.nd rfl (by first | exact Or.inl rfl | exact Or.inr rfl)) (ss_one (s_if (t_w (w_or (t_cmp op_in_seq pr_in (e_var 5) (e_var 3) (by rfl)) (w_or1 (t_cmp op_gt pr_gt (e_callB call_lenS pr_len rfl W.b_len bt_len (a_cons (e_compSV (E' := XE0) mkD_ok rfl sc__law_schedule.nd (e_ix ix_A pr_ix (e_var 0) (e_var 5) (fun _ _ => rfl)) (blkOk_by (own := [("need", 6)]) (by show blkC NN__law_schedule (defScope s__law_schedule) _ _ = true; decide +kernel)) (fun s2 H2 C2 cl2 fp2 => (g_name (i := 6) sc__law_schedule.nd rfl (by first | exact Or.inl rfl | exact Or.inr rfl))) (fun s2 H2 C2 cl2 fp2 => (ts_one (t_cmp op_notIn_seq pr_in (e_var 6) (e_var 3) (by rfl)))) (fun s2 H2 C2 cl2 fp2 => (e_var 6))) a_nil)) e_int (nomark _))))) (ss_one (s_ret e_bl)) ss_nil))) (ss_one (s_set (i := 3) sc__law_schedule.nd rfl (by first | exact Or.inl rfl | exact Or.inr rfl) (e_bin op_addA (pr_add mkD_ok) (e_var 3) (e_callTy call_listS (pr_list mkD_ok) rfl W.b_list bt_list (a_cons (e_var 4) a_nil)))))))) (ss_one (s_ret (e_cmp (op_eqA hr.units) pr_eq (e_callB call_lenS pr_len rfl W.b_len bt_len (a_cons (e_var 3) a_nil)) (e_callB call_lenS pr_len rfl W.b_len bt_len (a_cons (e_var 0) a_nil)) (nomark _)))))))
theorem bn__law_blocks (W : Wd K mg) : Binds K W.d__law_blocks.choose ["needs", "blocks"] [] := W.d__law_blocks.choose_spec.bindsN fun _ _ _ _ _ _ us hl => match us, hl with | [_, _], _ => rfl
theorem ok__law_blocks (W : Wd K mg) : FnOk P w K mg base CX0 3 (He.ga K "_law_blocks") W.d__law_blocks.choose ["needs", "blocks"] (spF K Pr 2 m__law_blocks) := by
  refine FunD.ok W.d__law_blocks.choose_spec sc__law_blocks (fun _ _ _ _ h => spF_len h) fun cdv A outer s H vs Q E hr h => ?_
  have hu := hu_of hr
  refine ⟨rdS K Pr E c__law_blocks, ?_, body_rd (N := ["needs", "blocks", "seen", "before", "block", "task", "need"]) h⟩
  exact (ss_cons (s_if (t_not (t_val (e_call (ok__law_is_row W) (hr.mono (by decide)) rfl W.g__law_is_row W.d__law_is_row.choose_spec.kp (bn__law_is_row W) pass00 (a_cons (e_var 1) a_nil)))) (ss_one (s_ret e_bl)) ss_nil) (ss_cons (s_set (i := 2) sc__law_blocks.nd rfl (by first | exact Or.inl rfl | exact Or.inr rfl) (e_lst mkD_ok a_nil)) (ss_cons (s_set (i := 3) sc__law_blocks.nd rfl (by first | exact Or.inl rfl | exact Or.inr rfl) (e_lst mkD_ok a_nil)) (ss_cons (s_forS (passes_of rfl) rfl (e_var 1) (g_name (i := 4) sc__law_blocks.nd rfl (by first | exact Or.inl rfl | exact Or.inr rfl)) (ss_cons (s_if (t_w (w_or (t_not (t_val (e_call (ok__law_rising W) (hr.mono (by decide)) rfl W.g__law_rising W.d__law_rising.choose_spec.kp (bn__law_rising W) pass00 (a_cons (e_var 4) (a_cons (e_callB call_lenS pr_len rfl W.b_len bt_len (a_cons (e_var 0) a_nil)) a_nil))))) (w_or1 (t_cmp (op_eqA hr.units) pr_eq (e_callB call_lenS pr_len rfl W.b_len bt_len (a_cons (e_var 4) a_nil)) e_int (nomark _))))) (ss_one (s_ret e_bl)) ss_nil) (ss_cons (s_forS (passes_of rfl) rfl (e_var 4) (g_name (i := 5) sc__law_blocks.nd rfl (by first | exact Or.inl rfl | exact Or.inr rfl)) (ss_one (s_if (t_w (w_or (t_cmp op_in_seq pr_in (e_var 5) (e_var 2) (by rfl)) (w_or1 (t_cmp op_gt pr_gt (e_callB call_lenS pr_len rfl W.b_len bt_len (a_cons (e_compSV (E' := XE0) mkD_ok rfl sc__law_blocks.nd (e_var 3) (blkOk_by (own := [("need", 6)]) (by show blkC NN__law_blocks (defScope s__law_blocks) _ _ = true; decide +kernel)) (fun s2 H2 C2 cl2 fp2 => (g_name (i := 6) sc__law_blocks.nd rfl (by first | exact Or.inl rfl | exact Or.inr rfl))) (fun s2 H2 C2 cl2 fp2 => (ts_one (t_cmp op_notIn_seq pr_in (e_var 6) (e_ix ix_A pr_ix (e_var 0) (e_var 5) (fun _ _ => rfl)) (by rfl)))) (fun s2 H2 C2 cl2 fp2 => (e_var 6))) a_nil)) e_int (nomark _))))) (ss_one (s_ret e_bl)) ss_nil))) (ss_cons (s_set (i := 2) sc__law_blocks.nd rfl (by first | exact Or.inl rfl | exact Or.inr rfl) (e_bin op_addA (pr_add mkD_ok) (e_var 2) (e_callTy call_listS (pr_list mkD_ok) rfl W.b_list bt_list (a_cons (e_var 4) a_nil)))) (ss_one (s_set (i := 3) sc__law_blocks.nd rfl (by first | exact Or.inl rfl | exact Or.inr rfl) (e_callTy call_listS (pr_list mkD_ok) rfl W.b_list bt_list (a_cons (e_var 4) a_nil)))))))) (ss_one (s_ret e_bl))))))
theorem bn__law_chain (W : Wd K mg) : Binds K W.d__law_chain.choose ["needs", "tasks"] [] := W.d__law_chain.choose_spec.bindsN fun _ _ _ _ _ _ us hl => match us, hl with | [_, _], _ => rfl
theorem ok__law_chain (W : Wd K mg) : FnOk P w K mg base CX0 2 (He.ga K "_law_chain") W.d__law_chain.choose ["needs", "tasks"] (spF K Pr 2 m__law_chain) := by
  refine FunD.ok W.d__law_chain.choose_spec sc__law_chain (fun _ _ _ _ h => spF_len h) fun cdv A outer s H vs Q E hr h => ?_
  have hu := hu_of hr
  refine ⟨rdS K Pr E c__law_chain, ?_, body_rd (N := ["needs", "tasks", "at"]) h⟩
  exact (ss_cons (s_if (t_not (t_val (e_call (ok__law_is_row W) (hr.mono (by decide)) rfl W.g__law_is_row W.d__law_is_row.choose_spec.kp (bn__law_is_row W) pass00 (a_cons (e_var 1) a_nil)))) (ss_one (s_ret e_bl)) ss_nil) (ss_cons (s_for (passes_of rfl) rfl (i_r1 rfl W.b_range (a_cons (e_callB call_lenS pr_len rfl W.b_len bt_len (a_cons (e_var 1) a_nil)) a_nil)) (g_name (i := 2) sc__law_chain.nd rfl (by first | exact Or.inl rfl | exact Or.inr rfl)) (ss_cons (s_if (t_w (w_or (t_not (t_val (e_call (ok__law_is_integer W) (hr.mono (by decide)) rfl W.g__law_is_integer W.d__law_is_integer.choose_spec.kp (bn__law_is_integer W) pass00 (a_cons (e_ix ix_A pr_ix (e_var 1) (e_var 2) (fun _ _ => rfl)) a_nil)))) (w_or (t_cmp op_lt pr_lt (e_ix ix_A pr_ix (e_var 1) (e_var 2) (fun _ _ => rfl)) e_int (nomark _)) (w_or1 (t_cmp op_ge pr_ge (e_ix ix_A pr_ix (e_var 1) (e_var 2) (fun _ _ => rfl)) (e_callB call_lenS pr_len rfl W.b_len bt_len (a_cons (e_var 0) a_nil)) (nomark _)))))) (ss_one (s_ret e_bl)) ss_nil) (ss_one (s_if (t_w (w_and (t_cmp op_gt pr_gt (e_var 2) e_int (nomark _)) (w_and1 (t_cmp op_notIn_seq pr_in (e_ix ix_A pr_ix (e_var 1) (e_bin op_sub pr_sub (e_var 2) e_int) (fun _ _ => rfl)) (e_ix ix_A pr_ix (e_var 0) (e_ix ix_A pr_ix (e_var 1) (e_var 2) (fun _ _ => rfl)) (fun _ _ => rfl)) (by rfl))))) (ss_one (s_ret e_bl)) ss_nil)))) (ss_one (s_ret e_bl))))
theorem bn__law_cover (W : Wd K mg) : Binds K W.d__law_cover.choose ["needs", "rows"] [] := W.d__law_cover.choose_spec.bindsN fun _ _ _ _ _ _ us hl => match us, hl with | [_, _], _ => rfl
theorem ok__law_cover (W : Wd K mg) : FnOk P w K mg base CX0 3 (He.ga K "_law_cover") W.d__law_cover.choose ["needs", "rows"] (spF K Pr 2 m__law_cover) := by
  refine FunD.ok W.d__law_cover.choose_spec sc__law_cover (fun _ _ _ _ h => spF_len h) fun cdv A outer s H vs Q E hr h => ?_
  have hu := hu_of hr
  refine ⟨rdS K Pr E c__law_cover, ?_, body_rd (N := ["needs", "rows", "seen", "row"]) h⟩
  exact (ss_cons (s_if (t_not (t_val (e_call (ok__law_is_row W) (hr.mono (by decide)) rfl W.g__law_is_row W.d__law_is_row.choose_spec.kp (bn__law_is_row W) pass00 (a_cons (e_var 1) a_nil)))) (ss_one (s_ret e_bl)) ss_nil) (ss_cons (s_set (i := 2) sc__law_cover.nd rfl (by first | exact Or.inl rfl | exact Or.inr rfl) (e_lst mkD_ok a_nil)) (ss_cons (s_forS (passes_of rfl) rfl (e_var 1) (g_name (i := 3) sc__law_cover.nd rfl (by first | exact Or.inl rfl | exact Or.inr rfl)) (ss_cons (s_if (t_w (w_or (t_not (t_val (e_call (ok__law_chain W) (hr.mono (by decide)) rfl W.g__law_chain W.d__law_chain.choose_spec.kp (bn__law_chain W) pass00 (a_cons (e_var 0) (a_cons (e_var 3) a_nil))))) (w_or1 (t_cmp (op_eqA hr.units) pr_eq (e_callB call_lenS pr_len rfl W.b_len bt_len (a_cons (e_var 3) a_nil)) e_int (nomark _))))) (ss_one (s_ret e_bl)) ss_nil) (ss_one (s_set (i := 2) sc__law_cover.nd rfl (by first | exact Or.inl rfl | exact Or.inr rfl) (e_bin op_addA (pr_add mkD_ok) (e_var 2) (e_callTy call_listS (pr_list mkD_ok) rfl W.b_list bt_list (a_cons (e_var 3) a_nil))))))) (ss_one (s_ret (e_and (e_cmp (op_eqA hr.units) pr_eq (e_callB call_lenS pr_len rfl W.b_len bt_len (a_cons (e_var 2) a_nil)) (e_callB call_lenS pr_len rfl W.b_len bt_len (a_cons (e_var 0) a_nil)) (nomark _)) (e_one (e_cmp (op_eqA hr.units) pr_eq (e_lenSet rfl rfl W.b_len rfl W.b_set (e_var 2)) (e_callB call_lenS pr_len rfl W.b_len bt_len (a_cons (e_var 0) a_nil)) (nomark _)))))))))
theorem bn__law_apart (W : Wd K mg) : Binds K W.d__law_apart.choose ["needs", "tasks"] [] := W.d__law_apart.choose_spec.bindsN fun _ _ _ _ _ _ us hl => match us, hl with | [_, _], _ => rfl
theorem ok__law_apart (W : Wd K mg) : FnOk P w K mg base CX0 3 (He.ga K "_law_apart") W.d__law_apart.choose ["needs", "tasks"] (spF K Pr 2 m__law_apart) := by
  refine FunD.ok W.d__law_apart.choose_spec sc__law_apart (fun _ _ _ _ h => spF_len h) fun cdv A outer s H vs Q E hr h => ?_
  have hu := hu_of hr
  refine ⟨rdS K Pr E c__law_apart, ?_, body_rd (N := ["needs", "tasks", "task", "other"]) h⟩
  exact (ss_cons (s_if (t_not (t_val (e_call (ok__law_rising W) (hr.mono (by decide)) rfl W.g__law_rising W.d__law_rising.choose_spec.kp (bn__law_rising W) pass00 (a_cons (e_var 1) (a_cons (e_callB call_lenS pr_len rfl W.b_len bt_len (a_cons (e_var 0) a_nil)) a_nil))))) (ss_one (s_ret e_bl)) ss_nil) (ss_cons (s_forS (passes_of rfl) rfl (e_var 1) (g_name (i := 2) sc__law_apart.nd rfl (by first | exact Or.inl rfl | exact Or.inr rfl)) (ss_one (s_if (t_cmp op_gt pr_gt (e_callB call_lenS pr_len rfl W.b_len bt_len (a_cons (e_compSV (E' := XE0) mkD_ok rfl sc__law_apart.nd (e_var 1) (blkOk_by (own := [("other", 3)]) (by show blkC NN__law_apart (defScope s__law_apart) _ _ = true; decide +kernel)) (fun s2 H2 C2 cl2 fp2 => (g_name (i := 3) sc__law_apart.nd rfl (by first | exact Or.inl rfl | exact Or.inr rfl))) (fun s2 H2 C2 cl2 fp2 => (ts_one (t_cmp op_in_seq pr_in (e_var 3) (e_ix ix_A pr_ix (e_var 0) (e_var 2) (fun _ _ => rfl)) (by rfl)))) (fun s2 H2 C2 cl2 fp2 => (e_var 3))) a_nil)) e_int (nomark _)) (ss_one (s_ret e_bl)) ss_nil))) (ss_one (s_ret e_bl))))
theorem bn__law_order (W : Wd K mg) : Binds K W.d__law_order.choose ["source", "rows"] [] := W.d__law_order.choose_spec.bindsN fun _ _ _ _ _ _ us hl => match us, hl with | [_, _], _ => rfl
theorem ok__law_order (W : Wd K mg) : FnOk P w K mg base CX0 2 (He.ga K "_law_order") W.d__law_order.choose ["source", "rows"] (spF K Pr 2 m__law_order) := by
  refine FunD.ok W.d__law_order.choose_spec sc__law_order (fun _ _ _ _ h => spF_len h) fun cdv A outer s H vs Q E hr h => ?_
  have hu := hu_of hr
  refine ⟨rdS K Pr E c__law_order, ?_, body_rd (N := ["source", "rows", "order", "turn", "ready", "task", "need"]) (spF_cut h)⟩
  exact (ss_cons (s_set (i := 2) sc__law_order.nd rfl (by first | exact Or.inl rfl | exact Or.inr rfl) (e_lst mkN_ok a_nil)) (ss_cons (s_for (passes_of rfl) rfl (i_r1 rfl W.b_range (a_cons (e_callB call_lenS pr_len rfl W.b_len bt_len (a_cons (e_var 1) a_nil)) a_nil)) (g_name (i := 3) sc__law_order.nd rfl (by first | exact Or.inl rfl | exact Or.inr rfl)) (ss_cut (ss_cons (s_set (i := 4) sc__law_order.nd rfl (by first | exact Or.inl rfl | exact Or.inr rfl) (e_lst mkN_ok a_nil)) (ss_cons (s_for (passes_of rfl) rfl (i_r1 rfl W.b_range (a_cons (e_callB call_lenS pr_len rfl W.b_len bt_len (a_cons (e_var 1) a_nil)) a_nil)) (g_name (i := 5) sc__law_order.nd rfl (by first | exact Or.inl rfl | exact Or.inr rfl)) (ss_one (s_if (t_w (w_and (t_cmp op_notIn_seq pr_in (e_var 5) (e_var 2) (by rfl)) (w_and1 (t_cmp (op_eqA hr.units) pr_eq (e_callB call_lenS pr_len rfl W.b_len bt_len (a_cons (e_compSV (E' := XE0) mkD_ok rfl sc__law_order.nd (e_ix ix_A pr_ix (e_var 1) (e_var 5) (fun _ _ => rfl)) (blkOk_by (own := [("need", 6)]) (by show blkC NN__law_order (defScope s__law_order) _ _ = true; decide +kernel)) (fun s2 H2 C2 cl2 fp2 => (g_name (i := 6) sc__law_order.nd rfl (by first | exact Or.inl rfl | exact Or.inr rfl))) (fun s2 H2 C2 cl2 fp2 => (ts_one (t_cmp op_notIn_seq pr_in (e_var 6) (e_var 2) (by rfl)))) (fun s2 H2 C2 cl2 fp2 => (e_var 6))) a_nil)) e_int (nomark _))))) (ss_one (s_expr (e_append (e_var 4) (e_var 5)))) ss_nil))) (ss_one (s_expr (e_append (e_var 2) (e_ix ix_A pr_ix (e_var 4) (e_call (ok__law_draw W) (hr.mono (by decide)) rfl W.g__law_draw W.d__law_draw.choose_spec.kp (bn__law_draw W) pass00 (a_cons (e_var 0) (a_cons (e_callB call_lenS pr_len rfl W.b_len bt_len (a_cons (e_var 4) a_nil)) a_nil))) (fun _ _ => rfl))))))))) (ss_one (s_ret (e_frz (e_var 2))))))
theorem bn__law_parts (W : Wd K mg) : Binds K W.d__law_parts.choose ["source", "order"] [] := W.d__law_parts.choose_spec.bindsN fun _ _ _ _ _ _ us hl => match us, hl with | [_, _], _ => rfl
theorem ok__law_parts (W : Wd K mg) : FnOk P w K mg base CX0 2 (He.ga K "_law_parts") W.d__law_parts.choose ["source", "order"] (spF K Pr 2 m__law_parts) := by
  refine FunD.ok W.d__law_parts.choose_spec sc__law_parts (fun _ _ _ _ h => spF_len h) fun cdv A outer s H vs Q E hr h => ?_
  have hu := hu_of hr
  refine ⟨rdS K Pr E c__law_parts, ?_, body_rd (N := ["source", "order", "parts", "at", "turn", "size"]) (spF_cut h)⟩
  exact (ss_cons (s_set (i := 2) sc__law_parts.nd rfl (by first | exact Or.inl rfl | exact Or.inr rfl) (e_lst mkN_ok a_nil)) (ss_cons (s_set (i := 3) sc__law_parts.nd rfl (by first | exact Or.inl rfl | exact Or.inr rfl) e_int) (ss_cons (s_for (passes_of rfl) rfl (i_r1 rfl W.b_range (a_cons (e_callB call_lenS pr_len rfl W.b_len bt_len (a_cons (e_var 1) a_nil)) a_nil)) (g_name (i := 4) sc__law_parts.nd rfl (by first | exact Or.inl rfl | exact Or.inr rfl)) (ss_one (s_if (t_cmp op_lt pr_lt (e_var 3) (e_callB call_lenS pr_len rfl W.b_len bt_len (a_cons (e_var 1) a_nil)) (nomark _)) (ss_cons (s_set (i := 5) sc__law_parts.nd rfl (by first | exact Or.inl rfl | exact Or.inr rfl) (e_bin op_addA (pr_add mkD_ok) e_int (e_call (ok__law_draw W) (hr.mono (by decide)) rfl W.g__law_draw W.d__law_draw.choose_spec.kp (bn__law_draw W) pass00 (a_cons (e_var 0) (a_cons e_int a_nil))))) (ss_cons (s_expr (e_append (e_var 2) (e_callB cr_sortedI (pr_sorted mkD_ok) rfl W.b_sorted bt_sorted (a_cons (e_slice mkD_ok (e_var 1) (o_some (E := XE0) (e_var 3)) (o_some (E := XE0) (e_bin op_addA (pr_add mkD_ok) (e_var 3) (e_var 5)))) a_nil)))) (ss_one (s_set (i := 3) sc__law_parts.nd rfl (by first | exact Or.inl rfl | exact Or.inr rfl) (e_bin op_addA (pr_add mkD_ok) (e_var 3) (e_var 5)))))) ss_nil))) (ss_one (s_ret (e_frz (e_var 2)))))))
theorem bn__law_runs (W : Wd K mg) : Binds K W.d__law_runs.choose ["source", "needs", "order"] [] := W.d__law_runs.choose_spec.bindsN fun _ _ _ _ _ _ us hl => match us, hl with | [_, _, _], _ => rfl
theorem ok__law_runs (W : Wd K mg) : FnOk P w K mg base CX0 2 (He.ga K "_law_runs") W.d__law_runs.choose ["source", "needs", "order"] (spF K Pr 3 m__law_runs) := by
  refine FunD.ok W.d__law_runs.choose_spec sc__law_runs (fun _ _ _ _ h => spF_len h) fun cdv A outer s H vs Q E hr h => ?_
  have hu := hu_of hr
  refine ⟨rdS K Pr E c__law_runs, ?_, body_rd (N := ["source", "needs", "order", "rows", "task", "placed", "k"]) (spF_cut h)⟩
  exact (ss_cons (s_set (i := 3) sc__law_runs.nd rfl (by first | exact Or.inl rfl | exact Or.inr rfl) (e_lst mkN_ok a_nil)) (ss_cons (s_forS (passes_of rfl) rfl (e_var 2) (g_name (i := 4) sc__law_runs.nd rfl (by first | exact Or.inl rfl | exact Or.inr rfl)) (ss_cons (s_set (i := 5) sc__law_runs.nd rfl (by first | exact Or.inl rfl | exact Or.inr rfl) e_bl) (ss_cons (s_for (passes_of rfl) rfl (i_r1 rfl W.b_range (a_cons (e_callB call_lenS pr_len rfl W.b_len bt_len (a_cons (e_var 3) a_nil)) a_nil)) (g_name (i := 6) sc__law_runs.nd rfl (by first | exact Or.inl rfl | exact Or.inr rfl)) (ss_one (s_if (t_w (w_and (t_not (t_val (e_var 5))) (w_and (t_cmp op_in_seq pr_in (e_ix ix_A pr_ix (e_ix ix_A pr_ix (e_var 3) (e_var 6) (fun _ _ => rfl)) (e_neg e_int) (fun _ _ => rfl)) (e_ix ix_A pr_ix (e_var 1) (e_var 4) (fun _ _ => rfl)) (by rfl)) (w_and1 (t_cmp op_gt pr_gt (e_call (ok__law_draw W) (hr.mono (by decide)) rfl W.g__law_draw W.d__law_draw.choose_spec.kp (bn__law_draw W) pass00 (a_cons (e_var 0) (a_cons e_int a_nil))) e_int (nomark _)))))) (ss_cons (s_setL (e_bin op_addA (pr_add mkD_ok) (e_ix ix_A pr_ix (e_var 3) (e_var 6) (fun _ _ => rfl)) (e_lst mkD_ok (a_cons (e_var 4) a_nil))) (e_var 3) (e_var 6)) (ss_one (s_set (i := 5) sc__law_runs.nd rfl (by first | exact Or.inl rfl | exact Or.inr rfl) e_bl))) ss_nil))) (ss_one (s_if (t_not (t_val (e_var 5))) (ss_one (s_expr (e_append (e_var 3) (e_lst mkD_ok (a_cons (e_var 4) a_nil))))) ss_nil))))) (ss_one (s_ret (e_frz (e_var 3))))))
theorem bn__law_bent (W : Wd K mg) : Binds K W.d__law_bent.choose ["source", "parts", "count"] [] := W.d__law_bent.choose_spec.bindsN fun _ _ _ _ _ _ us hl => match us, hl with | [_, _, _], _ => rfl
theorem ok__law_bent (W : Wd K mg) : FnOk P w K mg base CX0 2 (He.ga K "_law_bent") W.d__law_bent.choose ["source", "parts", "count"] (spF K Pr 3 m__law_bent) := by
  refine FunD.ok W.d__law_bent.choose_spec sc__law_bent (fun _ _ _ _ h => spF_len h) fun cdv A outer s H vs Q E hr h => ?_
  have hu := hu_of hr
  refine ⟨rdS K Pr E c__law_bent, ?_, body_rd (N := ["source", "parts", "count", "kind", "k", "part", "at", "number", "bent"]) h⟩
  exact (ss_cons (s_set (i := 3) sc__law_bent.nd rfl (by first | exact Or.inl rfl | exact Or.inr rfl) (e_call (ok__law_draw W) (hr.mono (by decide)) rfl W.g__law_draw W.d__law_draw.choose_spec.kp (bn__law_draw W) pass00 (a_cons (e_var 0) (a_cons e_int a_nil)))) (ss_cons (s_if (t_cmp (op_eqA hr.units) pr_eq (e_var 3) e_int (nomark _)) (ss_one (s_ret (e_ix ix_A pr_ix (e_lst mkD_ok (a_cons e_non (a_cons e_int (a_cons e_bl (a_cons e_str (a_cons e_str (a_cons (e_tup a_nil) (a_cons (e_lst mkD_ok (a_cons (e_tup a_nil) a_nil)) (a_cons (e_lst mkD_ok (a_cons e_non a_nil)) (a_cons (e_lst mkD_ok (a_cons e_int a_nil)) (a_cons (e_lst mkD_ok (a_cons (e_lst mkD_ok (a_cons (e_lst mkD_ok (a_cons e_int a_nil)) a_nil)) a_nil)) (a_cons (e_lst mkD_ok (a_cons (e_lst mkD_ok (a_cons e_str a_nil)) a_nil)) (a_cons (e_tup (a_cons (e_tup (a_cons e_int (a_cons e_bl a_nil))) a_nil)) a_nil))))))))))))) (e_call (ok__law_draw W) (hr.mono (by decide)) rfl W.g__law_draw W.d__law_draw.choose_spec.kp (bn__law_draw W) pass00 (a_cons (e_var 0) (a_cons e_int a_nil))) (fun _ _ => rfl)))) ss_nil) (ss_cons (s_if (t_w (w_or (t_cmp op_lt pr_lt (e_var 3) e_int (nomark _)) (w_or1 (t_cmp (op_eqA hr.units) pr_eq (e_callB call_lenS pr_len rfl W.b_len bt_len (a_cons (e_var 1) a_nil)) e_int (nomark _))))) (ss_one (s_ret (e_var 1))) ss_nil) (ss_cons (s_set (i := 4) sc__law_bent.nd rfl (by first | exact Or.inl rfl | exact Or.inr rfl) (e_call (ok__law_draw W) (hr.mono (by decide)) rfl W.g__law_draw W.d__law_draw.choose_spec.kp (bn__law_draw W) pass00 (a_cons (e_var 0) (a_cons (e_callB call_lenS pr_len rfl W.b_len bt_len (a_cons (e_var 1) a_nil)) a_nil)))) (ss_cons (s_set (i := 5) sc__law_bent.nd rfl (by first | exact Or.inl rfl | exact Or.inr rfl) (e_ix ix_A pr_ix (e_var 1) (e_var 4) (fun _ _ => rfl))) (ss_cons (s_if (t_cmp (op_eqA hr.units) pr_eq (e_callB call_lenS pr_len rfl W.b_len bt_len (a_cons (e_var 5) a_nil)) e_int (nomark _)) (ss_one (s_ret (e_bin op_addA (pr_add mkD_ok) (e_var 1) (e_lst mkD_ok (a_cons (e_lst mkD_ok (a_cons e_int a_nil)) a_nil))))) ss_nil) (ss_cons (s_set (i := 6) sc__law_bent.nd rfl (by first | exact Or.inl rfl | exact Or.inr rfl) (e_call (ok__law_draw W) (hr.mono (by decide)) rfl W.g__law_draw W.d__law_draw.choose_spec.kp (bn__law_draw W) pass00 (a_cons (e_var 0) (a_cons (e_callB call_lenS pr_len rfl W.b_len bt_len (a_cons (e_var 5) a_nil)) a_nil)))) (ss_cons (s_set (i := 7) sc__law_bent.nd rfl (by first | exact Or.inl rfl | exact Or.inr rfl) (e_bin op_sub pr_sub (e_call (ok__law_draw W) (hr.mono (by decide)) rfl W.g__law_draw W.d__law_draw.choose_spec.kp (bn__law_draw W) pass00 (a_cons (e_var 0) (a_cons (e_bin op_addA (pr_add mkD_ok) (e_var 2) e_int) a_nil))) e_int)) (ss_cons (s_if (t_cmp (op_eqA hr.units) pr_eq (e_var 3) e_int (nomark _)) (ss_one (s_ret (e_bin op_addA (pr_add mkD_ok) (e_slice mkD_ok (e_var 1) o_none (o_some (E := XE0) (e_var 4))) (e_slice mkD_ok (e_var 1) (o_some (E := XE0) (e_bin op_addA (pr_add mkD_ok) (e_var 4) e_int)) o_none)))) ss_nil) (ss_cons (s_if (t_cmp (op_eqA hr.units) pr_eq (e_var 3) e_int (nomark _)) (ss_one (s_ret (e_bin op_addA (pr_add mkD_ok) (e_var 1) (e_lst mkD_ok (a_cons (e_var 5) a_nil))))) ss_nil) (ss_cons (s_if (t_cmp (op_eqA hr.units) pr_eq (e_var 3) e_int (nomark _)) (ss_one (s_ret (e_bin op_addA (pr_add mkD_ok) (e_bin op_addA (pr_add mkD_ok) (e_bin op_addA (pr_add mkD_ok) (e_slice mkD_ok (e_var 1) o_none (o_some (E := XE0) (e_var 4))) (e_slice mkD_ok (e_var 1) (o_some (E := XE0) (e_bin op_addA (pr_add mkD_ok) (e_var 4) e_int)) (o_some (E := XE0) (e_bin op_addA (pr_add mkD_ok) (e_var 4) e_int)))) (e_lst mkD_ok (a_cons (e_var 5) a_nil))) (e_slice mkD_ok (e_var 1) (o_some (E := XE0) (e_bin op_addA (pr_add mkD_ok) (e_var 4) e_int)) o_none)))) ss_nil) (ss_cons (s_set (i := 8) sc__law_bent.nd rfl (by first | exact Or.inl rfl | exact Or.inr rfl) (e_bin op_addA (pr_add mkD_ok) (e_slice mkD_ok (e_var 5) o_none (o_some (E := XE0) (e_var 6))) (e_slice mkD_ok (e_var 5) (o_some (E := XE0) (e_bin op_addA (pr_add mkD_ok) (e_var 6) e_int)) o_none))) (ss_cons (s_if (t_cmp (op_eqA hr.units) pr_eq (e_var 3) e_int (nomark _)) (ss_one (s_set (i := 8) sc__law_bent.nd rfl (by first | exact Or.inl rfl | exact Or.inr rfl) (e_callB cr_sortedI (pr_sorted mkD_ok) rfl W.b_sorted bt_sorted (a_cons (e_bin op_addA (pr_add mkD_ok) (e_var 5) (e_lst mkD_ok (a_cons (e_var 7) a_nil))) a_nil)))) ss_nil) (ss_cons (s_if (t_cmp (op_eqA hr.units) pr_eq (e_var 3) e_int (nomark _)) (ss_one (s_set (i := 8) sc__law_bent.nd rfl (by first | exact Or.inl rfl | exact Or.inr rfl) (e_rev mkD_ok (e_var 5)))) ss_nil) (ss_cons (s_if (t_cmp (op_eqA hr.units) pr_eq (e_var 3) e_int (nomark _)) (ss_one (s_set (i := 8) sc__law_bent.nd rfl (by first | exact Or.inl rfl | exact Or.inr rfl) (e_bin op_addA (pr_add mkD_ok) (e_bin op_addA (pr_add mkD_ok) (e_slice mkD_ok (e_var 5) o_none (o_some (E := XE0) (e_var 6))) (e_lst mkD_ok (a_cons (e_cmp (op_eqA hr.units) pr_eq (e_ix ix_A pr_ix (e_var 5) (e_var 6) (fun _ _ => rfl)) e_int (nomark _)) a_nil))) (e_slice mkD_ok (e_var 5) (o_some (E := XE0) (e_bin op_addA (pr_add mkD_ok) (e_var 6) e_int)) o_none)))) ss_nil) (ss_cons (s_if (t_cmp (op_eqA hr.units) pr_eq (e_var 3) e_int (nomark _)) (ss_one (s_set (i := 8) sc__law_bent.nd rfl (by first | exact Or.inl rfl | exact Or.inr rfl) (e_bin op_addA (pr_add mkD_ok) (e_bin op_addA (pr_add mkD_ok) (e_slice mkD_ok (e_var 5) o_none (o_some (E := XE0) (e_var 6))) (e_lst mkD_ok (a_cons (e_var 7) a_nil))) (e_slice mkD_ok (e_var 5) (o_some (E := XE0) (e_bin op_addA (pr_add mkD_ok) (e_var 6) e_int)) o_none)))) ss_nil) (ss_one (s_ret (e_bin op_addA (pr_add mkD_ok) (e_bin op_addA (pr_add mkD_ok) (e_slice mkD_ok (e_var 1) o_none (o_some (E := XE0) (e_var 4))) (e_lst mkD_ok (a_cons (e_var 8) a_nil))) (e_slice mkD_ok (e_var 1) (o_some (E := XE0) (e_bin op_addA (pr_add mkD_ok) (e_var 4) e_int)) o_none))))))))))))))))))))
theorem bn__law_as_tuples (W : Wd K mg) : Binds K W.d__law_as_tuples.choose ["source", "paper"] [] := W.d__law_as_tuples.choose_spec.bindsN fun _ _ _ _ _ _ us hl => match us, hl with | [_, _], _ => rfl
theorem ok__law_as_tuples (W : Wd K mg) : FnOk P w K mg base CX0 2 (He.ga K "_law_as_tuples") W.d__law_as_tuples.choose ["source", "paper"] (spF K Pr 2 m__law_as_tuples) := by
  refine FunD.ok W.d__law_as_tuples.choose_spec sc__law_as_tuples (fun _ _ _ _ h => spF_len h) fun cdv A outer s H vs Q E hr h => ?_
  have hu := hu_of hr
  refine ⟨rdS K Pr E c__law_as_tuples, ?_, body_rd (N := ["source", "paper", "rows", "part"]) (spF_cut h)⟩
  exact (ss_cons (s_if (t_w (w_or (t_not (t_val (e_isi .list (by decide) rfl W.b_isinstance (e_var 1) (pe_bltn rfl W.b_list bt_list rfl)))) (w_or1 (t_cmp (op_eqA hr.units) pr_eq (e_call (ok__law_draw W) (hr.mono (by decide)) rfl W.g__law_draw W.d__law_draw.choose_spec.kp (bn__law_draw W) pass00 (a_cons (e_var 0) (a_cons e_int a_nil))) e_int (nomark _))))) (ss_one (s_ret (e_var 1))) ss_nil) (ss_cons (s_set (i := 2) sc__law_as_tuples.nd rfl (by first | exact Or.inl rfl | exact Or.inr rfl) (e_lst mkN_ok a_nil)) (ss_cons (s_forS (passes_of rfl) rfl (e_var 1) (g_name (i := 3) sc__law_as_tuples.nd rfl (by first | exact Or.inl rfl | exact Or.inr rfl)) (ss_cons (s_if (t_val (e_isi .list (by decide) rfl W.b_isinstance (e_var 3) (pe_bltn rfl W.b_list bt_list rfl))) (ss_one (s_set (i := 3) sc__law_as_tuples.nd rfl (by first | exact Or.inl rfl | exact Or.inr rfl) (e_callTy call_tupleS pr_tuple rfl W.b_tuple bt_tuple (a_cons (e_var 3) a_nil)))) ss_nil) (ss_one (s_expr (e_append (e_var 2) (e_var 3)))))) (ss_one (s_ret (e_callTy call_tupleS pr_tuple rfl W.b_tuple bt_tuple (a_cons (e_var 2) a_nil)))))))
theorem bn__law_says (W : Wd K mg) : Binds K W.d__law_says.choose ["told", "due"] [] := W.d__law_says.choose_spec.bindsN fun _ _ _ _ _ _ us hl => match us, hl with | [_, _], _ => rfl
theorem ok__law_says (W : Wd K mg) : FnOk P w K mg base CX0 1 (He.ga K "_law_says") W.d__law_says.choose ["told", "due"] (spF K Pr 2 m__law_says) := by
  refine FunD.ok W.d__law_says.choose_spec sc__law_says (fun _ _ _ _ h => spF_len h) fun cdv A outer s H vs Q E hr h => ?_
  have hu := hu_of hr
  refine ⟨rdS K Pr E c__law_says, ?_, body_rd (N := ["told", "due"]) h⟩
  exact (ss_one (s_ret (e_and (e_isi .bool (by decide) rfl W.b_isinstance (e_var 0) (pe_bltn rfl W.b_bool bt_bool rfl)) (e_one (e_cmp (op_eqA hr.units) pr_eq (e_var 0) (e_var 1) (nomark _))))))
theorem bn__law_parts_judged (W : Wd K mg) : Binds K W.d__law_parts_judged.choose ["source", "table", "needs", "members"] [] := W.d__law_parts_judged.choose_spec.bindsN fun _ _ _ _ _ _ us hl => match us, hl with | [_, _, _, _], _ => rfl
theorem ok__law_parts_judged (W : Wd K mg) : FnOk P w K mg base CX0 7 (He.ga K "_law_parts_judged") W.d__law_parts_judged.choose ["source", "table", "needs", "members"] (spF K Pr 4 m__law_parts_judged) := by
  refine FunD.ok W.d__law_parts_judged.choose_spec sc__law_parts_judged (fun _ _ _ _ h => spF_len h) fun cdv A outer s H vs Q E hr h => ?_
  have hu := hu_of hr
  refine ⟨rdS K Pr E c__law_parts_judged, ?_, body_rd (N := ["source", "table", "needs", "members", "turn", "order", "paper", "rows"]) h⟩
  exact (ss_cons (s_for (passes_of rfl) rfl (i_r1 rfl W.b_range (a_cons e_int a_nil)) (g_name (i := 4) sc__law_parts_judged.nd rfl (by first | exact Or.inl rfl | exact Or.inr rfl)) (ss_cons (s_set (i := 5) sc__law_parts_judged.nd rfl (by first | exact Or.inl rfl | exact Or.inr rfl) (e_call (ok__law_order W) (hr.mono (by decide)) rfl W.g__law_order W.d__law_order.choose_spec.kp (bn__law_order W) pass00 (a_cons (e_var 0) (a_cons (e_var 1) a_nil)))) (ss_cons (s_set (i := 6) sc__law_parts_judged.nd rfl (by first | exact Or.inl rfl | exact Or.inr rfl) (e_call (ok__law_as_tuples W) (hr.mono (by decide)) rfl W.g__law_as_tuples W.d__law_as_tuples.choose_spec.kp (bn__law_as_tuples W) pass00 (a_cons (e_var 0) (a_cons (e_call (ok__law_bent W) (hr.mono (by decide)) rfl W.g__law_bent W.d__law_bent.choose_spec.kp (bn__law_bent W) pass00 (a_cons (e_var 0) (a_cons (e_call (ok__law_parts W) (hr.mono (by decide)) rfl W.g__law_parts W.d__law_parts.choose_spec.kp (bn__law_parts W) pass00 (a_cons (e_var 0) (a_cons (e_var 5) a_nil))) (a_cons (e_callB call_lenS pr_len rfl W.b_len bt_len (a_cons (e_var 1) a_nil)) a_nil)))) a_nil)))) (ss_cons (s_if (t_not (t_val (e_call (ok__law_says W) (hr.mono (by decide)) rfl W.g__law_says W.d__law_says.choose_spec.kp (bn__law_says W) pass00 (a_cons (e_callN (n := 2) (ks := ["members"]) (ok_is_schedule W) (hr.mono (by decide)) rfl W.g_is_schedule W.d_is_schedule.choose_spec.kp (kn_is_schedule W) pass00 (a_cons (e_var 1) (a_cons (e_var 6) a_nil)) (k_cons (e_var 3) k_nil) (alen_cons (alen_cons alen_nil)) (alen_cons alen_nil)) (a_cons (e_call (ok__law_schedule W) (hr.mono (by decide)) rfl W.g__law_schedule W.d__law_schedule.choose_spec.kp (bn__law_schedule W) pass00 (a_cons (e_var 2) (a_cons (e_var 6) (a_cons (e_var 3) a_nil)))) a_nil))))) (ss_one (s_ret e_bl)) ss_nil) (ss_cons (s_if (t_not (t_val (e_call (ok__law_says W) (hr.mono (by decide)) rfl W.g__law_says W.d__law_says.choose_spec.kp (bn__law_says W) pass00 (a_cons (e_call (ok_are_blocks W) (hr.mono (by decide)) rfl W.g_are_blocks W.d_are_blocks.choose_spec.kp (bn_are_blocks W) pass00 (a_cons (e_var 1) (a_cons (e_var 6) a_nil))) (a_cons (e_call (ok__law_blocks W) (hr.mono (by decide)) rfl W.g__law_blocks W.d__law_blocks.choose_spec.kp (bn__law_blocks W) pass00 (a_cons (e_var 2) (a_cons (e_var 6) a_nil))) a_nil))))) (ss_one (s_ret e_bl)) ss_nil) (ss_cons (s_if (t_not (t_val (e_call (ok__law_says W) (hr.mono (by decide)) rfl W.g__law_says W.d__law_says.choose_spec.kp (bn__law_says W) pass00 (a_cons (e_call (ok_are_rows W) (hr.mono (by decide)) rfl W.g_are_rows W.d_are_rows.choose_spec.kp (bn_are_rows W) pass00 (a_cons (e_var 1) (a_cons (e_var 6) a_nil))) (a_cons (e_call (ok__law_cover W) (hr.mono (by decide)) rfl W.g__law_cover W.d__law_cover.choose_spec.kp (bn__law_cover W) pass00 (a_cons (e_var 2) (a_cons (e_var 6) a_nil))) a_nil))))) (ss_one (s_ret e_bl)) ss_nil) (ss_cons (s_set (i := 7) sc__law_parts_judged.nd rfl (by first | exact Or.inl rfl | exact Or.inr rfl) (e_call (ok__law_as_tuples W) (hr.mono (by decide)) rfl W.g__law_as_tuples W.d__law_as_tuples.choose_spec.kp (bn__law_as_tuples W) pass00 (a_cons (e_var 0) (a_cons (e_call (ok__law_bent W) (hr.mono (by decide)) rfl W.g__law_bent W.d__law_bent.choose_spec.kp (bn__law_bent W) pass00 (a_cons (e_var 0) (a_cons (e_call (ok__law_runs W) (hr.mono (by decide)) rfl W.g__law_runs W.d__law_runs.choose_spec.kp (bn__law_runs W) pass00 (a_cons (e_var 0) (a_cons (e_var 2) (a_cons (e_var 5) a_nil)))) (a_cons (e_callB call_lenS pr_len rfl W.b_len bt_len (a_cons (e_var 1) a_nil)) a_nil)))) a_nil)))) (ss_cons (s_if (t_not (t_val (e_call (ok__law_says W) (hr.mono (by decide)) rfl W.g__law_says W.d__law_says.choose_spec.kp (bn__law_says W) pass00 (a_cons (e_call (ok_are_rows W) (hr.mono (by decide)) rfl W.g_are_rows W.d_are_rows.choose_spec.kp (bn_are_rows W) pass00 (a_cons (e_var 1) (a_cons (e_var 7) a_nil))) (a_cons (e_call (ok__law_cover W) (hr.mono (by decide)) rfl W.g__law_cover W.d__law_cover.choose_spec.kp (bn__law_cover W) pass00 (a_cons (e_var 2) (a_cons (e_var 7) a_nil))) a_nil))))) (ss_one (s_ret e_bl)) ss_nil) (ss_one (s_if (t_not (t_val (e_call (ok__law_says W) (hr.mono (by decide)) rfl W.g__law_says W.d__law_says.choose_spec.kp (bn__law_says W) pass00 (a_cons (e_call (ok_are_blocks W) (hr.mono (by decide)) rfl W.g_are_blocks W.d_are_blocks.choose_spec.kp (bn_are_blocks W) pass00 (a_cons (e_var 1) (a_cons (e_var 7) a_nil))) (a_cons (e_call (ok__law_blocks W) (hr.mono (by decide)) rfl W.g__law_blocks W.d__law_blocks.choose_spec.kp (bn__law_blocks W) pass00 (a_cons (e_var 2) (a_cons (e_var 7) a_nil))) a_nil))))) (ss_one (s_ret e_bl)) ss_nil)))))))))) (ss_one (s_ret e_bl)))
theorem bn__law_tasks_judged (W : Wd K mg) : Binds K W.d__law_tasks_judged.choose ["source", "table", "needs"] [] := W.d__law_tasks_judged.choose_spec.bindsN fun _ _ _ _ _ _ us hl => match us, hl with | [_, _, _], _ => rfl
theorem ok__law_tasks_judged (W : Wd K mg) : FnOk P w K mg base CX0 7 (He.ga K "_law_tasks_judged") W.d__law_tasks_judged.choose ["source", "table", "needs"] (spF K Pr 3 m__law_tasks_judged) := by
  refine FunD.ok W.d__law_tasks_judged.choose_spec sc__law_tasks_judged (fun _ _ _ _ h => spF_len h) fun cdv A outer s H vs Q E hr h => ?_
  have hu := hu_of hr
  refine ⟨rdS K Pr E c__law_tasks_judged, ?_, body_rd (N := ["source", "table", "needs", "turn", "order", "tasks", "apart", "task", "paper", "chain", "number", "longer", "other"]) h⟩
  exact (ss_cons (s_for (passes_of rfl) rfl (i_r1 rfl W.b_range (a_cons e_int a_nil)) (g_name (i := 3) sc__law_tasks_judged.nd rfl (by first | exact Or.inl rfl | exact Or.inr rfl)) (ss_cut (ss_cons (s_set (i := 4) sc__law_tasks_judged.nd rfl (by first | exact Or.inl rfl | exact Or.inr rfl) (e_call (ok__law_order W) (hr.mono (by decide)) rfl W.g__law_order W.d__law_order.choose_spec.kp (bn__law_order W) pass00 (a_cons (e_var 0) (a_cons (e_var 1) a_nil)))) (ss_cons (s_compSV (E' := XE0) (i := 5) mkD_ok rfl sc__law_tasks_judged.nd rfl rfl (sw_true rfl rfl rfl (by decide +kernel)) (e_var 4) (blkOk_by (own := [("task", 7)]) (by show blkC NN__law_tasks_judged (defScope s__law_tasks_judged) _ _ = true; decide +kernel)) (fun s2 H2 C2 cl2 fp2 => (g_name (i := 7) sc__law_tasks_judged.nd rfl (by first | exact Or.inl rfl | exact Or.inr rfl))) (fun s2 H2 C2 cl2 fp2 => (ts_one (t_cmp op_gt pr_gt (e_call (ok__law_draw W) (hr.mono (by decide)) rfl W.g__law_draw W.d__law_draw.choose_spec.kp (bn__law_draw W) pass00 (a_cons (e_var 0) (a_cons e_int a_nil))) e_int (nomark _)))) (fun s2 H2 C2 cl2 fp2 => (e_var 7))) (ss_cons (s_set (i := 6) sc__law_tasks_judged.nd rfl (by first | exact Or.inl rfl | exact Or.inr rfl) (e_lst mkN_ok a_nil)) (ss_cons (s_forS (passes_of rfl) rfl (e_var 4) (g_name (i := 7) sc__law_tasks_judged.nd rfl (by first | exact Or.inl rfl | exact Or.inr rfl)) (ss_one (s_if (t_w (w_and (t_cmp (op_eqA hr.units) pr_eq (e_callB call_lenS pr_len rfl W.b_len bt_len (a_cons (e_compSV (E' := XE0) mkD_ok rfl sc__law_tasks_judged.nd (e_var 6) (blkOk_by (own := [("other", 12)]) (by show blkC NN__law_tasks_judged (defScope s__law_tasks_judged) _ _ = true; decide +kernel)) (fun s2 H2 C2 cl2 fp2 => (g_name (i := 12) sc__law_tasks_judged.nd rfl (by first | exact Or.inl rfl | exact Or.inr rfl))) (fun s2 H2 C2 cl2 fp2 => (ts_one (t_cmp op_in_seq pr_in (e_var 12) (e_ix ix_A pr_ix (e_var 2) (e_var 7) (fun _ _ => rfl)) (by rfl)))) (fun s2 H2 C2 cl2 fp2 => (e_var 12))) a_nil)) e_int (nomark _)) (w_and1 (t_cmp op_gt pr_gt (e_call (ok__law_draw W) (hr.mono (by decide)) rfl W.g__law_draw W.d__law_draw.choose_spec.kp (bn__law_draw W) pass00 (a_cons (e_var 0) (a_cons e_int a_nil))) e_int (nomark _))))) (ss_one (s_expr (e_append (e_var 6) (e_var 7)))) ss_nil))) (ss_cons (s_forS (passes_of rfl) rfl (e_lst mkD_ok (a_cons (e_var 5) (a_cons (e_callB cr_sortedI (pr_sorted mkD_ok) rfl W.b_sorted bt_sorted (a_cons (e_var 5) a_nil)) (a_cons (e_callB cr_sortedI (pr_sorted mkD_ok) rfl W.b_sorted bt_sorted (a_cons (e_frz (e_var 6)) a_nil)) (a_cons (e_frz (e_var 6)) (a_cons (e_call (ok__law_bent W) (hr.mono (by decide)) rfl W.g__law_bent W.d__law_bent.choose_spec.kp (bn__law_bent W) pass00 (a_cons (e_var 0) (a_cons (e_lst mkD_ok (a_cons (e_callB cr_sortedI (pr_sorted mkD_ok) rfl W.b_sorted bt_sorted (a_cons (e_frz (e_var 6)) a_nil)) a_nil)) (a_cons (e_callB call_lenS pr_len rfl W.b_len bt_len (a_cons (e_var 1) a_nil)) a_nil)))) a_nil)))))) (g_name (i := 8) sc__law_tasks_judged.nd rfl (by first | exact Or.inl rfl | exact Or.inr rfl)) (ss_cons (s_if (t_not (t_val (e_call (ok__law_says W) (hr.mono (by decide)) rfl W.g__law_says W.d__law_says.choose_spec.kp (bn__law_says W) pass00 (a_cons (e_call (ok_is_chain W) (hr.mono (by decide)) rfl W.g_is_chain W.d_is_chain.choose_spec.kp (bn_is_chain W) pass00 (a_cons (e_var 1) (a_cons (e_var 8) a_nil))) (a_cons (e_call (ok__law_chain W) (hr.mono (by decide)) rfl W.g__law_chain W.d__law_chain.choose_spec.kp (bn__law_chain W) pass00 (a_cons (e_var 2) (a_cons (e_var 8) a_nil))) a_nil))))) (ss_one (s_ret e_bl)) ss_nil) (ss_one (s_if (t_not (t_val (e_call (ok__law_says W) (hr.mono (by decide)) rfl W.g__law_says W.d__law_says.choose_spec.kp (bn__law_says W) pass00 (a_cons (e_call (ok_are_independent W) (hr.mono (by decide)) rfl W.g_are_independent W.d_are_independent.choose_spec.kp (bn_are_independent W) pass00 (a_cons (e_var 1) (a_cons (e_var 8) a_nil))) (a_cons (e_call (ok__law_apart W) (hr.mono (by decide)) rfl W.g__law_apart W.d__law_apart.choose_spec.kp (bn__law_apart W) pass00 (a_cons (e_var 2) (a_cons (e_var 8) a_nil))) a_nil))))) (ss_one (s_ret e_bl)) ss_nil)))) (ss_cons (s_set (i := 9) sc__law_tasks_judged.nd rfl (by first | exact Or.inl rfl | exact Or.inr rfl) (e_lst mkN_ok a_nil)) (ss_cons (s_forS (passes_of rfl) rfl (e_var 4) (g_name (i := 7) sc__law_tasks_judged.nd rfl (by first | exact Or.inl rfl | exact Or.inr rfl)) (ss_one (s_if (t_w (w_or (t_cmp (op_eqA hr.units) pr_eq (e_callB call_lenS pr_len rfl W.b_len bt_len (a_cons (e_var 9) a_nil)) e_int (nomark _)) (w_or1 (t_cmp op_in_seq pr_in (e_ix ix_A pr_ix (e_var 9) (e_neg e_int) (fun _ _ => rfl)) (e_ix ix_A pr_ix (e_var 2) (e_var 7) (fun _ _ => rfl)) (by rfl))))) (ss_one (s_expr (e_append (e_var 9) (e_var 7)))) ss_nil))) (ss_cons (s_set (i := 10) sc__law_tasks_judged.nd rfl (by first | exact Or.inl rfl | exact Or.inr rfl) (e_bin op_sub pr_sub (e_call (ok__law_draw W) (hr.mono (by decide)) rfl W.g__law_draw W.d__law_draw.choose_spec.kp (bn__law_draw W) pass00 (a_cons (e_var 0) (a_cons (e_bin op_addA (pr_add mkD_ok) (e_callB call_lenS pr_len rfl W.b_len bt_len (a_cons (e_var 1) a_nil)) e_int) a_nil))) e_int)) (ss_cons (s_set (i := 11) sc__law_tasks_judged.nd rfl (by first | exact Or.inl rfl | exact Or.inr rfl) (e_bin op_addA (pr_add mkD_ok) (e_var 9) (e_lst mkD_ok (a_cons (e_var 10) a_nil)))) (ss_cons (s_if (t_not (t_val (e_call (ok__law_says W) (hr.mono (by decide)) rfl W.g__law_says W.d__law_says.choose_spec.kp (bn__law_says W) pass00 (a_cons (e_call (ok_is_chain W) (hr.mono (by decide)) rfl W.g_is_chain W.d_is_chain.choose_spec.kp (bn_is_chain W) pass00 (a_cons (e_var 1) (a_cons (e_callTy call_tupleS pr_tuple rfl W.b_tuple bt_tuple (a_cons (e_frz (e_var 9)) a_nil)) a_nil))) (a_cons (e_call (ok__law_chain W) (hr.mono (by decide)) rfl W.g__law_chain W.d__law_chain.choose_spec.kp (bn__law_chain W) pass00 (a_cons (e_var 2) (a_cons (e_frz (e_var 9)) a_nil))) a_nil))))) (ss_one (s_ret e_bl)) ss_nil) (ss_one (s_if (t_not (t_val (e_call (ok__law_says W) (hr.mono (by decide)) rfl W.g__law_says W.d__law_says.choose_spec.kp (bn__law_says W) pass00 (a_cons (e_call (ok_is_chain W) (hr.mono (by decide)) rfl W.g_is_chain W.d_is_chain.choose_spec.kp (bn_is_chain W) pass00 (a_cons (e_var 1) (a_cons (e_var 11) a_nil))) (a_cons (e_call (ok__law_chain W) (hr.mono (by decide)) rfl W.g__law_chain W.d__law_chain.choose_spec.kp (bn__law_chain W) pass00 (a_cons (e_var 2) (a_cons (e_var 11) a_nil))) a_nil))))) (ss_one (s_ret e_bl)) ss_nil)))))))))))))) (ss_one (s_ret e_bl)))
theorem bn__law_slots_right (W : Wd K mg) : Binds K W.d__law_slots_right.choose ["rooms", "gap", "slots"] [] := W.d__law_slots_right.choose_spec.bindsN fun _ _ _ _ _ _ us hl => match us, hl with | [_, _, _], _ => rfl
theorem ok__law_slots_right (W : Wd K mg) : FnOk P w K mg base CX0 2 (He.ga K "_law_slots_right") W.d__law_slots_right.choose ["rooms", "gap", "slots"] (spF K Pr 3 m__law_slots_right) := by
  refine FunD.ok W.d__law_slots_right.choose_spec sc__law_slots_right (fun _ _ _ _ h => spF_len h) fun cdv A outer s H vs Q E hr h => ?_
  have hu := hu_of hr
  refine ⟨rdS K Pr E c__law_slots_right, ?_, body_rd (N := ["rooms", "gap", "slots", "last", "step", "other"]) h⟩
  exact (ss_cons (s_if (t_w (w_or (t_not (t_val (e_call (ok__law_is_row W) (hr.mono (by decide)) rfl W.g__law_is_row W.d__law_is_row.choose_spec.kp (bn__law_is_row W) pass00 (a_cons (e_var 2) a_nil)))) (w_or1 (t_cmp (op_neA hr.units) pr_ne (e_callB call_lenS pr_len rfl W.b_len bt_len (a_cons (e_var 2) a_nil)) (e_callB call_lenS pr_len rfl W.b_len bt_len (a_cons (e_var 0) a_nil)) (nomark _))))) (ss_one (s_ret e_bl)) ss_nil) (ss_cons (s_set (i := 3) sc__law_slots_right.nd rfl (by first | exact Or.inl rfl | exact Or.inr rfl) (e_neg e_int)) (ss_cons (s_for (passes_of rfl) rfl (i_r1 rfl W.b_range (a_cons (e_callB call_lenS pr_len rfl W.b_len bt_len (a_cons (e_var 2) a_nil)) a_nil)) (g_name (i := 4) sc__law_slots_right.nd rfl (by first | exact Or.inl rfl | exact Or.inr rfl)) (ss_cons (s_if (t_w (w_or (t_not (t_val (e_call (ok__law_is_integer W) (hr.mono (by decide)) rfl W.g__law_is_integer W.d__law_is_integer.choose_spec.kp (bn__law_is_integer W) pass00 (a_cons (e_ix ix_A pr_ix (e_var 2) (e_var 4) (fun _ _ => rfl)) a_nil)))) (w_or (t_cmp op_le pr_le (e_ix ix_A pr_ix (e_var 2) (e_var 4) (fun _ _ => rfl)) (e_var 3) (nomark _)) (w_or1 (t_cmp op_gt pr_gt (e_ix ix_A pr_ix (e_var 2) (e_var 4) (fun _ _ => rfl)) e_int (nomark _)))))) (ss_one (s_ret e_bl)) ss_nil) (ss_cons (s_set (i := 3) sc__law_slots_right.nd rfl (by first | exact Or.inl rfl | exact Or.inr rfl) (e_ix ix_A pr_ix (e_var 2) (e_var 4) (fun _ _ => rfl))) (ss_one (s_for (passes_of rfl) rfl (i_r1 rfl W.b_range (a_cons (e_var 4) a_nil)) (g_name (i := 5) sc__law_slots_right.nd rfl (by first | exact Or.inl rfl | exact Or.inr rfl)) (ss_one (s_if (t_w (w_and (t_cmp (op_eqA hr.units) pr_eq (e_ix ix_A pr_ix (e_var 0) (e_var 5) (fun _ _ => rfl)) (e_ix ix_A pr_ix (e_var 0) (e_var 4) (fun _ _ => rfl)) (nomark _)) (w_and1 (t_cmp (op_eqA hr.units) pr_eq (e_bin op_mod pr_mod (e_callTy call_intA pr_int rfl W.b_int bt_int (a_cons (e_bin op_sub pr_sub (e_ix ix_A pr_ix (e_var 2) (e_var 4) (fun _ _ => rfl)) (e_ix ix_A pr_ix (e_var 2) (e_var 5) (fun _ _ => rfl))) a_nil)) (e_var 1)) e_int (nomark _))))) (ss_one (s_ret e_bl)) ss_nil))))))) (ss_one (s_ret (e_cmp (op_eqA hr.units) pr_eq (e_ix ix_A pr_ix (e_var 2) e_int (fun _ _ => rfl)) e_int (nomark _)))))))
theorem bn__law_slots_judged (W : Wd K mg) : Binds K W.d__law_slots_judged.choose ["source"] [] := W.d__law_slots_judged.choose_spec.bindsN fun _ _ _ _ _ _ us hl => match us, hl with | [_], _ => rfl
theorem ok__law_slots_judged (W : Wd K mg) : FnOk P w K mg base CX0 5 (He.ga K "_law_slots_judged") W.d__law_slots_judged.choose ["source"] (spF K Pr 1 m__law_slots_judged) := by
  refine FunD.ok W.d__law_slots_judged.choose_spec sc__law_slots_judged (fun _ _ _ _ h => spF_len h) fun cdv A outer s H vs Q E hr h => ?_
  have hu := hu_of hr
  refine ⟨rdS K Pr E c__law_slots_judged, ?_, body_rd (N := ["source", "pool", "rooms", "gap", "turn", "slot", "slots", "room", "place", "kind", "k"]) h⟩
  exact (ss_cons (s_set (i := 1) sc__law_slots_judged.nd rfl (by first | exact Or.inl rfl | exact Or.inr rfl) (e_compV (E' := XE0) mkD_ok rfl sc__law_slots_judged.nd (i_r1 rfl W.b_range (a_cons (e_bin op_addA (pr_add mkD_ok) e_int (e_call (ok__law_draw W) (hr.mono (by decide)) rfl W.g__law_draw W.d__law_draw.choose_spec.kp (bn__law_draw W) pass00 (a_cons (e_var 0) (a_cons e_int a_nil)))) a_nil)) (blkOk_by (own := [("k", 10)]) (by show blkC NN__law_slots_judged (defScope s__law_slots_judged) _ _ = true; decide +kernel)) (fun s2 H2 C2 cl2 fp2 => (g_name (i := 10) sc__law_slots_judged.nd rfl (by first | exact Or.inl rfl | exact Or.inr rfl))) (fun s2 H2 C2 cl2 fp2 => ts_nil) (fun s2 H2 C2 cl2 fp2 => (e_call (ok__law_draw W) (hr.mono (by decide)) rfl W.g__law_draw W.d__law_draw.choose_spec.kp (bn__law_draw W) pass00 (a_cons (e_var 0) (a_cons e_int a_nil)))))) (ss_cons (s_compV (E' := XE0) (i := 2) mkD_ok rfl sc__law_slots_judged.nd rfl rfl (sw_true rfl rfl rfl (by decide +kernel)) (i_r1 rfl W.b_range (a_cons (e_bin op_addA (pr_add mkD_ok) e_int (e_call (ok__law_draw W) (hr.mono (by decide)) rfl W.g__law_draw W.d__law_draw.choose_spec.kp (bn__law_draw W) pass00 (a_cons (e_var 0) (a_cons e_int a_nil)))) a_nil)) (blkOk_by (own := [("k", 10)]) (by show blkC NN__law_slots_judged (defScope s__law_slots_judged) _ _ = true; decide +kernel)) (fun s2 H2 C2 cl2 fp2 => (g_name (i := 10) sc__law_slots_judged.nd rfl (by first | exact Or.inl rfl | exact Or.inr rfl))) (fun s2 H2 C2 cl2 fp2 => ts_nil) (fun s2 H2 C2 cl2 fp2 => (e_ix ix_A pr_ix (e_var 1) (e_call (ok__law_draw W) (hr.mono (by decide)) rfl W.g__law_draw W.d__law_draw.choose_spec.kp (bn__law_draw W) pass00 (a_cons (e_var 0) (a_cons (e_callB call_lenS pr_len rfl W.b_len bt_len (a_cons (e_var 1) a_nil)) a_nil))) (fun _ _ => rfl)))) (ss_cons (s_set (i := 3) sc__law_slots_judged.nd rfl (by first | exact Or.inl rfl | exact Or.inr rfl) (e_bin op_addA (pr_add mkD_ok) e_int (e_call (ok__law_draw W) (hr.mono (by decide)) rfl W.g__law_draw W.d__law_draw.choose_spec.kp (bn__law_draw W) pass00 (a_cons (e_var 0) (a_cons e_int a_nil))))) (ss_cons (s_for (passes_of rfl) rfl (i_r1 rfl W.b_range (a_cons e_int a_nil)) (g_name (i := 4) sc__law_slots_judged.nd rfl (by first | exact Or.inl rfl | exact Or.inr rfl)) (ss_cut (ss_cons (s_set (i := 5) sc__law_slots_judged.nd rfl (by first | exact Or.inl rfl | exact Or.inr rfl) (e_ix ix_A pr_ix (e_lst mkD_ok (a_cons e_int (a_cons e_int (a_cons e_int (a_cons e_int a_nil))))) (e_call (ok__law_draw W) (hr.mono (by decide)) rfl W.g__law_draw W.d__law_draw.choose_spec.kp (bn__law_draw W) pass00 (a_cons (e_var 0) (a_cons e_int a_nil))) (fun _ _ => rfl))) (ss_cons (s_set (i := 6) sc__law_slots_judged.nd rfl (by first | exact Or.inl rfl | exact Or.inr rfl) (e_lst mkN_ok a_nil)) (ss_cons (s_forS (passes_of rfl) rfl (e_var 2) (g_name (i := 7) sc__law_slots_judged.nd rfl (by first | exact Or.inl rfl | exact Or.inr rfl)) (ss_cons (s_expr (e_append (e_var 6) (e_var 5))) (ss_one (s_set (i := 5) sc__law_slots_judged.nd rfl (by first | exact Or.inl rfl | exact Or.inr rfl) (e_bin op_addA (pr_add mkD_ok) (e_bin op_addA (pr_add mkD_ok) (e_var 5) e_int) (e_call (ok__law_draw W) (hr.mono (by decide)) rfl W.g__law_draw W.d__law_draw.choose_spec.kp (bn__law_draw W) pass00 (a_cons (e_var 0) (a_cons e_int a_nil)))))))) (ss_cons (s_set (i := 8) sc__law_slots_judged.nd rfl (by first | exact Or.inl rfl | exact Or.inr rfl) (e_call (ok__law_draw W) (hr.mono (by decide)) rfl W.g__law_draw W.d__law_draw.choose_spec.kp (bn__law_draw W) pass00 (a_cons (e_var 0) (a_cons (e_callB call_lenS pr_len rfl W.b_len bt_len (a_cons (e_var 6) a_nil)) a_nil)))) (ss_cons (s_set (i := 9) sc__law_slots_judged.nd rfl (by first | exact Or.inl rfl | exact Or.inr rfl) (e_call (ok__law_draw W) (hr.mono (by decide)) rfl W.g__law_draw W.d__law_draw.choose_spec.kp (bn__law_draw W) pass00 (a_cons (e_var 0) (a_cons e_int a_nil)))) (ss_cons (s_if (t_cmp op_lt pr_lt (e_var 9) e_int (nomark _)) (ss_one (s_setL (e_bin op_addA (pr_add mkD_ok) (e_ix ix_A pr_ix (e_var 6) (e_var 8) (fun _ _ => rfl)) (e_ix ix_A pr_ix (e_lst mkD_ok (a_cons e_int (a_cons e_int (a_cons e_int (a_cons (e_var 3) (a_cons (e_bin op_mul pr_mul e_int (e_var 3)) a_nil)))))) (e_var 9) (fun _ _ => rfl))) (e_var 6) (e_var 8))) ss_nil) (ss_cons (s_if (t_cmp (op_eqA hr.units) pr_eq (e_var 9) e_int (nomark _)) (ss_one (s_set (i := 6) sc__law_slots_judged.nd rfl (by first | exact Or.inl rfl | exact Or.inr rfl) (e_bin op_addA (pr_add mkN_ok) (e_slice mkD_ok (e_var 6) o_none (o_some (E := XE0) (e_var 8))) (e_slice mkD_ok (e_var 6) (o_some (E := XE0) (e_bin op_addA (pr_add mkD_ok) (e_var 8) e_int)) o_none)))) ss_nil) (ss_cons (s_if (t_cmp (op_eqA hr.units) pr_eq (e_var 9) e_int (nomark _)) (ss_one (s_set (i := 6) sc__law_slots_judged.nd rfl (by first | exact Or.inl rfl | exact Or.inr rfl) (e_bin op_addA (pr_add mkN_ok) (e_var 6) (e_lst mkD_ok (a_cons (e_var 5) a_nil))))) ss_nil) (ss_cons (s_if (t_cmp (op_eqA hr.units) pr_eq (e_var 9) e_int (nomark _)) (ss_one (s_setL (e_ix ix_A pr_ix (e_lst mkD_ok (a_cons e_bl (a_cons e_bl (a_cons e_non (a_cons (e_neg e_int) (a_cons e_int (a_cons e_str a_nil))))))) (e_call (ok__law_draw W) (hr.mono (by decide)) rfl W.g__law_draw W.d__law_draw.choose_spec.kp (bn__law_draw W) pass00 (a_cons (e_var 0) (a_cons e_int a_nil))) (fun _ _ => rfl)) (e_var 6) (e_var 8))) ss_nil) (ss_one (s_if (t_not (t_val (e_call (ok__law_says W) (hr.mono (by decide)) rfl W.g__law_says W.d__law_says.choose_spec.kp (bn__law_says W) pass00 (a_cons (e_call (ok_are_slots W) (hr.mono (by decide)) rfl W.g_are_slots W.d_are_slots.choose_spec.kp (bn_are_slots W) pass00 (a_cons (e_var 2) (a_cons (e_var 3) (a_cons (e_frz (e_var 6)) a_nil)))) (a_cons (e_call (ok__law_slots_right W) (hr.mono (by decide)) rfl W.g__law_slots_right W.d__law_slots_right.choose_spec.kp (bn__law_slots_right W) pass00 (a_cons (e_var 2) (a_cons (e_var 3) (a_cons (e_frz (e_var 6)) a_nil)))) a_nil))))) (ss_one (s_ret e_bl)) ss_nil))))))))))))) (ss_one (s_ret e_bl))))))
theorem bn_law (W : Wd K mg) : Binds K W.d_law.choose ["script"] [] := W.d_law.choose_spec.bindsN fun _ _ _ _ _ _ us hl => match us, hl with | [_], _ => rfl
theorem ok_law (W : Wd K mg) : FnOk P w K mg base CX0 8 (He.ga K "law") W.d_law.choose ["script"] (spF K Pr 1 m_law) := by
  refine FunD.ok W.d_law.choose_spec sc_law (fun _ _ _ _ h => spF_len h) fun cdv A outer s H vs Q E hr h => ?_
  have hu := hu_of hr
  refine ⟨rdS K Pr E c_law, ?_, body_rd (N := ["script", "table", "copy", "needs", "source", "row"]) h⟩
  exact (ss_cons (s_set (i := 1) sc_law.nd rfl (by first | exact Or.inl rfl | exact Or.inr rfl) (e_call (ok__law_table W) (hr.mono (by decide)) rfl W.g__law_table W.d__law_table.choose_spec.kp (bn__law_table W) pass00 (a_cons (e_var 0) (a_cons e_int (a_cons e_int a_nil))))) (ss_cons (s_compSV (E' := XE0) (i := 2) mkD_ok rfl sc_law.nd rfl rfl (sw_true rfl rfl rfl (by decide +kernel)) (e_var 1) (blkOk_by (own := [("row", 5)]) (by show blkC NN_law (defScope s_law) _ _ = true; decide +kernel)) (fun s2 H2 C2 cl2 fp2 => (g_name (i := 5) sc_law.nd rfl (by first | exact Or.inl rfl | exact Or.inr rfl))) (fun s2 H2 C2 cl2 fp2 => ts_nil) (fun s2 H2 C2 cl2 fp2 => (e_callTy call_listS (pr_list mkD_ok) rfl W.b_list bt_list (a_cons (e_var 5) a_nil)))) (ss_cons (s_set (i := 3) sc_law.nd rfl (by first | exact Or.inl rfl | exact Or.inr rfl) (e_call (ok__law_needed W) (hr.mono (by decide)) rfl W.g__law_needed W.d__law_needed.choose_spec.kp (bn__law_needed W) pass00 (a_cons (e_var 2) a_nil))) (ss_cons (s_set (i := 4) sc_law.nd rfl (by first | exact Or.inl rfl | exact Or.inr rfl) (e_call (ok__law_source W) (hr.mono (by decide)) rfl W.g__law_source W.d__law_source.choose_spec.kp (bn__law_source W) pass00 (a_cons (e_var 0) (a_cons e_int a_nil)))) (ss_cons (s_if (t_not (t_val (e_call (ok__law_parts_judged W) (hr.mono (by decide)) rfl W.g__law_parts_judged W.d__law_parts_judged.choose_spec.kp (bn__law_parts_judged W) pass00 (a_cons (e_var 4) (a_cons (e_var 1) (a_cons (e_var 3) (a_cons (e_bin op_addA (pr_add mkD_ok) e_int (e_call (ok__law_draw W) (hr.mono (by decide)) rfl W.g__law_draw W.d__law_draw.choose_spec.kp (bn__law_draw W) pass00 (a_cons (e_var 4) (a_cons e_int a_nil)))) a_nil))))))) (ss_one (s_ret e_bl)) ss_nil) (ss_cons (s_if (t_not (t_val (e_call (ok__law_tasks_judged W) (hr.mono (by decide)) rfl W.g__law_tasks_judged W.d__law_tasks_judged.choose_spec.kp (bn__law_tasks_judged W) pass00 (a_cons (e_call (ok__law_source W) (hr.mono (by decide)) rfl W.g__law_source W.d__law_source.choose_spec.kp (bn__law_source W) pass00 (a_cons (e_var 0) (a_cons e_int a_nil))) (a_cons (e_var 1) (a_cons (e_var 3) a_nil)))))) (ss_one (s_ret e_bl)) ss_nil) (ss_one (s_ret (e_and (e_call (ok__law_slots_judged W) (hr.mono (by decide)) rfl W.g__law_slots_judged W.d__law_slots_judged.choose_spec.kp (bn__law_slots_judged W) pass00 (a_cons (e_call (ok__law_source W) (hr.mono (by decide)) rfl W.g__law_source W.d__law_source.choose_spec.kp (bn__law_source W) pass00 (a_cons (e_var 0) (a_cons e_int a_nil))) a_nil)) (e_one (e_cmp (op_eqA hr.units) pr_eq (e_var 1) (e_var 2) (nomark _))))))))))))
end
end K75
set_option Elab.async false
set_option linter.all false
set_option autoImplicit false
set_option maxRecDepth 100000
set_option maxHeartbeats 1000000
namespace K75
open PySem PySem.Spec PyProof.Rows L2 Sl
local macro_rules | `(tactic| wp_step) => `(tactic| first
  | with_reducible refine wS_seq ?_
  | with_reducible refine seqK_nx ?_
  | with_reducible refine seqK_rt ?_
  | with_reducible refine seqK_bk ?_
  | with_reducible refine seqK_ct ?_
  | with_reducible refine fnQ_nx ?_
  | with_reducible refine fnQ_rt ?_
  | with_reducible refine turn_nx ?_
  | with_reducible refine turn_ct ?_
  | with_reducible refine turn_bk ?_
  | with_reducible refine turn_rt ?_
  | with_reducible refine wS_if ?_
  | with_reducible refine wS_set ?_
  | with_reducible refine wS_asg ?_
  | with_reducible refine wS_ret ?_
  | with_reducible refine wS_drop ?_
  | with_reducible refine wS_nx ?_
  | with_reducible refine wS_bk ?_
  | with_reducible refine wS_ct ?_
  | with_reducible refine wS_forS ?_
  | with_reducible refine wS_for1 ?_
  | with_reducible refine wS_setL ?_
  | with_reducible refine wS_dputK ?_
  | with_reducible refine wE_op ?_
  | with_reducible refine wE_c ?_
  | ((with_reducible apply wE_var); rfl)
  | with_reducible refine wE_call ?_
  | with_reducible refine wE_cb ?_
  | with_reducible refine wE_and ?_
  | with_reducible refine wE_or ?_
  | with_reducible refine wE_not ?_
  | with_reducible refine wE_if ?_
  | with_reducible refine wE_isi ?_
  | with_reducible refine wE_chain ?_
  | with_reducible refine wE_neg ?_
  | with_reducible refine wE_lst ?_
  | with_reducible refine wE_tup ?_
  | with_reducible refine wE_frz ?_
  | with_reducible refine wE_append ?_
  | with_reducible refine wE_sl ?_
  | with_reducible refine wE_rev ?_
  | with_reducible refine wE_dnew ?_
  | with_reducible refine wZ_d ?_
  | ((with_reducible apply isO_o); (first | assumption | exact app_get0 | exact app_get1 | exact app_get2 | exact List.getElem?_set_self (by assumption) | exact List.getElem?_set_self (by rw [List.length_set]; assumption) | (rw [List.getElem?_append_right (Nat.le_refl _), Nat.sub_self]; rfl) | exact getA0 (by assumption) | exact getA1 (by assumption)))
  | ((with_reducible apply wApp_o); (first | assumption | exact app_get0 | exact app_get1 | exact app_get2 | exact List.getElem?_set_self (by assumption) | exact List.getElem?_set_self (by rw [List.length_set]; assumption) | (rw [List.getElem?_append_right (Nat.le_refl _), Nat.sub_self]; rfl) | exact getA0 (by assumption) | exact getA1 (by assumption)))
  | ((with_reducible apply wD_o); (first | assumption | exact app_get0 | exact app_get1 | exact app_get2 | exact List.getElem?_set_self (by assumption) | exact List.getElem?_set_self (by rw [List.length_set]; assumption) | (rw [List.getElem?_append_right (Nat.le_refl _), Nat.sub_self]; rfl) | exact getA0 (by assumption) | exact getA1 (by assumption)))
  | ((with_reducible apply wZ_o); (first | assumption | exact app_get0 | exact app_get1 | exact app_get2 | exact List.getElem?_set_self (by assumption) | exact List.getElem?_set_self (by rw [List.length_set]; assumption) | (rw [List.getElem?_append_right (Nat.le_refl _), Nat.sub_self]; rfl) | exact getA0 (by assumption) | exact getA1 (by assumption)); exact allD_map' _)
  | with_reducible refine wE_rep ?_
  | with_reducible refine wE_sortSet ?_
  | with_reducible refine wE_lenSet ?_
  | with_reducible refine wE_comp1 ?_
  | with_reducible refine wE_compS ?_
  | with_reducible refine wP_none ?_
  | with_reducible refine wP_some ?_
  | with_reducible refine wA_nil ?_
  | with_reducible refine wA_cons ?_
  | with_reducible refine wA_app ?_
  | with_reducible refine wB_t ?_
  | with_reducible refine wB_f ?_
  | with_reducible refine wB_nt ?_
  | with_reducible refine wB_nf ?_
  | with_reducible refine wB_dec (fun _ => ?_) (fun _ => ?_)
  | with_reducible refine wB_not (fun _ => ?_) (fun _ => ?_)
  | with_reducible refine wB_nb (fun _ => ?_) (fun _ => ?_)
  | with_reducible refine wB_b (fun _ => ?_) (fun _ => ?_)
  | with_reducible refine wO_sub ?_
  | ((with_reducible apply wO_inS0); rfl)
  | ((with_reducible apply wO_inS1); rfl)
  | ((with_reducible apply wO_inD0); (first | assumption | exact app_get0 | exact app_get1 | exact app_get2 | exact List.getElem?_set_self (by assumption) | exact List.getElem?_set_self (by rw [List.length_set]; assumption) | (rw [List.getElem?_append_right (Nat.le_refl _), Nat.sub_self]; rfl) | exact getA0 (by assumption) | exact getA1 (by assumption)))
  | ((with_reducible apply wO_inD1); (first | assumption | exact app_get0 | exact app_get1 | exact app_get2 | exact List.getElem?_set_self (by assumption) | exact List.getElem?_set_self (by rw [List.length_set]; assumption) | (rw [List.getElem?_append_right (Nat.le_refl _), Nat.sub_self]; rfl) | exact getA0 (by assumption) | exact getA1 (by assumption)))
  | with_reducible refine wO_lt ?_
  | with_reducible refine wO_le ?_
  | with_reducible refine wO_gt ?_
  | with_reducible refine wO_ge ?_
  | with_reducible refine wO_add ?_
  | with_reducible refine wO_eqI ?_
  | with_reducible refine wO_neI ?_
  | with_reducible refine wO_isN ?_
  | with_reducible refine wO_notN ?_
  | with_reducible refine wC_lenL ?_
  | with_reducible refine wC_lenT ?_
  | with_reducible refine wC_int ?_
  | ((with_reducible apply wC_lenD); (first | assumption | exact app_get0 | exact app_get1 | exact app_get2 | exact List.getElem?_set_self (by assumption) | exact List.getElem?_set_self (by rw [List.length_set]; assumption) | (rw [List.getElem?_append_right (Nat.le_refl _), Nat.sub_self]; rfl) | exact getA0 (by assumption) | exact getA1 (by assumption)))
  | with_reducible refine wC_abs ?_
  | with_reducible refine wM_N ?_
  | with_reducible refine wM_Dm ?_
  | with_reducible refine wM_Tm ?_
  | ((with_reducible apply wM_T); rfl)
  | ((with_reducible apply wM_D); rfl)
  | (with_reducible refine Exists.intro _ (And.intro rfl ?_))
  | (with_reducible refine And.intro rfl ?_)
  | ((with_reducible refine And.intro (size_small ?_) ?_); rfl)
  | with_reducible refine wO_pow6 ?_
  | ((with_reducible refine wO_mulR ?_ ?_); decide)
  | ((with_reducible refine wO_mulL ?_ ?_); decide)
  | ((with_reducible refine wO_mod ?_ ?_); omega)
  | ((with_reducible refine wO_div ?_ ?_ ?_); omega; omega)
  | ((with_reducible apply wU_o); (first | assumption | exact app_get0 | exact app_get1 | exact app_get2 | exact List.getElem?_set_self (by assumption) | exact List.getElem?_set_self (by rw [List.length_set]; assumption) | (rw [List.getElem?_append_right (Nat.le_refl _), Nat.sub_self]; rfl) | exact getA0 (by assumption) | exact getA1 (by assumption)); rfl)
  | ((with_reducible apply wO_ixZ); (apply asSeq_o; (first | assumption | exact app_get0 | exact app_get1 | exact app_get2 | exact List.getElem?_set_self (by assumption) | exact List.getElem?_set_self (by rw [List.length_set]; assumption) | (rw [List.getElem?_append_right (Nat.le_refl _), Nat.sub_self]; rfl) | exact getA0 (by assumption) | exact getA1 (by assumption))); rfl))
/-! ### one value -/
def isW : PyData → Bool
  | .int _ => true
  | _ => false
def seqD : PyData → Option (List PyData)
  | .list ds => some ds
  | .tuple ds => some ds
  | _ => none
theorem is_whole_eq (x : PyData) (st : Sto) : m_is_whole [.d x] st = some (.ok (.d (.bool (isW x))) st) := by
  cases x <;> rfl
theorem is_row_eq (x : PyData) (st : Sto) : m_is_row [.d x] st = some (.ok (.d (.bool (seqD x).isSome)) st) := by
  cases x <;> rfl
theorem l_integer_eq (x : PyData) (st : Sto) : m__law_is_integer [.d x] st = some (.ok (.d (.bool (isW x))) st) := by
  cases x <;> rfl
theorem l_row_eq (x : PyData) (st : Sto) : m__law_is_row [.d x] st = some (.ok (.d (.bool (seqD x).isSome)) st) := by
  cases x <;> rfl
theorem l_says_eq (a b : Bool) (st : Sto) : m__law_says [.d (.bool a), .d (.bool b)] st = some (.ok (.d (.bool (decide (a = b)))) st) := by
  cases a <;> cases b <;> rfl
def btw (x : PyData) (a b : Int) : Bool := match x with
  | .int i => decide (a ≤ i) && decide (i ≤ b)
  | _ => false
theorem is_between_eq (x : PyData) (a b : Int) (st : Sto) : m_is_between [.d x, .d (.int a), .d (.int b)] st = some (.ok (.d (.bool (btw x a b))) st) := by
  cases x
  case int i =>
    simp only [m_is_between, c_is_between, is_whole_eq, isW, btw, sSeq, sIf, sAsg, sDrop, sRet, sRetN, sNx, sBk, sCt, fbind, obind, obindL, ibind, ibindL, eVar, eC, eOp, eAnd, eOr, eNot, eIf, eCB, eCall, nFn, aNil, aCons, aApp, tst, gN, eIsi, tyOf, tyD, eNeg, asI, oI, oSub, oMul, oDiv, oDivW, oMod, oPow, oLt, oLe, oGt, oGe, oAdd, eChain, oIsN, oNotN, isN, cLen, cInt, cAbs, asSeq, seqOf, runFn, fEnv, eLst, eTup, mkT, mkD, mkN, allD, Ty.sub, oSome, oNone, eSl, oEq, oNe, oEqC, asD, scalD, List.getElem?_cons_zero, List.getElem?_cons_succ, List.getElem?_nil, List.set_cons_zero, List.set_cons_succ, Option.map_some, Option.map_none, Option.bind_some, Option.bind_none, List.length_cons, List.length_nil, List.map_cons, List.map_nil, List.cons_append, List.nil_append, List.append_nil, List.replicate, List.any_cons, List.any_nil, Bool.and_true, Bool.true_and, Bool.and_false, Bool.false_and, Bool.or_true, Bool.true_or, Bool.or_false, Bool.false_or, Bool.not_true, Bool.not_false, Bool.false_eq_true, if_true, if_false, ite_true, ite_false, reduceCtorEq, decide_true, decide_false, Nat.reduceAdd, Nat.reduceSub, Nat.reduceMul, Nat.reduceLT, Nat.reduceLeDiff, Nat.reduceEqDiff, Int.reduceNeg, Int.reduceAdd, Int.reduceSub, Int.reduceLT, Int.reduceLE, Nat.zero_add, Int.reduceMul, Nat.succ_ne_zero, Nat.add_eq, Nat.add_zero]
    cases decide (a ≤ i) <;> rfl
  all_goals rfl
/-! ### rising rows -/
def lastV : Option Int → VL
  | none => .d .none
  | some i => .d (.int i)
def risD : Option Int → List PyData → Bool
  | _, [] => true
  | none, .int i :: r => risD (some i) r
  | some l, .int i :: r => decide (l < i) && risD (some i) r
  | _, _ :: _ => false
theorem is_rising_loop (x : PyData) (st : Sto) : ∀ (ds : List PyData) (l : Option Int) (nb : Option VL),
    (risD l ds = true → ∃ l' n', forL (gN 2) c_is_rising_B0 (ds.map .d) [some (.d x), some (lastV l), nb] st = some (.nx [some (.d x), some l', n'] st)) ∧
    (risD l ds = false → forL (gN 2) c_is_rising_B0 (ds.map .d) [some (.d x), some (lastV l), nb] st = some (.rt (.d (.bool false)) st))
  | [], l, nb => ⟨fun _ => ⟨_, _, rfl⟩, fun h => by cases l <;> cases h⟩
  | y :: ds, l, nb => by
    cases y
    case int i =>
      have ih := is_rising_loop x st ds (some i) (some (.d (.int i)))
      cases l with
      | none =>
        simp only [List.map_cons, forL, c_is_rising_B0, is_whole_eq, isW, lastV, risD, sSeq, sIf, sAsg, sDrop, sRet, sRetN, sNx, sBk, sCt, fbind, obind, obindL, ibind, ibindL, eVar, eC, eOp, eAnd, eOr, eNot, eIf, eCB, eCall, nFn, aNil, aCons, aApp, tst, gN, eIsi, tyOf, tyD, eNeg, asI, oI, oSub, oMul, oDiv, oDivW, oMod, oPow, oLt, oLe, oGt, oGe, oAdd, eChain, oIsN, oNotN, isN, cLen, cInt, cAbs, asSeq, seqOf, runFn, fEnv, eLst, eTup, mkT, mkD, mkN, allD, Ty.sub, oSome, oNone, eSl, oEq, oNe, oEqC, asD, scalD, List.getElem?_cons_zero, List.getElem?_cons_succ, List.getElem?_nil, List.set_cons_zero, List.set_cons_succ, Option.map_some, Option.map_none, Option.bind_some, Option.bind_none, List.length_cons, List.length_nil, List.map_cons, List.map_nil, List.cons_append, List.nil_append, List.append_nil, List.replicate, List.any_cons, List.any_nil, Bool.and_true, Bool.true_and, Bool.and_false, Bool.false_and, Bool.or_true, Bool.true_or, Bool.or_false, Bool.false_or, Bool.not_true, Bool.not_false, Bool.false_eq_true, if_true, if_false, ite_true, ite_false, reduceCtorEq, decide_true, decide_false, Nat.reduceAdd, Nat.reduceSub, Nat.reduceMul, Nat.reduceLT, Nat.reduceLeDiff, Nat.reduceEqDiff, Int.reduceNeg, Int.reduceAdd, Int.reduceSub, Int.reduceLT, Int.reduceLE, Nat.zero_add, Int.reduceMul, Nat.succ_ne_zero, Nat.add_eq, Nat.add_zero] at ih ⊢
        exact ih
      | some l =>
        simp only [List.map_cons, forL, c_is_rising_B0, is_whole_eq, isW, lastV, risD, sSeq, sIf, sAsg, sDrop, sRet, sRetN, sNx, sBk, sCt, fbind, obind, obindL, ibind, ibindL, eVar, eC, eOp, eAnd, eOr, eNot, eIf, eCB, eCall, nFn, aNil, aCons, aApp, tst, gN, eIsi, tyOf, tyD, eNeg, asI, oI, oSub, oMul, oDiv, oDivW, oMod, oPow, oLt, oLe, oGt, oGe, oAdd, eChain, oIsN, oNotN, isN, cLen, cInt, cAbs, asSeq, seqOf, runFn, fEnv, eLst, eTup, mkT, mkD, mkN, allD, Ty.sub, oSome, oNone, eSl, oEq, oNe, oEqC, asD, scalD, List.getElem?_cons_zero, List.getElem?_cons_succ, List.getElem?_nil, List.set_cons_zero, List.set_cons_succ, Option.map_some, Option.map_none, Option.bind_some, Option.bind_none, List.length_cons, List.length_nil, List.map_cons, List.map_nil, List.cons_append, List.nil_append, List.append_nil, List.replicate, List.any_cons, List.any_nil, Bool.and_true, Bool.true_and, Bool.and_false, Bool.false_and, Bool.or_true, Bool.true_or, Bool.or_false, Bool.false_or, Bool.not_true, Bool.not_false, Bool.false_eq_true, if_true, if_false, ite_true, ite_false, reduceCtorEq, decide_true, decide_false, Nat.reduceAdd, Nat.reduceSub, Nat.reduceMul, Nat.reduceLT, Nat.reduceLeDiff, Nat.reduceEqDiff, Int.reduceNeg, Int.reduceAdd, Int.reduceSub, Int.reduceLT, Int.reduceLE, Nat.zero_add, Int.reduceMul, Nat.succ_ne_zero, Nat.add_eq, Nat.add_zero] at ih ⊢
        by_cases h : l < i
        · have h2 : ¬ i ≤ l := by omega
          simp only [h, h2, sSeq, sIf, sAsg, sDrop, sRet, sRetN, sNx, sBk, sCt, fbind, obind, obindL, ibind, ibindL, eVar, eC, eOp, eAnd, eOr, eNot, eIf, eCB, eCall, nFn, aNil, aCons, aApp, tst, gN, eIsi, tyOf, tyD, eNeg, asI, oI, oSub, oMul, oDiv, oDivW, oMod, oPow, oLt, oLe, oGt, oGe, oAdd, eChain, oIsN, oNotN, isN, cLen, cInt, cAbs, asSeq, seqOf, runFn, fEnv, eLst, eTup, mkT, mkD, mkN, allD, Ty.sub, oSome, oNone, eSl, oEq, oNe, oEqC, asD, scalD, List.getElem?_cons_zero, List.getElem?_cons_succ, List.getElem?_nil, List.set_cons_zero, List.set_cons_succ, Option.map_some, Option.map_none, Option.bind_some, Option.bind_none, List.length_cons, List.length_nil, List.map_cons, List.map_nil, List.cons_append, List.nil_append, List.append_nil, List.replicate, List.any_cons, List.any_nil, Bool.and_true, Bool.true_and, Bool.and_false, Bool.false_and, Bool.or_true, Bool.true_or, Bool.or_false, Bool.false_or, Bool.not_true, Bool.not_false, Bool.false_eq_true, if_true, if_false, ite_true, ite_false, reduceCtorEq, decide_true, decide_false, Nat.reduceAdd, Nat.reduceSub, Nat.reduceMul, Nat.reduceLT, Nat.reduceLeDiff, Nat.reduceEqDiff, Int.reduceNeg, Int.reduceAdd, Int.reduceSub, Int.reduceLT, Int.reduceLE, Nat.zero_add, Int.reduceMul, Nat.succ_ne_zero, Nat.add_eq, Nat.add_zero] at ih ⊢
          exact ih
        · have h2 : i ≤ l := by omega
          simp only [h, h2, sSeq, sIf, sAsg, sDrop, sRet, sRetN, sNx, sBk, sCt, fbind, obind, obindL, ibind, ibindL, eVar, eC, eOp, eAnd, eOr, eNot, eIf, eCB, eCall, nFn, aNil, aCons, aApp, tst, gN, eIsi, tyOf, tyD, eNeg, asI, oI, oSub, oMul, oDiv, oDivW, oMod, oPow, oLt, oLe, oGt, oGe, oAdd, eChain, oIsN, oNotN, isN, cLen, cInt, cAbs, asSeq, seqOf, runFn, fEnv, eLst, eTup, mkT, mkD, mkN, allD, Ty.sub, oSome, oNone, eSl, oEq, oNe, oEqC, asD, scalD, List.getElem?_cons_zero, List.getElem?_cons_succ, List.getElem?_nil, List.set_cons_zero, List.set_cons_succ, Option.map_some, Option.map_none, Option.bind_some, Option.bind_none, List.length_cons, List.length_nil, List.map_cons, List.map_nil, List.cons_append, List.nil_append, List.append_nil, List.replicate, List.any_cons, List.any_nil, Bool.and_true, Bool.true_and, Bool.and_false, Bool.false_and, Bool.or_true, Bool.true_or, Bool.or_false, Bool.false_or, Bool.not_true, Bool.not_false, Bool.false_eq_true, if_true, if_false, ite_true, ite_false, reduceCtorEq, decide_true, decide_false, Nat.reduceAdd, Nat.reduceSub, Nat.reduceMul, Nat.reduceLT, Nat.reduceLeDiff, Nat.reduceEqDiff, Int.reduceNeg, Int.reduceAdd, Int.reduceSub, Int.reduceLT, Int.reduceLE, Nat.zero_add, Int.reduceMul, Nat.succ_ne_zero, Nat.add_eq, Nat.add_zero]
          simp
    all_goals
      refine ⟨fun h => ?_, fun _ => ?_⟩
      · cases l <;> cases h
      · cases l <;> rfl
def risX (x : PyData) : Bool := match seqD x with
  | none => false
  | some ds => risD none ds
theorem seqD_some {x : PyData} {ds : List PyData} (h : seqD x = some ds) : x = .list ds ∨ x = .tuple ds := by
  cases x <;> first | (cases h; exact .inl rfl) | (cases h; exact .inr rfl) | cases h
theorem is_rising_eq (x : PyData) (st : Sto) : m_is_rising [.d x] st = some (.ok (.d (.bool (risX x))) st) := by
  unfold risX
  cases h : seqD x with
  | none => simp only [m_is_rising, c_is_rising, is_row_eq, h, Option.isSome, sSeq, sIf, sAsg, sDrop, sRet, sRetN, sNx, sBk, sCt, fbind, obind, obindL, ibind, ibindL, eVar, eC, eOp, eAnd, eOr, eNot, eIf, eCB, eCall, nFn, aNil, aCons, aApp, tst, gN, eIsi, tyOf, tyD, eNeg, asI, oI, oSub, oMul, oDiv, oDivW, oMod, oPow, oLt, oLe, oGt, oGe, oAdd, eChain, oIsN, oNotN, isN, cLen, cInt, cAbs, asSeq, seqOf, runFn, fEnv, eLst, eTup, mkT, mkD, mkN, allD, Ty.sub, oSome, oNone, eSl, oEq, oNe, oEqC, asD, scalD, List.getElem?_cons_zero, List.getElem?_cons_succ, List.getElem?_nil, List.set_cons_zero, List.set_cons_succ, Option.map_some, Option.map_none, Option.bind_some, Option.bind_none, List.length_cons, List.length_nil, List.map_cons, List.map_nil, List.cons_append, List.nil_append, List.append_nil, List.replicate, List.any_cons, List.any_nil, Bool.and_true, Bool.true_and, Bool.and_false, Bool.false_and, Bool.or_true, Bool.true_or, Bool.or_false, Bool.false_or, Bool.not_true, Bool.not_false, Bool.false_eq_true, if_true, if_false, ite_true, ite_false, reduceCtorEq, decide_true, decide_false, Nat.reduceAdd, Nat.reduceSub, Nat.reduceMul, Nat.reduceLT, Nat.reduceLeDiff, Nat.reduceEqDiff, Int.reduceNeg, Int.reduceAdd, Int.reduceSub, Int.reduceLT, Int.reduceLE, Nat.zero_add, Int.reduceMul, Nat.succ_ne_zero, Nat.add_eq, Nat.add_zero]
  | some ds =>
    obtain ⟨h1, h2⟩ := is_rising_loop x st ds none none
    have hw := fun g body => sForS_d (a := eVar 0) (g := g) (body := body) (env := [some (.d x), some (.d .none), none]) (st := st) (st1 := st) (x := x) (ds := ds) rfl (seqD_some h)
    simp only [m_is_rising, c_is_rising, is_row_eq, h, Option.isSome, hw, sSeq, sIf, sAsg, sDrop, sRet, sRetN, sNx, sBk, sCt, fbind, obind, obindL, ibind, ibindL, eVar, eC, eOp, eAnd, eOr, eNot, eIf, eCB, eCall, nFn, aNil, aCons, aApp, tst, gN, eIsi, tyOf, tyD, eNeg, asI, oI, oSub, oMul, oDiv, oDivW, oMod, oPow, oLt, oLe, oGt, oGe, oAdd, eChain, oIsN, oNotN, isN, cLen, cInt, cAbs, asSeq, seqOf, runFn, fEnv, eLst, eTup, mkT, mkD, mkN, allD, Ty.sub, oSome, oNone, eSl, oEq, oNe, oEqC, asD, scalD, List.getElem?_cons_zero, List.getElem?_cons_succ, List.getElem?_nil, List.set_cons_zero, List.set_cons_succ, Option.map_some, Option.map_none, Option.bind_some, Option.bind_none, List.length_cons, List.length_nil, List.map_cons, List.map_nil, List.cons_append, List.nil_append, List.append_nil, List.replicate, List.any_cons, List.any_nil, Bool.and_true, Bool.true_and, Bool.and_false, Bool.false_and, Bool.or_true, Bool.true_or, Bool.or_false, Bool.false_or, Bool.not_true, Bool.not_false, Bool.false_eq_true, if_true, if_false, ite_true, ite_false, reduceCtorEq, decide_true, decide_false, Nat.reduceAdd, Nat.reduceSub, Nat.reduceMul, Nat.reduceLT, Nat.reduceLeDiff, Nat.reduceEqDiff, Int.reduceNeg, Int.reduceAdd, Int.reduceSub, Int.reduceLT, Int.reduceLE, Nat.zero_add, Int.reduceMul, Nat.succ_ne_zero, Nat.add_eq, Nat.add_zero]
    cases hr : risD none ds with
    | true =>
      obtain ⟨l', n', e⟩ := h1 hr
      simp only [lastV] at e
      simp only [e, sSeq, sIf, sAsg, sDrop, sRet, sRetN, sNx, sBk, sCt, fbind, obind, obindL, ibind, ibindL, eVar, eC, eOp, eAnd, eOr, eNot, eIf, eCB, eCall, nFn, aNil, aCons, aApp, tst, gN, eIsi, tyOf, tyD, eNeg, asI, oI, oSub, oMul, oDiv, oDivW, oMod, oPow, oLt, oLe, oGt, oGe, oAdd, eChain, oIsN, oNotN, isN, cLen, cInt, cAbs, asSeq, seqOf, runFn, fEnv, eLst, eTup, mkT, mkD, mkN, allD, Ty.sub, oSome, oNone, eSl, oEq, oNe, oEqC, asD, scalD, List.getElem?_cons_zero, List.getElem?_cons_succ, List.getElem?_nil, List.set_cons_zero, List.set_cons_succ, Option.map_some, Option.map_none, Option.bind_some, Option.bind_none, List.length_cons, List.length_nil, List.map_cons, List.map_nil, List.cons_append, List.nil_append, List.append_nil, List.replicate, List.any_cons, List.any_nil, Bool.and_true, Bool.true_and, Bool.and_false, Bool.false_and, Bool.or_true, Bool.true_or, Bool.or_false, Bool.false_or, Bool.not_true, Bool.not_false, Bool.false_eq_true, if_true, if_false, ite_true, ite_false, reduceCtorEq, decide_true, decide_false, Nat.reduceAdd, Nat.reduceSub, Nat.reduceMul, Nat.reduceLT, Nat.reduceLeDiff, Nat.reduceEqDiff, Int.reduceNeg, Int.reduceAdd, Int.reduceSub, Int.reduceLT, Int.reduceLE, Nat.zero_add, Int.reduceMul, Nat.succ_ne_zero, Nat.add_eq, Nat.add_zero]
    | false =>
      have e := h2 hr
      simp only [lastV] at e
      simp only [e, sSeq, sIf, sAsg, sDrop, sRet, sRetN, sNx, sBk, sCt, fbind, obind, obindL, ibind, ibindL, eVar, eC, eOp, eAnd, eOr, eNot, eIf, eCB, eCall, nFn, aNil, aCons, aApp, tst, gN, eIsi, tyOf, tyD, eNeg, asI, oI, oSub, oMul, oDiv, oDivW, oMod, oPow, oLt, oLe, oGt, oGe, oAdd, eChain, oIsN, oNotN, isN, cLen, cInt, cAbs, asSeq, seqOf, runFn, fEnv, eLst, eTup, mkT, mkD, mkN, allD, Ty.sub, oSome, oNone, eSl, oEq, oNe, oEqC, asD, scalD, List.getElem?_cons_zero, List.getElem?_cons_succ, List.getElem?_nil, List.set_cons_zero, List.set_cons_succ, Option.map_some, Option.map_none, Option.bind_some, Option.bind_none, List.length_cons, List.length_nil, List.map_cons, List.map_nil, List.cons_append, List.nil_append, List.append_nil, List.replicate, List.any_cons, List.any_nil, Bool.and_true, Bool.true_and, Bool.and_false, Bool.false_and, Bool.or_true, Bool.true_or, Bool.or_false, Bool.false_or, Bool.not_true, Bool.not_false, Bool.false_eq_true, if_true, if_false, ite_true, ite_false, reduceCtorEq, decide_true, decide_false, Nat.reduceAdd, Nat.reduceSub, Nat.reduceMul, Nat.reduceLT, Nat.reduceLeDiff, Nat.reduceEqDiff, Int.reduceNeg, Int.reduceAdd, Int.reduceSub, Int.reduceLT, Int.reduceLE, Nat.zero_add, Int.reduceMul, Nat.succ_ne_zero, Nat.add_eq, Nat.add_zero]
/-! ### sources -/
def Src (st : Sto) (s : Nat) : Prop := ∃ a b : Int, st[s]? = some (.lst [.d (.int a), .d (.int b)])
def srcO (a b : Int) : Ob := .lst [.d (.int a), .d (.int b)]
theorem l_source_wp {ns : List Int} {k : Int} (h0 : 0 ≤ k) {st : Sto} {Q : VL → Sto → Prop} (q : ∀ a b, Q (.o st.length) (st ++ [srcO a b])) : wF m__law_source [.d (.list (ns.map .int)), .d (.int k)] st Q := by
  refine wF_run ?_
  unfold c__law_source
  repeat' wp_step
  · rename_i h
    rw [List.length_map] at h
    have hk : ((k.toNat : Nat) : Int) = k := Int.toNat_of_nonneg h0
    have hl : k.toNat < ns.length := by omega
    rw [← hk]
    refine wO_ix (z := .d (.int (ns[k.toNat]'hl))) (k := false) (xs := (ns.map PyData.int).map VL.d) rfl ?_ ?_
    · rw [List.getElem?_map, List.getElem?_map, List.getElem?_eq_getElem hl]
      rfl
    · repeat' wp_step
      exact q _ _
  · exact q _ _
theorem l_draw_wp {st : Sto} {s : Nat} (h : Src st s) {n : Int} (h0 : 0 < n) (h1 : n < 1073741824) {Q : VL → Sto → Prop} (q : ∀ r a b : Int, 0 ≤ r → r < n → Q (.d (.int r)) (st.set s (srcO a b))) : wF m__law_draw [.o s, .d (.int n)] st Q := by
  obtain ⟨a, b, hs⟩ := h
  have hl : s < st.length := (List.getElem?_eq_some_iff.mp hs).1
  refine wF_run ?_
  unfold c__law_draw
  repeat' wp_step
  · exact q _ _ _ (Int.emod_nonneg _ (by omega)) (Int.emod_lt_of_pos _ h0)
  · exact q _ _ _ (Int.emod_nonneg _ (by omega)) (Int.emod_lt_of_pos _ h0)
theorem Src.set {st : Sto} {s : Nat} (h : Src st s) (a b : Int) : Src (st.set s (srcO a b)) s := by
  obtain ⟨_, _, hs⟩ := h
  exact ⟨a, b, List.getElem?_set_self (List.getElem?_eq_some_iff.mp hs).1⟩
end K75
set_option Elab.async false
set_option linter.all false
set_option autoImplicit false
set_option maxRecDepth 100000
set_option maxHeartbeats 1000000
namespace K75
open PySem PySem.Spec PyProof.Rows L2 Sl
local macro_rules | `(tactic| wp_step) => `(tactic| first
  | with_reducible refine wS_seq ?_
  | with_reducible refine seqK_nx ?_
  | with_reducible refine seqK_rt ?_
  | with_reducible refine seqK_bk ?_
  | with_reducible refine seqK_ct ?_
  | with_reducible refine fnQ_nx ?_
  | with_reducible refine fnQ_rt ?_
  | with_reducible refine turn_nx ?_
  | with_reducible refine turn_ct ?_
  | with_reducible refine turn_bk ?_
  | with_reducible refine turn_rt ?_
  | with_reducible refine wS_if ?_
  | with_reducible refine wS_set ?_
  | with_reducible refine wS_asg ?_
  | with_reducible refine wS_ret ?_
  | with_reducible refine wS_drop ?_
  | with_reducible refine wS_nx ?_
  | with_reducible refine wS_bk ?_
  | with_reducible refine wS_ct ?_
  | with_reducible refine wS_forS ?_
  | with_reducible refine wS_for1 ?_
  | with_reducible refine wS_setL ?_
  | with_reducible refine wS_dputK ?_
  | with_reducible refine wE_op ?_
  | with_reducible refine wE_c ?_
  | ((with_reducible apply wE_var); rfl)
  | with_reducible refine wE_call ?_
  | with_reducible refine wE_cb ?_
  | with_reducible refine wE_and ?_
  | with_reducible refine wE_or ?_
  | with_reducible refine wE_not ?_
  | with_reducible refine wE_if ?_
  | with_reducible refine wE_isi ?_
  | with_reducible refine wE_chain ?_
  | with_reducible refine wE_neg ?_
  | with_reducible refine wE_lst ?_
  | with_reducible refine wE_tup ?_
  | with_reducible refine wE_frz ?_
  | with_reducible refine wE_append ?_
  | with_reducible refine wE_sl ?_
  | with_reducible refine wE_rev ?_
  | with_reducible refine wE_dnew ?_
  | with_reducible refine wZ_d ?_
  | ((with_reducible apply isO_o); (first | assumption | exact app_get0 | exact app_get1 | exact app_get2 | exact List.getElem?_set_self (by assumption) | exact List.getElem?_set_self (by rw [List.length_set]; assumption) | (rw [List.getElem?_append_right (Nat.le_refl _), Nat.sub_self]; rfl) | exact getA0 (by assumption) | exact getA1 (by assumption)))
  | ((with_reducible apply wApp_o); (first | assumption | exact app_get0 | exact app_get1 | exact app_get2 | exact List.getElem?_set_self (by assumption) | exact List.getElem?_set_self (by rw [List.length_set]; assumption) | (rw [List.getElem?_append_right (Nat.le_refl _), Nat.sub_self]; rfl) | exact getA0 (by assumption) | exact getA1 (by assumption)))
  | ((with_reducible apply wD_o); (first | assumption | exact app_get0 | exact app_get1 | exact app_get2 | exact List.getElem?_set_self (by assumption) | exact List.getElem?_set_self (by rw [List.length_set]; assumption) | (rw [List.getElem?_append_right (Nat.le_refl _), Nat.sub_self]; rfl) | exact getA0 (by assumption) | exact getA1 (by assumption)))
  | ((with_reducible apply wZ_o); (first | assumption | exact app_get0 | exact app_get1 | exact app_get2 | exact List.getElem?_set_self (by assumption) | exact List.getElem?_set_self (by rw [List.length_set]; assumption) | (rw [List.getElem?_append_right (Nat.le_refl _), Nat.sub_self]; rfl) | exact getA0 (by assumption) | exact getA1 (by assumption)); exact allD_map' _)
  | with_reducible refine wE_rep ?_
  | with_reducible refine wE_sortSet ?_
  | with_reducible refine wE_lenSet ?_
  | with_reducible refine wE_comp1 ?_
  | with_reducible refine wE_compS ?_
  | with_reducible refine wP_none ?_
  | with_reducible refine wP_some ?_
  | with_reducible refine wA_nil ?_
  | with_reducible refine wA_cons ?_
  | with_reducible refine wA_app ?_
  | with_reducible refine wB_t ?_
  | with_reducible refine wB_f ?_
  | with_reducible refine wB_nt ?_
  | with_reducible refine wB_nf ?_
  | with_reducible refine wB_dec (fun _ => ?_) (fun _ => ?_)
  | with_reducible refine wB_not (fun _ => ?_) (fun _ => ?_)
  | with_reducible refine wB_nb (fun _ => ?_) (fun _ => ?_)
  | with_reducible refine wB_b (fun _ => ?_) (fun _ => ?_)
  | with_reducible refine wO_sub ?_
  | ((with_reducible apply wO_inS0); rfl)
  | ((with_reducible apply wO_inS1); rfl)
  | ((with_reducible apply wO_inD0); (first | assumption | exact app_get0 | exact app_get1 | exact app_get2 | exact List.getElem?_set_self (by assumption) | exact List.getElem?_set_self (by rw [List.length_set]; assumption) | (rw [List.getElem?_append_right (Nat.le_refl _), Nat.sub_self]; rfl) | exact getA0 (by assumption) | exact getA1 (by assumption)))
  | ((with_reducible apply wO_inD1); (first | assumption | exact app_get0 | exact app_get1 | exact app_get2 | exact List.getElem?_set_self (by assumption) | exact List.getElem?_set_self (by rw [List.length_set]; assumption) | (rw [List.getElem?_append_right (Nat.le_refl _), Nat.sub_self]; rfl) | exact getA0 (by assumption) | exact getA1 (by assumption)))
  | with_reducible refine wO_lt ?_
  | with_reducible refine wO_le ?_
  | with_reducible refine wO_gt ?_
  | with_reducible refine wO_ge ?_
  | with_reducible refine wO_add ?_
  | with_reducible refine wO_eqI ?_
  | with_reducible refine wO_neI ?_
  | with_reducible refine wO_isN ?_
  | with_reducible refine wO_notN ?_
  | with_reducible refine wC_lenL ?_
  | with_reducible refine wC_lenT ?_
  | with_reducible refine wC_int ?_
  | ((with_reducible apply wC_lenD); (first | assumption | exact app_get0 | exact app_get1 | exact app_get2 | exact List.getElem?_set_self (by assumption) | exact List.getElem?_set_self (by rw [List.length_set]; assumption) | (rw [List.getElem?_append_right (Nat.le_refl _), Nat.sub_self]; rfl) | exact getA0 (by assumption) | exact getA1 (by assumption)))
  | with_reducible refine wC_abs ?_
  | with_reducible refine wM_N ?_
  | with_reducible refine wM_Dm ?_
  | with_reducible refine wM_Tm ?_
  | ((with_reducible apply wM_T); rfl)
  | ((with_reducible apply wM_D); rfl)
  | (with_reducible refine Exists.intro _ (And.intro rfl ?_))
  | (with_reducible refine And.intro rfl ?_)
  | ((with_reducible refine And.intro (size_small ?_) ?_); rfl)
  | with_reducible refine wO_pow6 ?_
  | ((with_reducible refine wO_mulR ?_ ?_); decide)
  | ((with_reducible refine wO_mulL ?_ ?_); decide)
  | ((with_reducible refine wO_mod ?_ ?_); omega)
  | ((with_reducible refine wO_div ?_ ?_ ?_); omega; omega)
  | ((with_reducible apply wU_o); (first | assumption | exact app_get0 | exact app_get1 | exact app_get2 | exact List.getElem?_set_self (by assumption) | exact List.getElem?_set_self (by rw [List.length_set]; assumption) | (rw [List.getElem?_append_right (Nat.le_refl _), Nat.sub_self]; rfl) | exact getA0 (by assumption) | exact getA1 (by assumption)); rfl)
  | ((with_reducible apply wO_ixZ); (apply asSeq_o; (first | assumption | exact app_get0 | exact app_get1 | exact app_get2 | exact List.getElem?_set_self (by assumption) | exact List.getElem?_set_self (by rw [List.length_set]; assumption) | (rw [List.getElem?_append_right (Nat.le_refl _), Nat.sub_self]; rfl) | exact getA0 (by assumption) | exact getA1 (by assumption))); rfl))
/-! ### rows and tables -/
def rowL (r : List Int) : PyData := .list (r.map .int)
def rowT (r : List Int) : PyData := .tuple (r.map .int)
def tbL (T : List (List Int)) : PyData := .list (T.map rowL)
def tbT (T : List (List Int)) : PyData := .tuple (T.map rowT)
def at_ (T : List (List Int)) (x : Int) : List Int := (T[x.toNat]?).getD []
structure Tab (T : List (List Int)) : Prop where
  len : T.length ≤ 10
  rise : ∀ r ∈ T, r.Pairwise (· < ·)
  rng : ∀ r ∈ T, ∀ x ∈ r, 0 ≤ x ∧ x < T.length
  acy : ∃ rk : Int → Nat, (∀ x, rk x ≤ T.length) ∧ ∀ x y, y ∈ at_ T x → rk y < rk x
theorem at_nat {T : List (List Int)} {i : Nat} (h : i < T.length) : T[i]? = some (at_ T i) := by
  unfold at_
  rw [Int.toNat_natCast, List.getElem?_eq_getElem h]
  rfl
theorem at_int {T : List (List Int)} {x : Int} (h0 : 0 ≤ x) (h : x < T.length) : T[x.toNat]? = some (at_ T x) := by
  have h2 : x.toNat < T.length := by omega
  unfold at_
  rw [List.getElem?_eq_getElem h2]
  rfl
theorem at_mem {T : List (List Int)} {x y : Int} (h : y ∈ at_ T x) : at_ T x ∈ T := by
  unfold at_ at h ⊢
  cases e : T[x.toNat]? with
  | none =>
    rw [e] at h
    cases h
  | some r => exact List.mem_of_getElem? e
theorem map_map' (T : List (List Int)) : (T.map rowL).map VL.d = T.map fun r => VL.d (rowL r) := by
  rw [List.map_map]
  rfl
/-! ### rising rows -/
theorem risD_ints : ∀ (l : Option Int) (r : List Int), risD l (r.map .int) = decide ((match l with | none => r | some x => x :: r).Pairwise (· < ·))
  | none, [] => by simp [risD]
  | some x, [] => by simp [risD]
  | none, i :: r => by
    show risD (some i) (r.map .int) = _
    rw [risD_ints (some i) r]
  | some x, i :: r => by
    show (decide (x < i) && risD (some i) (r.map .int)) = _
    rw [risD_ints (some i) r]
    dsimp only
    by_cases h : x < i
    · rw [decide_eq_true h, Bool.true_and]
      congr 1
      refine propext ⟨fun hp => List.pairwise_cons.mpr ⟨fun y hy => ?_, hp⟩, fun hp => (List.pairwise_cons.mp hp).2⟩
      rcases List.mem_cons.mp hy with rfl | hy
      · exact h
      · exact Int.lt_trans h ((List.pairwise_cons.mp hp).1 y hy)
    · rw [decide_eq_false h, Bool.false_and]
      symm
      refine decide_eq_false fun hp => h ((List.pairwise_cons.mp hp).1 i List.mem_cons_self)
theorem risD_only : ∀ (l : Option Int) (ds : List PyData), risD l ds = true → ∃ r : List Int, ds = r.map .int
  | _, [], _ => ⟨[], rfl⟩
  | none, .int i :: ds, h => by
    obtain ⟨r, e⟩ := risD_only (some i) ds h
    exact ⟨i :: r, by rw [e]; rfl⟩
  | some x, .int i :: ds, h => by
    obtain ⟨r, e⟩ := risD_only (some i) ds (Bool.and_eq_true_iff.mp h).2
    exact ⟨i :: r, by rw [e]; rfl⟩
  | none, .none :: _, h | none, .bool _ :: _, h | none, .str _ :: _, h | none, .list _ :: _, h | none, .tuple _ :: _, h | none, .dict _ :: _, h => by cases h
  | some _, .none :: _, h | some _, .bool _ :: _, h | some _, .str _ :: _, h | some _, .list _ :: _, h | some _, .tuple _ :: _, h | some _, .dict _ :: _, h => by cases h
theorem risX_rowL {r : List Int} (h : r.Pairwise (· < ·)) : risX (rowL r) = true := by
  show risD none (r.map .int) = true
  rw [risD_ints]
  exact decide_eq_true h
/-! ### is_needs_row, is_ready -/
theorem needs_row_eq {r : List Int} {n : Nat} (hr : r.Pairwise (· < ·)) (hx : ∀ x ∈ r, 0 ≤ x ∧ x < n) (st : Sto) {Q : VL → Sto → Prop} (q : Q (.d (.bool true)) st) : wF m_is_needs_row [.d (rowL r), .d (.int n)] st Q := by
  refine wF_run ?_
  unfold c_is_needs_row
  repeat' wp_step
  refine wF_of (is_rising_eq _ _) ?_
  rw [risX_rowL hr]
  repeat' wp_step
  unfold rowL
  repeat' wp_step
  · exact q
  · cases r with
    | nil => rename_i h; exact absurd rfl h
    | cons y r =>
      refine wO_ix (i := 0) (k := false) rfl (z := .d (.int y)) rfl ?_
      repeat' wp_step
      · refine wO_ix1 (k := false) (z := .d (.int ((y :: r).getLast (by simp)))) rfl ?_ ?_
        · rw [List.getLast?_map, List.getLast?_map, List.getLast?_eq_some_getLast (by simp)]
          rfl
        · repeat' wp_step
          have h := (hx _ (List.getLast_mem (by simp : y :: r ≠ []))).2
          rw [decide_eq_true h]
          exact q
      · rename_i h
        exact absurd (hx y List.mem_cons_self).1 h
def has (kvs : List (Key × VL)) (x : Int) : Bool := (valL kvs (.inl x)).isSome
theorem is_ready_eq {r : List Int} {k : Nat} {kvs : List (Key × VL)} {st : Sto} (hk : st[k]? = some (.dk kvs)) {Q : VL → Sto → Prop} (q : Q (.d (.bool (r.all (has kvs)))) st) : wF m_is_ready [.d (rowL r), .o k] st Q := by
  refine wF_run ?_
  unfold c_is_ready
  refine wS_seq ?_
  refine wS_forV (fun x : Int => .d (.int x)) r ?_
  wp_step
  refine ⟨r.map .int, .inl rfl, by rw [List.map_map]; rfl, ?_⟩
  refine wL_all (has kvs) (fun env => ∃ nb, env = [some (.d (rowL r)), some (.o k), nb]) ⟨_, rfl⟩ (fun x env hx he => ?_) (fun h e2 he => ?_) (fun h => ?_)
  · obtain ⟨nb, rfl⟩ := he
    refine ⟨_, rfl, ?_⟩
    unfold c_is_ready_B0
    repeat' wp_step
    · exact .inr ⟨by assumption, rfl⟩
    · exact .inl ⟨by assumption, _, rfl, _, rfl⟩
  · repeat' wp_step
    rw [h] at q
    exact q
  · repeat' wp_step
    rw [h] at q
    exact q
end K75
set_option Elab.async false
set_option linter.all false
set_option autoImplicit false
set_option maxRecDepth 100000
set_option maxHeartbeats 1000000
namespace K75
open PySem PySem.Spec PyProof.Rows L2 Sl
local macro_rules | `(tactic| wp_step) => `(tactic| first
  | with_reducible refine wS_seq ?_
  | with_reducible refine seqK_nx ?_
  | with_reducible refine seqK_rt ?_
  | with_reducible refine seqK_bk ?_
  | with_reducible refine seqK_ct ?_
  | with_reducible refine fnQ_nx ?_
  | with_reducible refine fnQ_rt ?_
  | with_reducible refine turn_nx ?_
  | with_reducible refine turn_ct ?_
  | with_reducible refine turn_bk ?_
  | with_reducible refine turn_rt ?_
  | with_reducible refine wS_if ?_
  | with_reducible refine wS_set ?_
  | with_reducible refine wS_asg ?_
  | with_reducible refine wS_ret ?_
  | with_reducible refine wS_drop ?_
  | with_reducible refine wS_nx ?_
  | with_reducible refine wS_bk ?_
  | with_reducible refine wS_ct ?_
  | with_reducible refine wS_forS ?_
  | with_reducible refine wS_for1 ?_
  | with_reducible refine wS_setL ?_
  | with_reducible refine wS_dputK ?_
  | with_reducible refine wE_op ?_
  | with_reducible refine wE_c ?_
  | ((with_reducible apply wE_var); rfl)
  | with_reducible refine wE_call ?_
  | with_reducible refine wE_cb ?_
  | with_reducible refine wE_and ?_
  | with_reducible refine wE_or ?_
  | with_reducible refine wE_not ?_
  | with_reducible refine wE_if ?_
  | with_reducible refine wE_isi ?_
  | with_reducible refine wE_chain ?_
  | with_reducible refine wE_neg ?_
  | with_reducible refine wE_lst ?_
  | with_reducible refine wE_tup ?_
  | with_reducible refine wE_frz ?_
  | with_reducible refine wE_append ?_
  | with_reducible refine wE_sl ?_
  | with_reducible refine wE_rev ?_
  | with_reducible refine wE_dnew ?_
  | with_reducible refine wZ_d ?_
  | ((with_reducible apply isO_o); (first | assumption | exact app_get0 | exact app_get1 | exact app_get2 | exact List.getElem?_set_self (by assumption) | exact List.getElem?_set_self (by rw [List.length_set]; assumption) | (rw [List.getElem?_append_right (Nat.le_refl _), Nat.sub_self]; rfl) | exact getA0 (by assumption) | exact getA1 (by assumption)))
  | ((with_reducible apply wApp_o); (first | assumption | exact app_get0 | exact app_get1 | exact app_get2 | exact List.getElem?_set_self (by assumption) | exact List.getElem?_set_self (by rw [List.length_set]; assumption) | (rw [List.getElem?_append_right (Nat.le_refl _), Nat.sub_self]; rfl) | exact getA0 (by assumption) | exact getA1 (by assumption)))
  | ((with_reducible apply wD_o); (first | assumption | exact app_get0 | exact app_get1 | exact app_get2 | exact List.getElem?_set_self (by assumption) | exact List.getElem?_set_self (by rw [List.length_set]; assumption) | (rw [List.getElem?_append_right (Nat.le_refl _), Nat.sub_self]; rfl) | exact getA0 (by assumption) | exact getA1 (by assumption)))
  | ((with_reducible apply wZ_o); (first | assumption | exact app_get0 | exact app_get1 | exact app_get2 | exact List.getElem?_set_self (by assumption) | exact List.getElem?_set_self (by rw [List.length_set]; assumption) | (rw [List.getElem?_append_right (Nat.le_refl _), Nat.sub_self]; rfl) | exact getA0 (by assumption) | exact getA1 (by assumption)); exact allD_map' _)
  | with_reducible refine wE_rep ?_
  | with_reducible refine wE_sortSet ?_
  | with_reducible refine wE_lenSet ?_
  | with_reducible refine wE_comp1 ?_
  | with_reducible refine wE_compS ?_
  | with_reducible refine wP_none ?_
  | with_reducible refine wP_some ?_
  | with_reducible refine wA_nil ?_
  | with_reducible refine wA_cons ?_
  | with_reducible refine wA_app ?_
  | with_reducible refine wB_t ?_
  | with_reducible refine wB_f ?_
  | with_reducible refine wB_nt ?_
  | with_reducible refine wB_nf ?_
  | with_reducible refine wB_dec (fun _ => ?_) (fun _ => ?_)
  | with_reducible refine wB_not (fun _ => ?_) (fun _ => ?_)
  | with_reducible refine wB_nb (fun _ => ?_) (fun _ => ?_)
  | with_reducible refine wB_b (fun _ => ?_) (fun _ => ?_)
  | with_reducible refine wO_sub ?_
  | ((with_reducible apply wO_inS0); rfl)
  | ((with_reducible apply wO_inS1); rfl)
  | ((with_reducible apply wO_inD0); (first | assumption | exact app_get0 | exact app_get1 | exact app_get2 | exact List.getElem?_set_self (by assumption) | exact List.getElem?_set_self (by rw [List.length_set]; assumption) | (rw [List.getElem?_append_right (Nat.le_refl _), Nat.sub_self]; rfl) | exact getA0 (by assumption) | exact getA1 (by assumption)))
  | ((with_reducible apply wO_inD1); (first | assumption | exact app_get0 | exact app_get1 | exact app_get2 | exact List.getElem?_set_self (by assumption) | exact List.getElem?_set_self (by rw [List.length_set]; assumption) | (rw [List.getElem?_append_right (Nat.le_refl _), Nat.sub_self]; rfl) | exact getA0 (by assumption) | exact getA1 (by assumption)))
  | with_reducible refine wO_lt ?_
  | with_reducible refine wO_le ?_
  | with_reducible refine wO_gt ?_
  | with_reducible refine wO_ge ?_
  | with_reducible refine wO_add ?_
  | with_reducible refine wO_eqI ?_
  | with_reducible refine wO_neI ?_
  | with_reducible refine wO_isN ?_
  | with_reducible refine wO_notN ?_
  | with_reducible refine wC_lenL ?_
  | with_reducible refine wC_lenT ?_
  | with_reducible refine wC_int ?_
  | ((with_reducible apply wC_lenD); (first | assumption | exact app_get0 | exact app_get1 | exact app_get2 | exact List.getElem?_set_self (by assumption) | exact List.getElem?_set_self (by rw [List.length_set]; assumption) | (rw [List.getElem?_append_right (Nat.le_refl _), Nat.sub_self]; rfl) | exact getA0 (by assumption) | exact getA1 (by assumption)))
  | with_reducible refine wC_abs ?_
  | with_reducible refine wM_N ?_
  | with_reducible refine wM_Dm ?_
  | with_reducible refine wM_Tm ?_
  | ((with_reducible apply wM_T); rfl)
  | ((with_reducible apply wM_D); rfl)
  | (with_reducible refine Exists.intro _ (And.intro rfl ?_))
  | (with_reducible refine And.intro rfl ?_)
  | ((with_reducible refine And.intro (size_small ?_) ?_); rfl)
  | with_reducible refine wO_pow6 ?_
  | ((with_reducible refine wO_mulR ?_ ?_); decide)
  | ((with_reducible refine wO_mulL ?_ ?_); decide)
  | ((with_reducible refine wO_mod ?_ ?_); omega)
  | ((with_reducible refine wO_div ?_ ?_ ?_); omega; omega)
  | ((with_reducible apply wU_o); (first | assumption | exact app_get0 | exact app_get1 | exact app_get2 | exact List.getElem?_set_self (by assumption) | exact List.getElem?_set_self (by rw [List.length_set]; assumption) | (rw [List.getElem?_append_right (Nat.le_refl _), Nat.sub_self]; rfl) | exact getA0 (by assumption) | exact getA1 (by assumption)); rfl)
  | ((with_reducible apply wO_ixZ); (apply asSeq_o; (first | assumption | exact app_get0 | exact app_get1 | exact app_get2 | exact List.getElem?_set_self (by assumption) | exact List.getElem?_set_self (by rw [List.length_set]; assumption) | (rw [List.getElem?_append_right (Nat.le_refl _), Nat.sub_self]; rfl) | exact getA0 (by assumption) | exact getA1 (by assumption))); rfl))
/-! ### order_of -/
def kvO (o : List Nat) : List (Key × VL) := o.map fun (x : Nat) => (.inl (x : Int), .d (.bool true))
def zO (o : List Nat) : List Int := o.map fun (x : Nat) => (x : Int)
def natD (o : List Nat) : List PyData := (zO o).map .int
theorem mem_zO {o : List Nat} {x : Nat} : (x : Int) ∈ zO o ↔ x ∈ o := by
  unfold zO
  rw [List.mem_map]
  refine ⟨fun ⟨y, hy, e⟩ => ?_, fun h => ⟨x, h, rfl⟩⟩
  have : y = x := by omega
  exact this ▸ hy
theorem natD_len (o : List Nat) : (natD o).length = o.length := by
  unfold natD zO
  rw [List.length_map, List.length_map]
theorem has_kvO (o : List Nat) (x : Nat) : has (kvO o) (x : Int) = decide (x ∈ o) := by
  unfold has valL kvO
  rw [Option.isSome_map, List.isSome_find?, List.any_map]
  induction o with
  | nil => rfl
  | cons y o ih =>
    rw [List.any_cons, ih]
    by_cases e : y = x
    · subst e
      simp
    · have e' : ¬ x = y := fun h => e h.symm
      have e4 : ¬ (y : Int) = (x : Int) := by omega
      simp [e, e', e4]
theorem kvO_put (o : List Nat) (x : Nat) (h : x ∉ o) : putL (kvO o) (.inl (x : Int)) (.d (.bool true)) = kvO (o ++ [x]) := by
  unfold putL
  rw [if_neg]
  · unfold kvO
    rw [List.map_append]
    rfl
  · intro he
    obtain ⟨p, hp, e⟩ := List.any_eq_true.mp he
    obtain ⟨y, hy, rfl⟩ := List.mem_map.mp hp
    have e2 : (Sum.inl (y : Int) : Key) = Sum.inl (x : Int) := of_decide_eq_true e
    have e3 : (y : Int) = (x : Int) := Sum.inl.inj e2
    have : y = x := by omega
    exact h (this ▸ hy)
structure Topo (T : List (List Int)) (o : List Nat) : Prop where
  nd : o.Nodup
  rg : ∀ x ∈ o, x < T.length
  dn : ∀ (a : List Nat) (x : Nat) (b : List Nat), o = a ++ x :: b → ∀ y ∈ at_ T x, y.toNat ∈ a
theorem Topo.nil (T : List (List Int)) : Topo T [] where
  nd := List.nodup_nil
  rg := fun _ h => by cases h
  dn := fun a x b e => by cases a <;> cases e
theorem Topo.snoc {T : List (List Int)} {o : List Nat} (h : Topo T o) {x : Nat} (hx : x < T.length) (hn : x ∉ o) (hd : ∀ y ∈ at_ T x, y.toNat ∈ o) : Topo T (o ++ [x]) where
  nd := by
    rw [List.nodup_append]
    exact ⟨h.nd, by simp, fun a ha b hb => by
      rw [List.mem_singleton] at hb
      subst hb
      exact fun e => hn (e ▸ ha)⟩
  rg := fun y hy => by
    rcases List.mem_append.mp hy with hy | hy
    · exact h.rg y hy
    · rw [List.mem_singleton] at hy
      subst hy
      exact hx
  dn := fun a z b e => by
    rcases List.eq_nil_or_concat b with rfl | ⟨b', w, rfl⟩
    · have e2 := List.append_inj' e rfl
      obtain ⟨rfl, e3⟩ := e2
      cases e3
      exact hd
    · rw [List.concat_eq_append, ← List.cons_append, ← List.append_assoc] at e
      obtain ⟨e2, _⟩ := List.append_inj' e rfl
      exact h.dn a z b' e2
theorem ready_ex {T : List (List Int)} (hT : Tab T) {o : List Nat} (hl : o.length < T.length) : ∃ x, x < T.length ∧ x ∉ o ∧ ∀ y ∈ at_ T x, y.toNat ∈ o := by
  obtain ⟨rk, _, hrk⟩ := hT.acy
  have key : ∀ m, ∀ x : Nat, x < T.length → x ∉ o → rk x ≤ m → ∃ x, x < T.length ∧ x ∉ o ∧ ∀ y ∈ at_ T x, y.toNat ∈ o := by
    intro m
    induction m with
    | zero =>
      intro x hx hn hm
      exact ⟨x, hx, hn, fun y hy => absurd (hrk x y hy) (by omega)⟩
    | succ m ih =>
      intro x hx hn hm
      by_cases hd : ∀ y ∈ at_ T x, y.toNat ∈ o
      · exact ⟨x, hx, hn, hd⟩
      · obtain ⟨y, hy⟩ := Classical.not_forall.mp hd
        obtain ⟨hy, hyo⟩ := Classical.not_imp.mp hy
        have hr := hT.rng _ (at_mem hy) y hy
        have e : ((y.toNat : Nat) : Int) = y := Int.toNat_of_nonneg hr.1
        have := hrk x y hy
        exact ih y.toNat (by omega) hyo (by rw [e]; omega)
  obtain ⟨x, hx, hn⟩ := some_out hl
  exact key _ x hx hn (Nat.le_refl _)
def rdy (T : List (List Int)) (o : List Nat) (x : Nat) : Bool := !decide (x ∈ o) && (at_ T x).all (has (kvO o))
theorem rdy_ok {T : List (List Int)} (hT : Tab T) {o : List Nat} {x : Nat} : rdy T o x = true ↔ x ∉ o ∧ ∀ y ∈ at_ T x, y.toNat ∈ o := by
  unfold rdy
  rw [Bool.and_eq_true, List.all_eq_true]
  refine and_congr (by simp) (forall_congr' fun y => forall_congr' fun hy => ?_)
  have hr := hT.rng _ (at_mem hy) y hy
  have e : ((y.toNat : Nat) : Int) = y := Int.toNat_of_nonneg hr.1
  rw [← e, has_kvO, Int.toNat_natCast]
  simp
theorem ix_tb {T : List (List Int)} {st : Sto} {x : Nat} (hx : x < T.length) {Q : VL → Sto → Prop} (q : Q (.d (rowL (at_ T x))) st) : wO oIx st (.d (tbL T)) (.d (.int (x : Int))) Q := by
  refine wO_ix (k := false) (xs := (T.map rowL).map .d) rfl (z := .d (rowL (at_ T x))) ?_ q
  rw [List.getElem?_map, List.getElem?_map, at_nat hx]
  rfl
theorem lenT {T : List (List Int)} {st : Sto} {Q : VL → Sto → Prop} (q : Q (.d (.int (T.length : Nat))) st) : wC cLen st [.d (tbL T)] Q := by
  unfold tbL
  refine wC_lenL ?_
  rw [List.length_map]
  exact q
theorem order_of_wp {T : List (List Int)} (hT : Tab T) {st : Sto} {Q : VL → Sto → Prop} (q : ∀ o, Topo T o → o.length = T.length → Q (.d (.list (natD o))) st) : wF m_order_of [.d (tbL T)] st Q := by
  refine wF_cut (wF_run ?_)
  unfold c_order_of
  repeat' wp_step
  have e1 : st ++ [Ob.lst []] ++ [if false = true then Ob.dt [] else Ob.dk []] = st ++ [.lst ((natD []).map .d), .dk (kvO [])] := by simp [natD, zO, kvO]
  have e2 : (st ++ [Ob.lst []]).length = st.length + 1 := by simp
  rw [e1, e2]
  refine ⟨T.map rowL, .inl rfl, wL_inv (v := VL.d) (xs := T.map rowL) (fun i env st' => ∃ o nb rd tk, o.length = i ∧ Topo T o ∧ env = [some (.d (tbL T)), some (.o st.length), some (.o (st.length + 1)), nb, rd, tk] ∧ st' = st ++ [.lst ((natD o).map .d), .dk (kvO o)])
    ⟨[], none, none, none, rfl, Topo.nil T, rfl, rfl⟩ (fun i a env st' ha hI => ?_) (fun env st' hI => ?_)⟩
  · obtain ⟨o, nb, rd, tk, hl, ht, rfl, rfl⟩ := hI
    have hi : i < T.length := by
      have := (List.getElem?_eq_some_iff.mp ha).1
      rwa [List.length_map] at this
    refine ⟨_, rfl, ?_⟩
    unfold c_order_of_B2
    repeat' wp_step
    refine lenT ?_
    repeat' wp_step
    refine ⟨(show T.length < 2 ^ 62 from Nat.lt_of_le_of_lt hT.len (by decide)), _, _, comp_pure (v := fun (i : Nat) => VL.d (.int (i : Int))) (rdy T o) (fun x => .d (.int (x : Int))) (by rw [List.length_range]; exact size_le (Nat.le_trans hT.len (by decide))) (fun x hx => ?_), ?_⟩
    · have hx := List.mem_range.mp hx
      refine ⟨_, rfl, ?_, fun _ => ?_⟩
      · unfold c_order_of_T0
        repeat' wp_step
        · have h : has (kvO o) (x : Int) = false := by assumption
          refine ix_tb hx ?_
          repeat' wp_step
          refine is_ready_eq app_get1 ⟨?_, rfl⟩
          rw [has_kvO] at h
          unfold rdy
          rw [h]
          rfl
        · have h : has (kvO o) (x : Int) = true := by assumption
          rw [has_kvO] at h
          refine ⟨?_, rfl⟩
          unfold rdy
          rw [h]
          rfl
      · unfold c_order_of_E1
        repeat' wp_step
        exact rfl
    · have em : ((List.range T.length).filter (rdy T o)).map (fun (x : Nat) => VL.d (.int (x : Int))) = (natD ((List.range T.length).filter (rdy T o))).map VL.d := by
        unfold natD zO
        rw [List.map_map, List.map_map]
        rfl
      rw [em]
      repeat' wp_step
      · rename_i h0
        obtain ⟨x, hx, hn, hd⟩ := ready_ex hT (o := o) (by omega)
        have : x ∈ (List.range T.length).filter (rdy T o) := List.mem_filter.mpr ⟨List.mem_range.mpr hx, (rdy_ok hT).mpr ⟨hn, hd⟩⟩
        have hp := List.length_pos_of_mem this
        rw [natD_len] at h0
        omega
      · cases hf : (List.range T.length).filter (rdy T o) with
        | nil =>
          rename_i h0
          rw [hf] at h0
          exact absurd rfl h0
        | cons x r =>
          have hm : x ∈ (List.range T.length).filter (rdy T o) := by rw [hf]; exact List.mem_cons_self
          obtain ⟨h1, h2⟩ := List.mem_filter.mp hm
          obtain ⟨h3, h4⟩ := (rdy_ok hT).mp h2
          have hx := List.mem_range.mp h1
          have hol : o.length < 1000 := by
            have := hT.len
            omega
          refine wO_ix (i := 0) (k := false) (z := .d (.int (x : Int))) rfl rfl ?_
          repeat' wp_step
          · refine size_lt ?_
            rw [List.length_map, natD_len]
            exact hol
          · refine wO_ix (i := 0) (k := false) (z := .d (.int (x : Int))) rfl rfl ?_
            rw [app_set0]
            repeat' wp_step
            · refine size_lt ?_
              unfold kvO
              rw [List.length_map]
              exact hol
            · rw [app_set1, kvO_put o x h3]
              refine ⟨o ++ [x], _, _, _, by rw [List.length_append, hl]; rfl, ht.snoc hx h3 h4, rfl, ?_⟩
              unfold natD zO
              rw [List.map_append, List.map_append, List.map_append]
              rfl
  · obtain ⟨o, nb, rd, tk, hl, ht, rfl, rfl⟩ := hI
    rw [List.length_map] at hl
    repeat' wp_step
    rw [app_set0]
    exact ⟨cutOk_app _ _, by rw [take_app]; exact q o ht hl⟩
end K75
set_option Elab.async false
set_option linter.all false
set_option autoImplicit false
set_option maxRecDepth 100000
set_option maxHeartbeats 1000000
namespace K75
open PySem PySem.Spec PyProof.Rows L2 Sl
local macro_rules | `(tactic| wp_step) => `(tactic| first
  | with_reducible refine wS_seq ?_
  | with_reducible refine seqK_nx ?_
  | with_reducible refine seqK_rt ?_
  | with_reducible refine seqK_bk ?_
  | with_reducible refine seqK_ct ?_
  | with_reducible refine fnQ_nx ?_
  | with_reducible refine fnQ_rt ?_
  | with_reducible refine turn_nx ?_
  | with_reducible refine turn_ct ?_
  | with_reducible refine turn_bk ?_
  | with_reducible refine turn_rt ?_
  | with_reducible refine wS_if ?_
  | with_reducible refine wS_set ?_
  | with_reducible refine wS_asg ?_
  | with_reducible refine wS_ret ?_
  | with_reducible refine wS_drop ?_
  | with_reducible refine wS_nx ?_
  | with_reducible refine wS_bk ?_
  | with_reducible refine wS_ct ?_
  | with_reducible refine wS_forS ?_
  | with_reducible refine wS_for1 ?_
  | with_reducible refine wS_setL ?_
  | with_reducible refine wS_dputK ?_
  | with_reducible refine wE_op ?_
  | with_reducible refine wE_c ?_
  | ((with_reducible apply wE_var); rfl)
  | with_reducible refine wE_call ?_
  | with_reducible refine wE_cb ?_
  | with_reducible refine wE_and ?_
  | with_reducible refine wE_or ?_
  | with_reducible refine wE_not ?_
  | with_reducible refine wE_if ?_
  | with_reducible refine wE_isi ?_
  | with_reducible refine wE_chain ?_
  | with_reducible refine wE_neg ?_
  | with_reducible refine wE_lst ?_
  | with_reducible refine wE_tup ?_
  | with_reducible refine wE_frz ?_
  | with_reducible refine wE_append ?_
  | with_reducible refine wE_sl ?_
  | with_reducible refine wE_rev ?_
  | with_reducible refine wE_dnew ?_
  | with_reducible refine wZ_d ?_
  | ((with_reducible apply isO_o); (first | assumption | exact app_get0 | exact app_get1 | exact app_get2 | exact List.getElem?_set_self (by assumption) | exact List.getElem?_set_self (by rw [List.length_set]; assumption) | (rw [List.getElem?_append_right (Nat.le_refl _), Nat.sub_self]; rfl) | exact getA0 (by assumption) | exact getA1 (by assumption)))
  | ((with_reducible apply wApp_o); (first | assumption | exact app_get0 | exact app_get1 | exact app_get2 | exact List.getElem?_set_self (by assumption) | exact List.getElem?_set_self (by rw [List.length_set]; assumption) | (rw [List.getElem?_append_right (Nat.le_refl _), Nat.sub_self]; rfl) | exact getA0 (by assumption) | exact getA1 (by assumption)))
  | ((with_reducible apply wD_o); (first | assumption | exact app_get0 | exact app_get1 | exact app_get2 | exact List.getElem?_set_self (by assumption) | exact List.getElem?_set_self (by rw [List.length_set]; assumption) | (rw [List.getElem?_append_right (Nat.le_refl _), Nat.sub_self]; rfl) | exact getA0 (by assumption) | exact getA1 (by assumption)))
  | ((with_reducible apply wZ_o); (first | assumption | exact app_get0 | exact app_get1 | exact app_get2 | exact List.getElem?_set_self (by assumption) | exact List.getElem?_set_self (by rw [List.length_set]; assumption) | (rw [List.getElem?_append_right (Nat.le_refl _), Nat.sub_self]; rfl) | exact getA0 (by assumption) | exact getA1 (by assumption)); exact allD_map' _)
  | with_reducible refine wE_rep ?_
  | with_reducible refine wE_sortSet ?_
  | with_reducible refine wE_lenSet ?_
  | with_reducible refine wE_comp1 ?_
  | with_reducible refine wE_compS ?_
  | with_reducible refine wP_none ?_
  | with_reducible refine wP_some ?_
  | with_reducible refine wA_nil ?_
  | with_reducible refine wA_cons ?_
  | with_reducible refine wA_app ?_
  | with_reducible refine wB_t ?_
  | with_reducible refine wB_f ?_
  | with_reducible refine wB_nt ?_
  | with_reducible refine wB_nf ?_
  | with_reducible refine wB_dec (fun _ => ?_) (fun _ => ?_)
  | with_reducible refine wB_not (fun _ => ?_) (fun _ => ?_)
  | with_reducible refine wB_nb (fun _ => ?_) (fun _ => ?_)
  | with_reducible refine wB_b (fun _ => ?_) (fun _ => ?_)
  | with_reducible refine wO_sub ?_
  | ((with_reducible apply wO_inS0); rfl)
  | ((with_reducible apply wO_inS1); rfl)
  | ((with_reducible apply wO_inD0); (first | assumption | exact app_get0 | exact app_get1 | exact app_get2 | exact List.getElem?_set_self (by assumption) | exact List.getElem?_set_self (by rw [List.length_set]; assumption) | (rw [List.getElem?_append_right (Nat.le_refl _), Nat.sub_self]; rfl) | exact getA0 (by assumption) | exact getA1 (by assumption)))
  | ((with_reducible apply wO_inD1); (first | assumption | exact app_get0 | exact app_get1 | exact app_get2 | exact List.getElem?_set_self (by assumption) | exact List.getElem?_set_self (by rw [List.length_set]; assumption) | (rw [List.getElem?_append_right (Nat.le_refl _), Nat.sub_self]; rfl) | exact getA0 (by assumption) | exact getA1 (by assumption)))
  | with_reducible refine wO_lt ?_
  | with_reducible refine wO_le ?_
  | with_reducible refine wO_gt ?_
  | with_reducible refine wO_ge ?_
  | with_reducible refine wO_add ?_
  | with_reducible refine wO_eqI ?_
  | with_reducible refine wO_neI ?_
  | with_reducible refine wO_isN ?_
  | with_reducible refine wO_notN ?_
  | with_reducible refine wC_lenL ?_
  | with_reducible refine wC_lenT ?_
  | with_reducible refine wC_int ?_
  | ((with_reducible apply wC_lenD); (first | assumption | exact app_get0 | exact app_get1 | exact app_get2 | exact List.getElem?_set_self (by assumption) | exact List.getElem?_set_self (by rw [List.length_set]; assumption) | (rw [List.getElem?_append_right (Nat.le_refl _), Nat.sub_self]; rfl) | exact getA0 (by assumption) | exact getA1 (by assumption)))
  | with_reducible refine wC_abs ?_
  | with_reducible refine wM_N ?_
  | with_reducible refine wM_Dm ?_
  | with_reducible refine wM_Tm ?_
  | ((with_reducible apply wM_T); rfl)
  | ((with_reducible apply wM_D); rfl)
  | (with_reducible refine Exists.intro _ (And.intro rfl ?_))
  | (with_reducible refine And.intro rfl ?_)
  | ((with_reducible refine And.intro (size_small ?_) ?_); rfl)
  | with_reducible refine wO_pow6 ?_
  | ((with_reducible refine wO_mulR ?_ ?_); decide)
  | ((with_reducible refine wO_mulL ?_ ?_); decide)
  | ((with_reducible refine wO_mod ?_ ?_); omega)
  | ((with_reducible refine wO_div ?_ ?_ ?_); omega; omega)
  | ((with_reducible apply wU_o); (first | assumption | exact app_get0 | exact app_get1 | exact app_get2 | exact List.getElem?_set_self (by assumption) | exact List.getElem?_set_self (by rw [List.length_set]; assumption) | (rw [List.getElem?_append_right (Nat.le_refl _), Nat.sub_self]; rfl) | exact getA0 (by assumption) | exact getA1 (by assumption)); rfl)
  | ((with_reducible apply wO_ixZ); (apply asSeq_o; (first | assumption | exact app_get0 | exact app_get1 | exact app_get2 | exact List.getElem?_set_self (by assumption) | exact List.getElem?_set_self (by rw [List.length_set]; assumption) | (rw [List.getElem?_append_right (Nat.le_refl _), Nat.sub_self]; rfl) | exact getA0 (by assumption) | exact getA1 (by assumption))); rfl))
/-! ### check_table -/
theorem at_memT {T : List (List Int)} {x : Nat} (h : x < T.length) : at_ T x ∈ T := List.mem_of_getElem? (at_nat h)
theorem check_table_wp {T : List (List Int)} (hT : Tab T) {st : Sto} {Q : VL → Sto → Prop} (q : Q (.d .none) st) : wF m_check_table [.d (tbL T)] st Q := by
  have hlen := hT.len
  have h62 : T.length < 2 ^ 62 := Nat.lt_of_le_of_lt hT.len (by decide)
  refine wF_run ?_
  unfold c_check_table
  repeat' wp_step
  refine lenT ?_
  repeat' wp_step
  · exfalso; omega
  · refine lenT ?_
    repeat' wp_step
    refine ⟨h62, wL_inv (v := fun (i : Nat) => VL.d (.int (i : Int))) (fun i env st' => ∃ a b, env = [some (.d (tbL T)), a, b] ∧ st = st') ⟨_, _, rfl, rfl⟩ (fun i a env st' ha hI => ?_) (fun env st' hI => ?_)⟩
    · obtain ⟨a1, b1, rfl, rfl⟩ := hI
      obtain ⟨hi, e⟩ := List.getElem?_eq_some_iff.mp ha
      rw [List.length_range] at hi
      rw [List.getElem_range] at e
      subst e
      refine ⟨_, rfl, ?_⟩
      unfold c_check_table_B1
      repeat' wp_step
      refine ix_tb hi ?_
      repeat' wp_step
      refine lenT ?_
      repeat' wp_step
      refine needs_row_eq (hT.rise _ (at_memT hi)) (hT.rng _ (at_memT hi)) _ ?_
      repeat' wp_step
      exact ⟨_, _, rfl, rfl⟩
    · obtain ⟨a1, b1, rfl, rfl⟩ := hI
      repeat' wp_step
      refine order_of_wp hT fun o ho hl => ?_
      repeat' wp_step
      refine lenT ?_
      repeat' wp_step
      refine ⟨h62, wL_inv (v := fun (i : Nat) => VL.d (.int (i : Int))) (fun i env st' => ∃ a, env = [some (.d (tbL T)), a, some (.d (.list (natD o)))] ∧ st = st') ⟨_, rfl, rfl⟩ (fun i a env st' ha hI => ?_) (fun env st' hI => ?_)⟩
      · obtain ⟨a1, rfl, rfl⟩ := hI
        obtain ⟨hi, e⟩ := List.getElem?_eq_some_iff.mp ha
        rw [List.length_range] at hi
        rw [List.getElem_range] at e
        subst e
        refine ⟨_, rfl, ?_⟩
        unfold c_check_table_B0
        repeat' wp_step
        · rename_i h
          exact absurd (mem_zO.mpr (all_in ho.nd ho.rg (by omega) hi)) h
        · exact rfl
      · obtain ⟨a1, rfl, rfl⟩ := hI
        exact q
/-! ### union -/
theorem union_wp {a b : List Int} (hl : a.length + b.length < 64) {st : Sto} {Q : VL → Sto → Prop} (q : Q (.d (rowT (sortU (a ++ b)))) st) : wF m_union [.d (rowT a), .d (rowT b)] st Q := by
  refine wF_run ?_
  unfold c_union
  repeat' wp_step
  refine wC_list (k := true) (by rfl) ?_
  repeat' wp_step
  refine wC_list (k := true) (by rfl) ?_
  repeat' wp_step
  refine wO_addD (size_le (by rw [List.length_map, List.length_map]; omega)) ?_
  rw [← List.map_append]
  refine ⟨a ++ b, rfl, by have := sortU_length (a ++ b); rw [List.length_append] at *; omega, ?_⟩
  repeat' wp_step
  refine wC_tuple (k := false) (by rfl) ?_
  repeat' wp_step
  exact q
/-! ### all_needs -/
structure Clo (T N : List (List Int)) (p : List Nat) : Prop where
  len : N.length = T.length
  rise : ∀ x ∈ p, (at_ N x).Pairwise (· < ·)
  rng : ∀ x ∈ p, ∀ j ∈ at_ N x, 0 ≤ j ∧ j < T.length
  mem : ∀ x ∈ p, ∀ j, j ∈ at_ N x ↔ j ∈ at_ T x ∨ ∃ k ∈ at_ T x, j ∈ at_ N k
theorem at_set {N : List (List Int)} {x : Nat} {r : List Int} (h : x < N.length) (y : Int) (hy : 0 ≤ y) : at_ (N.set x r) y = if y = x then r else at_ N y := by
  unfold at_
  by_cases e : y = x
  · rw [if_pos e, e, Int.toNat_natCast, List.getElem?_set_self h]
    rfl
  · rw [if_neg e, List.getElem?_set_ne (by omega)]
theorem at_repl (n : Nat) (x : Int) : at_ (List.replicate n []) x = [] := by
  unfold at_
  cases e : (List.replicate n ([] : List Int))[x.toNat]? with
  | none => rfl
  | some r =>
    have := List.mem_of_getElem? e
    rw [List.mem_replicate] at this
    exact this.2
theorem at_in {T : List (List Int)} (hT : Tab T) {x y : Int} (h : y ∈ at_ T x) : 0 ≤ y ∧ y < T.length := hT.rng _ (at_mem h) y h
/-- what is found for a task, behind the first needs of its row -/
structure Fnd (N : List (List Int)) (n : Nat) (ks F : List Int) : Prop where
  rise : F.Pairwise (· < ·)
  rng : ∀ j ∈ F, 0 ≤ j ∧ j < n
  mem : ∀ j, j ∈ F ↔ ∃ k ∈ ks, j = k ∨ j ∈ at_ N k
theorem all_needs_wp {T : List (List Int)} (hT : Tab T) {st : Sto} {Q : VL → Sto → Prop} (q : ∀ N, Clo T N (List.range T.length) → Q (.d (tbT N)) st) : wF m_all_needs [.d (tbL T)] st Q := by
  have hlen := hT.len
  refine wF_cut (wF_run ?_)
  unfold c_all_needs
  repeat' wp_step
  refine check_table_wp hT ?_
  repeat' wp_step
  refine lenT ?_
  repeat' wp_step
  refine ⟨by omega, size_le (by simp; omega), ?_⟩
  repeat' wp_step
  have e1 : (List.replicate T.length [VL.d (.tuple [])]).flatten = ((List.replicate T.length ([] : List Int)).map rowT).map VL.d := by
    rw [List.map_replicate, List.map_replicate]
    induction T.length with
    | zero => rfl
    | succ n ih => rw [List.replicate_succ, List.flatten_cons, ih]; rfl
  rw [e1]
  refine order_of_wp hT fun o ho hl => ?_
  repeat' wp_step
  refine ⟨_, .inl rfl, ?_⟩
  have e2 : (natD o).map VL.d = o.map fun (x : Nat) => VL.d (.int (x : Int)) := by
    unfold natD zO
    rw [List.map_map, List.map_map]
    rfl
  rw [e2]
  refine wL_inv (v := fun (x : Nat) => VL.d (.int (x : Int))) (fun i env st' => ∃ N a b c, Clo T N (o.take i) ∧ env = [some (.d (tbL T)), some (.o st.length), a, b, c] ∧ st' = st ++ [.lst ((N.map rowT).map VL.d)])
    ⟨_, _, _, _, ⟨by rw [List.length_replicate], (fun x hx => by cases hx), (fun x hx => by cases hx), (fun x hx => by cases hx)⟩, rfl, rfl⟩ (fun i x env st' hx hI => ?_) (fun env st' hI => ?_)
  · obtain ⟨N, a, b, c, hC, rfl, rfl⟩ := hI
    obtain ⟨hi, hxe⟩ := List.getElem?_eq_some_iff.mp hx
    have hso : o = o.take i ++ x :: o.drop (i + 1) := by
      rw [← hxe, List.getElem_cons_drop, List.take_append_drop]
    have hxT : x < T.length := ho.rg x (by rw [hso]; simp)
    have hdn := ho.dn _ _ _ hso
    have hnx : x ∉ o.take i := by
      have := ho.nd
      rw [hso, List.nodup_append] at this
      exact fun h => this.2.2 x h x (by simp) rfl
    have hNl := hC.len
    refine ⟨_, rfl, ?_⟩
    unfold c_all_needs_B1
    repeat' wp_step
    refine ix_tb hxT ?_
    repeat' wp_step
    refine ⟨_, .inl rfl, ?_⟩
    have e3 : ((at_ T x).map PyData.int).map VL.d = (at_ T x).map fun k => VL.d (.int k) := by rw [List.map_map]; rfl
    rw [e3]
    refine wL_inv (v := fun (k : Int) => VL.d (.int k)) (fun m env st' => ∃ F c, Fnd N T.length ((at_ T x).take m) F ∧ env = [some (.d (tbL T)), some (.o st.length), some (.d (.int (x : Int))), some (.d (rowT F)), c] ∧ st' = st ++ [.lst ((N.map rowT).map VL.d)])
      ⟨[], _, ⟨List.Pairwise.nil, (fun j hj => by cases hj), (fun j => by simp)⟩, rfl, rfl⟩ (fun m k env st' hk hI => ?_) (fun env st' hI => ?_)
    · obtain ⟨F, c, hF, rfl, rfl⟩ := hI
      have hkm : k ∈ at_ T x := List.mem_of_getElem? hk
      have hkr := at_in hT hkm
      have hkp := hdn k hkm
      have hke : ((k.toNat : Nat) : Int) = k := Int.toNat_of_nonneg hkr.1
      have hkR := hC.rise _ hkp
      have hkG := hC.rng _ hkp
      rw [hke] at hkR hkG
      have hkl : (at_ N k).length ≤ 10 := Nat.le_trans (rise_len hkR hkG) hlen
      have hFl : F.length ≤ 10 := Nat.le_trans (rise_len hF.rise hF.rng) hlen
      refine ⟨_, rfl, ?_⟩
      unfold c_all_needs_B0
      repeat' wp_step
      refine wO_ixZ (asSeq_o app_get0) (z := .d (rowT (at_ N k))) ?_ ?_
      · rw [atI_int _ hkr.1, List.getElem?_map, List.getElem?_map, at_int hkr.1 (by rw [hNl]; exact hkr.2)]
        rfl
      · repeat' wp_step
        refine union_wp (a := [k]) (by simp; omega) ?_
        repeat' wp_step
        have hul : (sortU ([k] ++ at_ N k)).length ≤ 11 := Nat.le_trans (sortU_length _) (by simp; omega)
        refine union_wp (by omega) ?_
        repeat' wp_step
        refine ⟨_, _, ⟨rise_sortU _, fun j hj => ?_, fun j => ?_⟩, rfl, rfl⟩
        · rw [mem_sortU, List.mem_append, mem_sortU, List.mem_append, List.mem_singleton] at hj
          rcases hj with hj | rfl | hj
          · exact hF.rng j hj
          · exact hkr
          · exact hkG j hj
        · have hte : (at_ T x).take (m + 1) = (at_ T x).take m ++ [k] := by
            rw [List.take_add_one, hk]
            rfl
          rw [hte, mem_sortU, List.mem_append, mem_sortU, List.mem_append, List.mem_singleton, hF.mem]
          constructor
          · rintro (⟨y, hy, h⟩ | h)
            · exact ⟨y, List.mem_append_left _ hy, h⟩
            · exact ⟨k, by simp, h⟩
          · rintro ⟨y, hy, h⟩
            rcases List.mem_append.mp hy with hy | hy
            · exact .inl ⟨y, hy, h⟩
            · rw [List.mem_singleton] at hy
              subst hy
              exact .inr h
    · obtain ⟨F, c, hF, rfl, rfl⟩ := hI
      rw [List.take_length] at hF
      repeat' wp_step
      refine wU_o app_get0 (i := x) (ixN_nat (by rw [List.length_map, List.length_map]; omega)) ?_
      rw [app_set0]
      have e4 : ((N.map rowT).map VL.d).set x (.d (rowT F)) = ((N.set x F).map rowT).map VL.d := by rw [List.map_set, List.map_set]
      rw [e4]
      repeat' wp_step
      have hxN : x < N.length := by omega
      have hte : o.take (i + 1) = o.take i ++ [x] := by
        rw [List.take_add_one, hx]
        rfl
      have far : ∀ y ∈ o.take i, at_ (N.set x F) (y : Int) = at_ N (y : Int) := fun y hy => by
        rw [at_set hxN _ (Int.natCast_nonneg y), if_neg]
        intro e
        have : y = x := by omega
        exact hnx (this ▸ hy)
      have near : at_ (N.set x F) (x : Int) = F := by rw [at_set hxN _ (Int.natCast_nonneg x), if_pos rfl]
      have kin : ∀ y ∈ o.take i ++ [x], ∀ k ∈ at_ T (y : Int), at_ (N.set x F) k = at_ N k := fun y hy k hk => by
        have hkr := at_in hT hk
        have hke : ((k.toNat : Nat) : Int) = k := Int.toNat_of_nonneg hkr.1
        have hko : k.toNat ∈ o.take i := by
          rcases List.mem_append.mp hy with hy | hy
          · obtain ⟨a, b, e⟩ := List.append_of_mem hy
            have := ho.dn a y (b ++ x :: o.drop (i + 1)) (by rw [← List.cons_append, ← List.append_assoc, ← e]; exact hso) k hk
            rw [e]
            exact List.mem_append_left _ this
          · rw [List.mem_singleton] at hy
            subst hy
            exact hdn k hk
        have := far _ hko
        rwa [hke] at this
      refine ⟨N.set x F, _, _, _, ⟨by rw [List.length_set, hNl], fun y hy => ?_, fun y hy => ?_, fun y hy j => ?_⟩, rfl, rfl⟩
      · rw [hte] at hy
        rcases List.mem_append.mp hy with hy | hy
        · rw [far y hy]
          exact hC.rise y hy
        · rw [List.mem_singleton] at hy
          subst hy
          rw [near]
          exact hF.rise
      · rw [hte] at hy
        rcases List.mem_append.mp hy with hy | hy
        · rw [far y hy]
          exact hC.rng y hy
        · rw [List.mem_singleton] at hy
          subst hy
          rw [near]
          exact hF.rng
      · rw [hte] at hy
        have hk := kin y hy
        have e5 : (∃ k ∈ at_ T (y : Int), j ∈ at_ (N.set x F) k) ↔ ∃ k ∈ at_ T (y : Int), j ∈ at_ N k :=
          ⟨fun ⟨k, h1, h2⟩ => ⟨k, h1, by rw [hk k h1] at h2; exact h2⟩, fun ⟨k, h1, h2⟩ => ⟨k, h1, by rw [hk k h1]; exact h2⟩⟩
        rw [e5]
        rcases List.mem_append.mp hy with hy | hy
        · rw [far y hy]
          exact hC.mem y hy j
        · rw [List.mem_singleton] at hy
          subst hy
          rw [near, hF.mem]
          constructor
          · rintro ⟨k, h1, rfl | h2⟩
            · exact .inl h1
            · exact .inr ⟨k, h1, h2⟩
          · rintro (h | ⟨k, h1, h2⟩)
            · exact ⟨j, h, .inl rfl⟩
            · exact ⟨k, h1, .inr h2⟩
  · obtain ⟨N, a, b, c, hC, rfl, rfl⟩ := hI
    rw [List.take_length] at hC
    repeat' wp_step
    refine wC_tuple (k := false) (asSeq_o app_get0) ?_
    repeat' wp_step
    refine ⟨cutOk_app _ _, ?_⟩
    rw [take_app]
    have hin : ∀ x ∈ List.range T.length, x ∈ o := fun x hx => all_in ho.nd ho.rg (by omega) (List.mem_range.mp hx)
    exact q N ⟨hC.len, fun x hx => hC.rise x (hin x hx), fun x hx => hC.rng x (hin x hx), fun x hx => hC.mem x (hin x hx)⟩
end K75
set_option Elab.async false
set_option linter.all false
set_option autoImplicit false
set_option maxRecDepth 100000
set_option maxHeartbeats 1000000
namespace K75
open PySem PySem.Spec PyProof.Rows L2 Sl
local macro_rules | `(tactic| wp_step) => `(tactic| first
  | with_reducible refine wS_seq ?_
  | with_reducible refine seqK_nx ?_
  | with_reducible refine seqK_rt ?_
  | with_reducible refine seqK_bk ?_
  | with_reducible refine seqK_ct ?_
  | with_reducible refine fnQ_nx ?_
  | with_reducible refine fnQ_rt ?_
  | with_reducible refine turn_nx ?_
  | with_reducible refine turn_ct ?_
  | with_reducible refine turn_bk ?_
  | with_reducible refine turn_rt ?_
  | with_reducible refine wS_if ?_
  | with_reducible refine wS_set ?_
  | with_reducible refine wS_asg ?_
  | with_reducible refine wS_ret ?_
  | with_reducible refine wS_drop ?_
  | with_reducible refine wS_nx ?_
  | with_reducible refine wS_bk ?_
  | with_reducible refine wS_ct ?_
  | with_reducible refine wS_forS ?_
  | with_reducible refine wS_for1 ?_
  | with_reducible refine wS_setL ?_
  | with_reducible refine wS_dputK ?_
  | with_reducible refine wE_op ?_
  | with_reducible refine wE_c ?_
  | ((with_reducible apply wE_var); rfl)
  | with_reducible refine wE_call ?_
  | with_reducible refine wE_cb ?_
  | with_reducible refine wE_and ?_
  | with_reducible refine wE_or ?_
  | with_reducible refine wE_not ?_
  | with_reducible refine wE_if ?_
  | with_reducible refine wE_isi ?_
  | with_reducible refine wE_chain ?_
  | with_reducible refine wE_neg ?_
  | with_reducible refine wE_lst ?_
  | with_reducible refine wE_tup ?_
  | with_reducible refine wE_frz ?_
  | with_reducible refine wE_append ?_
  | with_reducible refine wE_sl ?_
  | with_reducible refine wE_rev ?_
  | with_reducible refine wE_dnew ?_
  | with_reducible refine wZ_d ?_
  | ((with_reducible apply isO_o); (first | assumption | exact app_get0 | exact app_get1 | exact app_get2 | exact List.getElem?_set_self (by assumption) | exact List.getElem?_set_self (by rw [List.length_set]; assumption) | (rw [List.getElem?_append_right (Nat.le_refl _), Nat.sub_self]; rfl) | exact getA0 (by assumption) | exact getA1 (by assumption)))
  | ((with_reducible apply wApp_o); (first | assumption | exact app_get0 | exact app_get1 | exact app_get2 | exact List.getElem?_set_self (by assumption) | exact List.getElem?_set_self (by rw [List.length_set]; assumption) | (rw [List.getElem?_append_right (Nat.le_refl _), Nat.sub_self]; rfl) | exact getA0 (by assumption) | exact getA1 (by assumption)))
  | ((with_reducible apply wD_o); (first | assumption | exact app_get0 | exact app_get1 | exact app_get2 | exact List.getElem?_set_self (by assumption) | exact List.getElem?_set_self (by rw [List.length_set]; assumption) | (rw [List.getElem?_append_right (Nat.le_refl _), Nat.sub_self]; rfl) | exact getA0 (by assumption) | exact getA1 (by assumption)))
  | ((with_reducible apply wZ_o); (first | assumption | exact app_get0 | exact app_get1 | exact app_get2 | exact List.getElem?_set_self (by assumption) | exact List.getElem?_set_self (by rw [List.length_set]; assumption) | (rw [List.getElem?_append_right (Nat.le_refl _), Nat.sub_self]; rfl) | exact getA0 (by assumption) | exact getA1 (by assumption)); exact allD_map' _)
  | with_reducible refine wE_rep ?_
  | with_reducible refine wE_sortSet ?_
  | with_reducible refine wE_lenSet ?_
  | with_reducible refine wE_comp1 ?_
  | with_reducible refine wE_compS ?_
  | with_reducible refine wP_none ?_
  | with_reducible refine wP_some ?_
  | with_reducible refine wA_nil ?_
  | with_reducible refine wA_cons ?_
  | with_reducible refine wA_app ?_
  | with_reducible refine wB_t ?_
  | with_reducible refine wB_f ?_
  | with_reducible refine wB_nt ?_
  | with_reducible refine wB_nf ?_
  | with_reducible refine wB_dec (fun _ => ?_) (fun _ => ?_)
  | with_reducible refine wB_not (fun _ => ?_) (fun _ => ?_)
  | with_reducible refine wB_nb (fun _ => ?_) (fun _ => ?_)
  | with_reducible refine wB_b (fun _ => ?_) (fun _ => ?_)
  | with_reducible refine wO_sub ?_
  | ((with_reducible apply wO_inS0); rfl)
  | ((with_reducible apply wO_inS1); rfl)
  | ((with_reducible apply wO_inD0); (first | assumption | exact app_get0 | exact app_get1 | exact app_get2 | exact List.getElem?_set_self (by assumption) | exact List.getElem?_set_self (by rw [List.length_set]; assumption) | (rw [List.getElem?_append_right (Nat.le_refl _), Nat.sub_self]; rfl) | exact getA0 (by assumption) | exact getA1 (by assumption)))
  | ((with_reducible apply wO_inD1); (first | assumption | exact app_get0 | exact app_get1 | exact app_get2 | exact List.getElem?_set_self (by assumption) | exact List.getElem?_set_self (by rw [List.length_set]; assumption) | (rw [List.getElem?_append_right (Nat.le_refl _), Nat.sub_self]; rfl) | exact getA0 (by assumption) | exact getA1 (by assumption)))
  | with_reducible refine wO_lt ?_
  | with_reducible refine wO_le ?_
  | with_reducible refine wO_gt ?_
  | with_reducible refine wO_ge ?_
  | with_reducible refine wO_add ?_
  | with_reducible refine wO_eqI ?_
  | with_reducible refine wO_neI ?_
  | with_reducible refine wO_isN ?_
  | with_reducible refine wO_notN ?_
  | with_reducible refine wC_lenL ?_
  | with_reducible refine wC_lenT ?_
  | with_reducible refine wC_int ?_
  | ((with_reducible apply wC_lenD); (first | assumption | exact app_get0 | exact app_get1 | exact app_get2 | exact List.getElem?_set_self (by assumption) | exact List.getElem?_set_self (by rw [List.length_set]; assumption) | (rw [List.getElem?_append_right (Nat.le_refl _), Nat.sub_self]; rfl) | exact getA0 (by assumption) | exact getA1 (by assumption)))
  | with_reducible refine wC_abs ?_
  | with_reducible refine wM_N ?_
  | with_reducible refine wM_Dm ?_
  | with_reducible refine wM_Tm ?_
  | ((with_reducible apply wM_T); rfl)
  | ((with_reducible apply wM_D); rfl)
  | (with_reducible refine Exists.intro _ (And.intro rfl ?_))
  | (with_reducible refine And.intro rfl ?_)
  | ((with_reducible refine And.intro (size_small ?_) ?_); rfl)
  | with_reducible refine wO_pow6 ?_
  | ((with_reducible refine wO_mulR ?_ ?_); decide)
  | ((with_reducible refine wO_mulL ?_ ?_); decide)
  | ((with_reducible refine wO_mod ?_ ?_); omega)
  | ((with_reducible refine wO_div ?_ ?_ ?_); omega; omega)
  | ((with_reducible apply wU_o); (first | assumption | exact app_get0 | exact app_get1 | exact app_get2 | exact List.getElem?_set_self (by assumption) | exact List.getElem?_set_self (by rw [List.length_set]; assumption) | (rw [List.getElem?_append_right (Nat.le_refl _), Nat.sub_self]; rfl) | exact getA0 (by assumption) | exact getA1 (by assumption)); rfl)
  | ((with_reducible apply wO_ixZ); (apply asSeq_o; (first | assumption | exact app_get0 | exact app_get1 | exact app_get2 | exact List.getElem?_set_self (by assumption) | exact List.getElem?_set_self (by rw [List.length_set]; assumption) | (rw [List.getElem?_append_right (Nat.le_refl _), Nat.sub_self]; rfl) | exact getA0 (by assumption) | exact getA1 (by assumption))); rfl))
theorem iffF {p : Prop} (h : ¬ p) : (false = true) ↔ p := ⟨fun e => (nomatch e), fun k => absurd k h⟩
theorem iffT {p : Prop} (h : p) : (true = true) ↔ p := ⟨fun _ => h, fun _ => rfl⟩
/-! ### chains -/
def ChOk (N : List (List Int)) (x : PyData) : Prop := ∃ ds, seqD x = some ds ∧ ∀ i, i < ds.length → ∃ a, ds[i]? = some (.int a) ∧ 0 ≤ a ∧ a < N.length ∧ (0 < i → ∃ p, ds[i - 1]? = some (.int p) ∧ p ∈ at_ N a)
/-- a table of tuples or of lists -/
def IsTb (N : List (List Int)) (x : PyData) : Prop := x = tbT N ∨ x = tbL N
theorem isTb_len {N : List (List Int)} {x : PyData} (h : IsTb N x) {st : Sto} {Q : VL → Sto → Prop} (q : Q (.d (.int (N.length : Nat))) st) : wC cLen st [.d x] Q := by
  rcases h with rfl | rfl
  · unfold tbT
    refine wC_lenT ?_
    rwa [List.length_map]
  · exact lenT q
def IsRw (r : List Int) (x : PyData) : Prop := x = rowT r ∨ x = rowL r
theorem isTb_ix {N : List (List Int)} {x : PyData} (h : IsTb N x) {st : Sto} {a : Int} (h0 : 0 ≤ a) (h1 : a < N.length) {Q : VL → Sto → Prop} (q : ∀ y, IsRw (at_ N a) y → Q (.d y) st) : wO oIx st (.d x) (.d (.int a)) Q := by
  rcases h with rfl | rfl
  · refine wO_ixZ (k := true) (xs := (N.map rowT).map .d) rfl (z := .d (rowT (at_ N a))) ?_ (q _ (.inl rfl))
    rw [atI_int _ h0, List.getElem?_map, List.getElem?_map, at_int h0 h1]
    rfl
  · refine wO_ixZ (k := false) (xs := (N.map rowL).map .d) rfl (z := .d (rowL (at_ N a))) ?_ (q _ (.inr rfl))
    rw [atI_int _ h0, List.getElem?_map, List.getElem?_map, at_int h0 h1]
    rfl
theorem isRw_in1 {r : List Int} {y : PyData} (h : IsRw r y) {st : Sto} {p : Int} {Q : VL → Sto → Prop} (q : Q (.d (.bool (!decide (p ∈ r)))) st) : wO (oInS true) st (.d (.int p)) (.d y) Q := by
  rcases h with rfl | rfl
  · exact wO_inS1 (k := true) rfl q
  · exact wO_inS1 (k := false) rfl q
theorem isRw_in0 {r : List Int} {y : PyData} (h : IsRw r y) {st : Sto} {p : Int} {Q : VL → Sto → Prop} (q : Q (.d (.bool (decide (p ∈ r)))) st) : wO (oInS false) st (.d (.int p)) (.d y) Q := by
  rcases h with rfl | rfl
  · exact wO_inS0 (k := true) rfl q
  · exact wO_inS0 (k := false) rfl q
theorem btw_iff {x : PyData} {a b : Int} : btw x a b = true ↔ ∃ i, x = .int i ∧ a ≤ i ∧ i ≤ b := by
  cases x
  case int i =>
    show (decide (a ≤ i) && decide (i ≤ b)) = true ↔ _
    rw [Bool.and_eq_true, decide_eq_true_eq, decide_eq_true_eq]
    exact ⟨fun h => ⟨i, rfl, h⟩, fun ⟨j, e, h⟩ => by cases e; exact h⟩
  all_goals exact ⟨(fun h => by cases h), (fun ⟨_, e, _⟩ => by cases e)⟩
theorem chain_in_wp {N : List (List Int)} {x y : PyData} (hy : IsTb N y) (hs : ∀ ds, seqD x = some ds → ds.length < 1000) {st : Sto} {Q : VL → Sto → Prop} (q : ∀ b, (b = true ↔ ChOk N x) → Q (.d (.bool b)) st) : wF m_chain_in [.d y, .d x] st Q := by
  refine wF_run ?_
  unfold c_chain_in
  repeat' wp_step
  refine wF_of (is_row_eq _ _) ?_
  cases hx : seqD x with
  | none =>
    simp only [Option.isSome]
    repeat' wp_step
    exact q false (iffF fun ⟨ds, e, _⟩ => by rw [hx] at e; cases e)
  | some ds =>
    simp only [Option.isSome]
    have hxs := seqD_some hx
    have hl := hs ds hx
    repeat' wp_step
    refine lenX hxs ?_
    repeat' wp_step
    refine ⟨by omega, ?_⟩
    refine wL_rg (fun i env st' => (∃ a, env = [some (.d y), some (.d x), a]) ∧ st = st' ∧ ∀ j, j < i → ∃ a, ds[j]? = some (.int a) ∧ 0 ≤ a ∧ a < N.length ∧ (0 < j → ∃ p, ds[j - 1]? = some (.int p) ∧ p ∈ at_ N a))
      ⟨⟨_, rfl⟩, rfl, fun j hj => absurd hj (Nat.not_lt_zero _)⟩ (fun i env st' hi hI => ?_) (fun env st' hI => ?_)
    · obtain ⟨⟨a0, rfl⟩, rfl, hp⟩ := hI
      have hdi : ds[i]? = some ds[i] := List.getElem?_eq_getElem hi
      refine ⟨_, rfl, ?_⟩
      unfold c_chain_in_B0
      repeat' wp_step
      refine ixX hxs hdi ?_
      repeat' wp_step
      refine isTb_len hy ?_
      repeat' wp_step
      refine wF_of (is_between_eq _ _ _ _) ?_
      repeat' wp_step
      · rename_i hb
        refine q false (iffF fun ⟨ds', e, h⟩ => ?_)
        rw [hx] at e
        cases e
        obtain ⟨a, h1, h2, h3, _⟩ := h i hi
        rw [hdi] at h1
        have := btw_iff.mpr ⟨a, Option.some.inj h1, h2, (by omega : a ≤ (N.length : Int) - 1)⟩
        rw [this] at hb
        cases hb
      · rename_i hb h0
        obtain ⟨a, h1, h2, h3⟩ := btw_iff.mp hb
        have hi0 : 0 < i := by omega
        obtain ⟨p, hp1, hp2, hp3, _⟩ := hp (i - 1) (by omega)
        have ei : (i : Int) - 1 = ((i - 1 : Nat) : Int) := by omega
        rw [ei]
        refine ixX hxs hp1 ?_
        repeat' wp_step
        refine ixX hxs hdi ?_
        rw [h1]
        repeat' wp_step
        refine isTb_ix hy h2 (by omega) fun z hz => ?_
        refine isRw_in1 hz ?_
        repeat' wp_step
        · rename_i hn
          refine q false (iffF fun ⟨ds', e, h⟩ => ?_)
          rw [hx] at e
          cases e
          obtain ⟨a', h1', _, _, h4⟩ := h i hi
          rw [hdi, h1] at h1'
          cases h1'
          obtain ⟨p', h5, h6⟩ := h4 hi0
          rw [hp1] at h5
          cases h5
          exact hn h6
        · rename_i hn
          refine ⟨⟨_, rfl⟩, rfl, fun j hj => ?_⟩
          rcases Nat.lt_succ_iff_lt_or_eq.mp hj with hj | rfl
          · exact hp j hj
          · exact ⟨a, by rw [hdi, h1], h2, by omega, fun _ => ⟨p, hp1, hn⟩⟩
      · rename_i hb h0
        obtain ⟨a, h1, h2, h3⟩ := btw_iff.mp hb
        refine ⟨⟨_, rfl⟩, rfl, fun j hj => ?_⟩
        rcases Nat.lt_succ_iff_lt_or_eq.mp hj with hj | rfl
        · exact hp j hj
        · exact ⟨a, by rw [hdi, h1], h2, by omega, fun h => absurd h (by omega)⟩
    · obtain ⟨⟨a0, rfl⟩, rfl, hp⟩ := hI
      repeat' wp_step
      exact q true (iffT ⟨ds, hx, hp⟩)
end K75
set_option Elab.async false
set_option linter.all false
set_option autoImplicit false
set_option maxRecDepth 100000
set_option maxHeartbeats 1000000
namespace K75
open PySem PySem.Spec PyProof.Rows L2 Sl
local macro_rules | `(tactic| wp_step) => `(tactic| first
  | with_reducible refine wS_seq ?_
  | with_reducible refine seqK_nx ?_
  | with_reducible refine seqK_rt ?_
  | with_reducible refine seqK_bk ?_
  | with_reducible refine seqK_ct ?_
  | with_reducible refine fnQ_nx ?_
  | with_reducible refine fnQ_rt ?_
  | with_reducible refine turn_nx ?_
  | with_reducible refine turn_ct ?_
  | with_reducible refine turn_bk ?_
  | with_reducible refine turn_rt ?_
  | with_reducible refine wS_if ?_
  | with_reducible refine wS_set ?_
  | with_reducible refine wS_asg ?_
  | with_reducible refine wS_ret ?_
  | with_reducible refine wS_drop ?_
  | with_reducible refine wS_nx ?_
  | with_reducible refine wS_bk ?_
  | with_reducible refine wS_ct ?_
  | with_reducible refine wS_forS ?_
  | with_reducible refine wS_for1 ?_
  | with_reducible refine wS_setL ?_
  | with_reducible refine wS_dputK ?_
  | with_reducible refine wE_op ?_
  | with_reducible refine wE_c ?_
  | ((with_reducible apply wE_var); rfl)
  | with_reducible refine wE_call ?_
  | with_reducible refine wE_cb ?_
  | with_reducible refine wE_and ?_
  | with_reducible refine wE_or ?_
  | with_reducible refine wE_not ?_
  | with_reducible refine wE_if ?_
  | with_reducible refine wE_isi ?_
  | with_reducible refine wE_chain ?_
  | with_reducible refine wE_neg ?_
  | with_reducible refine wE_lst ?_
  | with_reducible refine wE_tup ?_
  | with_reducible refine wE_frz ?_
  | with_reducible refine wE_append ?_
  | with_reducible refine wE_sl ?_
  | with_reducible refine wE_rev ?_
  | with_reducible refine wE_dnew ?_
  | with_reducible refine wZ_d ?_
  | ((with_reducible apply isO_o); (first | assumption | exact app_get0 | exact app_get1 | exact app_get2 | exact List.getElem?_set_self (by assumption) | exact List.getElem?_set_self (by rw [List.length_set]; assumption) | (rw [List.getElem?_append_right (Nat.le_refl _), Nat.sub_self]; rfl) | exact getA0 (by assumption) | exact getA1 (by assumption)))
  | ((with_reducible apply wApp_o); (first | assumption | exact app_get0 | exact app_get1 | exact app_get2 | exact List.getElem?_set_self (by assumption) | exact List.getElem?_set_self (by rw [List.length_set]; assumption) | (rw [List.getElem?_append_right (Nat.le_refl _), Nat.sub_self]; rfl) | exact getA0 (by assumption) | exact getA1 (by assumption)))
  | ((with_reducible apply wD_o); (first | assumption | exact app_get0 | exact app_get1 | exact app_get2 | exact List.getElem?_set_self (by assumption) | exact List.getElem?_set_self (by rw [List.length_set]; assumption) | (rw [List.getElem?_append_right (Nat.le_refl _), Nat.sub_self]; rfl) | exact getA0 (by assumption) | exact getA1 (by assumption)))
  | ((with_reducible apply wZ_o); (first | assumption | exact app_get0 | exact app_get1 | exact app_get2 | exact List.getElem?_set_self (by assumption) | exact List.getElem?_set_self (by rw [List.length_set]; assumption) | (rw [List.getElem?_append_right (Nat.le_refl _), Nat.sub_self]; rfl) | exact getA0 (by assumption) | exact getA1 (by assumption)); exact allD_map' _)
  | with_reducible refine wE_rep ?_
  | with_reducible refine wE_sortSet ?_
  | with_reducible refine wE_lenSet ?_
  | with_reducible refine wE_comp1 ?_
  | with_reducible refine wE_compS ?_
  | with_reducible refine wP_none ?_
  | with_reducible refine wP_some ?_
  | with_reducible refine wA_nil ?_
  | with_reducible refine wA_cons ?_
  | with_reducible refine wA_app ?_
  | with_reducible refine wB_t ?_
  | with_reducible refine wB_f ?_
  | with_reducible refine wB_nt ?_
  | with_reducible refine wB_nf ?_
  | with_reducible refine wB_dec (fun _ => ?_) (fun _ => ?_)
  | with_reducible refine wB_not (fun _ => ?_) (fun _ => ?_)
  | with_reducible refine wB_nb (fun _ => ?_) (fun _ => ?_)
  | with_reducible refine wB_b (fun _ => ?_) (fun _ => ?_)
  | with_reducible refine wO_sub ?_
  | ((with_reducible apply wO_inS0); rfl)
  | ((with_reducible apply wO_inS1); rfl)
  | ((with_reducible apply wO_inD0); (first | assumption | exact app_get0 | exact app_get1 | exact app_get2 | exact List.getElem?_set_self (by assumption) | exact List.getElem?_set_self (by rw [List.length_set]; assumption) | (rw [List.getElem?_append_right (Nat.le_refl _), Nat.sub_self]; rfl) | exact getA0 (by assumption) | exact getA1 (by assumption)))
  | ((with_reducible apply wO_inD1); (first | assumption | exact app_get0 | exact app_get1 | exact app_get2 | exact List.getElem?_set_self (by assumption) | exact List.getElem?_set_self (by rw [List.length_set]; assumption) | (rw [List.getElem?_append_right (Nat.le_refl _), Nat.sub_self]; rfl) | exact getA0 (by assumption) | exact getA1 (by assumption)))
  | with_reducible refine wO_lt ?_
  | with_reducible refine wO_le ?_
  | with_reducible refine wO_gt ?_
  | with_reducible refine wO_ge ?_
  | with_reducible refine wO_add ?_
  | with_reducible refine wO_eqI ?_
  | with_reducible refine wO_neI ?_
  | with_reducible refine wO_isN ?_
  | with_reducible refine wO_notN ?_
  | with_reducible refine wC_lenL ?_
  | with_reducible refine wC_lenT ?_
  | with_reducible refine wC_int ?_
  | ((with_reducible apply wC_lenD); (first | assumption | exact app_get0 | exact app_get1 | exact app_get2 | exact List.getElem?_set_self (by assumption) | exact List.getElem?_set_self (by rw [List.length_set]; assumption) | (rw [List.getElem?_append_right (Nat.le_refl _), Nat.sub_self]; rfl) | exact getA0 (by assumption) | exact getA1 (by assumption)))
  | with_reducible refine wC_abs ?_
  | with_reducible refine wM_N ?_
  | with_reducible refine wM_Dm ?_
  | with_reducible refine wM_Tm ?_
  | ((with_reducible apply wM_T); rfl)
  | ((with_reducible apply wM_D); rfl)
  | (with_reducible refine Exists.intro _ (And.intro rfl ?_))
  | (with_reducible refine And.intro rfl ?_)
  | ((with_reducible refine And.intro (size_small ?_) ?_); rfl)
  | with_reducible refine wO_pow6 ?_
  | ((with_reducible refine wO_mulR ?_ ?_); decide)
  | ((with_reducible refine wO_mulL ?_ ?_); decide)
  | ((with_reducible refine wO_mod ?_ ?_); omega)
  | ((with_reducible refine wO_div ?_ ?_ ?_); omega; omega)
  | ((with_reducible apply wU_o); (first | assumption | exact app_get0 | exact app_get1 | exact app_get2 | exact List.getElem?_set_self (by assumption) | exact List.getElem?_set_self (by rw [List.length_set]; assumption) | (rw [List.getElem?_append_right (Nat.le_refl _), Nat.sub_self]; rfl) | exact getA0 (by assumption) | exact getA1 (by assumption)); rfl)
  | ((with_reducible apply wO_ixZ); (apply asSeq_o; (first | assumption | exact app_get0 | exact app_get1 | exact app_get2 | exact List.getElem?_set_self (by assumption) | exact List.getElem?_set_self (by rw [List.length_set]; assumption) | (rw [List.getElem?_append_right (Nat.le_refl _), Nat.sub_self]; rfl) | exact getA0 (by assumption) | exact getA1 (by assumption))); rfl))
theorem isW_iff {x : PyData} : isW x = true ↔ ∃ i, x = .int i := by
  cases x
  case int i => exact ⟨fun _ => ⟨i, rfl⟩, fun _ => rfl⟩
  all_goals exact ⟨(fun h => by cases h), (fun ⟨_, e⟩ => by cases e)⟩
theorem ints_inj : ∀ {r s : List Int}, r.map PyData.int = s.map .int → r = s
  | [], [], _ => rfl
  | [], _ :: _, h => by cases h
  | _ :: _, [], h => by cases h
  | a :: r, b :: s, h => by
    rw [List.map_cons, List.map_cons] at h
    injection h with h1 h2
    injection h1 with h1
    rw [h1, ints_inj h2]
/-! ### the law's chains -/
theorem l_chain_wp {N : List (List Int)} {x y : PyData} (hy : IsTb N y) (hs : ∀ ds, seqD x = some ds → ds.length < 1000) {st : Sto} {Q : VL → Sto → Prop} (q : ∀ b, (b = true ↔ ChOk N x) → Q (.d (.bool b)) st) : wF m__law_chain [.d y, .d x] st Q := by
  refine wF_run ?_
  unfold c__law_chain
  repeat' wp_step
  refine wF_of (l_row_eq _ _) ?_
  cases hx : seqD x with
  | none =>
    simp only [Option.isSome]
    repeat' wp_step
    exact q false (iffF fun ⟨ds, e, _⟩ => by rw [hx] at e; cases e)
  | some ds =>
    simp only [Option.isSome]
    have hxs := seqD_some hx
    have hl := hs ds hx
    repeat' wp_step
    refine lenX hxs ?_
    repeat' wp_step
    refine ⟨by omega, ?_⟩
    refine wL_rg (fun i env st' => (∃ a, env = [some (.d y), some (.d x), a]) ∧ st = st' ∧ ∀ j, j < i → ∃ a, ds[j]? = some (.int a) ∧ 0 ≤ a ∧ a < N.length ∧ (0 < j → ∃ p, ds[j - 1]? = some (.int p) ∧ p ∈ at_ N a))
      ⟨⟨_, rfl⟩, rfl, fun j hj => absurd hj (Nat.not_lt_zero _)⟩ (fun i env st' hi hI => ?_) (fun env st' hI => ?_)
    · obtain ⟨⟨a0, rfl⟩, rfl, hp⟩ := hI
      have hdi : ds[i]? = some ds[i] := List.getElem?_eq_getElem hi
      have fail : (∀ a, ds[i]? = some (.int a) → 0 ≤ a → a < N.length → (0 < i → ∃ p, ds[i - 1]? = some (.int p) ∧ p ∈ at_ N a) → False) → ¬ ChOk N x := fun k ⟨ds', e, h⟩ => by
        rw [hx] at e
        cases e
        obtain ⟨a, h1, h2, h3, h4⟩ := h i hi
        exact k a h1 h2 h3 h4
      refine ⟨_, rfl, ?_⟩
      unfold c__law_chain_B0
      repeat' wp_step
      refine ixX hxs hdi ?_
      repeat' wp_step
      refine wF_of (l_integer_eq _ _) ?_
      repeat' wp_step
      · rename_i hb
        refine q false (iffF (fail fun a h1 _ _ _ => ?_))
        rw [hdi] at h1
        have := isW_iff.mpr ⟨a, Option.some.inj h1⟩
        rw [this] at hb
        cases hb
      · rename_i hb
        obtain ⟨a, ha⟩ := isW_iff.mp hb
        rw [ha] at hdi
        refine ixX hxs hdi ?_
        repeat' wp_step
        · rename_i h0
          exact q false (iffF (fail fun a' h1 h2 _ _ => by rw [hdi] at h1; cases h1; omega))
        · refine ixX hxs hdi ?_
          repeat' wp_step
          refine isTb_len hy ?_
          repeat' wp_step
          · rename_i h0
            exact q false (iffF (fail fun a' h1 _ h3 _ => by rw [hdi] at h1; cases h1; omega))
          · rename_i h0 h1 h2
            have hi0 : 0 < i := by omega
            obtain ⟨p, hp1, hp2, hp3, _⟩ := hp (i - 1) (by omega)
            have ei : (i : Int) - 1 = ((i - 1 : Nat) : Int) := by omega
            rw [ei]
            refine ixX hxs hp1 ?_
            repeat' wp_step
            refine ixX hxs hdi ?_
            repeat' wp_step
            refine isTb_ix hy (by omega) (by omega) fun z hz => ?_
            refine isRw_in1 hz ?_
            repeat' wp_step
            · rename_i hn
              refine q false (iffF (fail fun a' h1 _ _ h4 => ?_))
              rw [hdi] at h1
              cases h1
              obtain ⟨p', h5, h6⟩ := h4 hi0
              rw [hp1] at h5
              cases h5
              exact hn h6
            · rename_i hn
              refine ⟨⟨_, rfl⟩, rfl, fun j hj => ?_⟩
              rcases Nat.lt_succ_iff_lt_or_eq.mp hj with hj | rfl
              · exact hp j hj
              · exact ⟨a, hdi, by omega, by omega, fun _ => ⟨p, hp1, hn⟩⟩
          · refine ⟨⟨_, rfl⟩, rfl, fun j hj => ?_⟩
            rcases Nat.lt_succ_iff_lt_or_eq.mp hj with hj | rfl
            · exact hp j hj
            · exact ⟨a, hdi, by omega, by omega, fun h => absurd h (by omega)⟩
    · obtain ⟨⟨a0, rfl⟩, rfl, hp⟩ := hI
      repeat' wp_step
      exact q true (iffT ⟨ds, hx, hp⟩)
theorem is_chain_wp {T : List (List Int)} (hT : Tab T) {x : PyData} (hs : ∀ ds, seqD x = some ds → ds.length < 1000) {st : Sto} {Q : VL → Sto → Prop} (q : ∀ N, Clo T N (List.range T.length) → ∀ b, (b = true ↔ ChOk N x) → Q (.d (.bool b)) st) : wF m_is_chain [.d (tbL T), .d x] st Q := by
  refine wF_run ?_
  unfold c_is_chain
  repeat' wp_step
  refine all_needs_wp hT fun N hN => ?_
  repeat' wp_step
  refine chain_in_wp (.inl rfl) hs fun b hb => ?_
  repeat' wp_step
  exact q N hN b hb
/-! ### rising rows of tasks -/
def RisOk (n : Nat) (x : PyData) : Prop := ∃ r : List Int, seqD x = some (r.map .int) ∧ r.Pairwise (· < ·) ∧ ∀ t ∈ r, 0 ≤ t ∧ t < n
theorem risX_iff {x : PyData} : risX x = true ↔ ∃ r : List Int, seqD x = some (r.map .int) ∧ r.Pairwise (· < ·) := by
  unfold risX
  cases hx : seqD x with
  | none => exact ⟨(fun h => by cases h), (fun ⟨_, e, _⟩ => by cases e)⟩
  | some ds =>
    constructor
    · intro h
      obtain ⟨r, rfl⟩ := risD_only none ds h
      have h : risD none (r.map .int) = true := h
      rw [risD_ints] at h
      exact ⟨r, rfl, of_decide_eq_true h⟩
    · rintro ⟨r, e, h⟩
      cases e
      show risD none (r.map .int) = true
      rw [risD_ints]
      exact decide_eq_true h
def rsF (n : Nat) (l : Int) (d : PyData) : Option Int := match d with
  | .int t => if l < t ∧ t < n then some t else none
  | _ => none
theorem rsF_iff (n : Nat) : ∀ (ds : List PyData) (l : Int), (ds.foldlM (rsF n) l).isSome = true ↔ ∃ r : List Int, ds = r.map .int ∧ (l :: r).Pairwise (· < ·) ∧ ∀ t ∈ r, t < n
  | [], l => ⟨fun _ => ⟨[], rfl, by simp, (fun t h => by cases h)⟩, fun _ => rfl⟩
  | d :: ds, l => by
    rw [List.foldlM_cons]
    cases d
    case int t =>
      show ((if l < t ∧ t < n then some t else none) >>= fun s => ds.foldlM (rsF n) s).isSome = true ↔ _
      by_cases h : l < t ∧ t < n
      · rw [if_pos h]
        show (ds.foldlM (rsF n) t).isSome = true ↔ _
        rw [rsF_iff n ds t]
        constructor
        · rintro ⟨r, rfl, h1, h2⟩
          refine ⟨t :: r, rfl, List.pairwise_cons.mpr ⟨fun s hs => ?_, h1⟩, fun s hs => ?_⟩
          · rcases List.mem_cons.mp hs with rfl | hs
            · exact h.1
            · exact Int.lt_trans h.1 ((List.pairwise_cons.mp h1).1 s hs)
          · rcases List.mem_cons.mp hs with rfl | hs
            · exact h.2
            · exact h2 s hs
        · rintro ⟨r, e, h1, h2⟩
          cases r with
          | nil => cases e
          | cons s r =>
            rw [List.map_cons] at e
            injection e with e1 e2
            injection e1 with e1
            subst e1
            exact ⟨r, e2, (List.pairwise_cons.mp h1).2, fun s hs => h2 s (List.mem_cons_of_mem _ hs)⟩
      · rw [if_neg h]
        refine ⟨(fun e => by cases e), fun ⟨r, e, h1, h2⟩ => ?_⟩
        cases r with
        | nil => cases e
        | cons s r =>
          rw [List.map_cons] at e
          injection e with e1 e2
          injection e1 with e1
          subst e1
          exact absurd ⟨(List.pairwise_cons.mp h1).1 t List.mem_cons_self, h2 t List.mem_cons_self⟩ h
    all_goals
      refine ⟨(fun e => by cases e), fun ⟨r, e, _⟩ => ?_⟩
      cases r <;> cases e
theorem rs_ok {n : Nat} {x : PyData} {ds : List PyData} (hx : seqD x = some ds) : (ds.foldlM (rsF n) (-1)).isSome = true ↔ RisOk n x := by
  rw [rsF_iff]
  constructor
  · rintro ⟨r, rfl, h1, h2⟩
    have h3 := List.pairwise_cons.mp h1
    exact ⟨r, hx, h3.2, fun t ht => ⟨by have := h3.1 t ht; omega, h2 t ht⟩⟩
  · rintro ⟨r, e, h1, h2⟩
    rw [hx] at e
    cases e
    exact ⟨r, rfl, List.pairwise_cons.mpr ⟨fun t ht => by have := (h2 t ht).1; omega, h1⟩, fun t ht => (h2 t ht).2⟩
theorem l_rising_wp {n : Nat} {x : PyData} {st : Sto} {Q : VL → Sto → Prop} (q : ∀ b, (b = true ↔ RisOk n x) → Q (.d (.bool b)) st) : wF m__law_rising [.d x, .d (.int n)] st Q := by
  refine wF_run ?_
  unfold c__law_rising
  repeat' wp_step
  refine wF_of (l_row_eq _ _) ?_
  cases hx : seqD x with
  | none =>
    simp only [Option.isSome]
    repeat' wp_step
    exact q false (iffF fun ⟨ds, e, _⟩ => by rw [hx] at e; cases e)
  | some ds =>
    simp only [Option.isSome]
    have hxs := seqD_some hx
    repeat' wp_step
    refine ⟨ds, by rcases hxs with rfl | rfl <;> simp, ?_⟩
    refine wL_fold (rsF n) (fun l env st' => (∃ a, env = [some (.d x), some (.d (.int n)), some (.d (.int l)), a]) ∧ st = st') (fun st' => st = st') (s := -1) ⟨⟨_, rfl⟩, rfl⟩ (fun l d env st' hd hI => ?_) (fun l env st' hf hI => ?_) (fun hf st' e => ?_)
    · obtain ⟨⟨a0, rfl⟩, rfl⟩ := hI
      refine ⟨_, rfl, ?_⟩
      unfold c__law_rising_B0
      repeat' wp_step
      refine wF_of (l_integer_eq _ _) ?_
      repeat' wp_step
      · rename_i hb
        refine .inr ⟨?_, st, rfl, rfl⟩
        cases d <;> first | rfl | cases hb
      · rename_i hb
        obtain ⟨t, rfl⟩ := isW_iff.mp hb
        repeat' wp_step
        · rename_i h0
          exact .inr ⟨if_neg (by omega), st, rfl, rfl⟩
        · rename_i h0 h1
          exact .inr ⟨if_neg (by omega), st, rfl, rfl⟩
        · rename_i h0 h1
          exact .inl ⟨t, if_pos (by omega), _, _, rfl, ⟨_, rfl⟩, rfl⟩
    · obtain ⟨⟨a0, rfl⟩, rfl⟩ := hI
      repeat' wp_step
      exact q true (iffT ((rs_ok hx).mp (by rw [hf]; rfl)))
    · subst e
      repeat' wp_step
      exact q false (iffF fun h => by
        have := (rs_ok hx).mpr h
        rw [hf] at this
        cases this)
end K75
set_option Elab.async false
set_option linter.all false
set_option autoImplicit false
set_option maxRecDepth 100000
set_option maxHeartbeats 1000000
namespace K75
open PySem PySem.Spec PyProof.Rows L2 Sl
local macro_rules | `(tactic| wp_step) => `(tactic| first
  | with_reducible refine wS_seq ?_
  | with_reducible refine seqK_nx ?_
  | with_reducible refine seqK_rt ?_
  | with_reducible refine seqK_bk ?_
  | with_reducible refine seqK_ct ?_
  | with_reducible refine fnQ_nx ?_
  | with_reducible refine fnQ_rt ?_
  | with_reducible refine turn_nx ?_
  | with_reducible refine turn_ct ?_
  | with_reducible refine turn_bk ?_
  | with_reducible refine turn_rt ?_
  | with_reducible refine wS_if ?_
  | with_reducible refine wS_set ?_
  | with_reducible refine wS_asg ?_
  | with_reducible refine wS_ret ?_
  | with_reducible refine wS_drop ?_
  | with_reducible refine wS_nx ?_
  | with_reducible refine wS_bk ?_
  | with_reducible refine wS_ct ?_
  | with_reducible refine wS_forS ?_
  | with_reducible refine wS_for1 ?_
  | with_reducible refine wS_setL ?_
  | with_reducible refine wS_dputK ?_
  | with_reducible refine wE_op ?_
  | with_reducible refine wE_c ?_
  | ((with_reducible apply wE_var); rfl)
  | with_reducible refine wE_call ?_
  | with_reducible refine wE_cb ?_
  | with_reducible refine wE_and ?_
  | with_reducible refine wE_or ?_
  | with_reducible refine wE_not ?_
  | with_reducible refine wE_if ?_
  | with_reducible refine wE_isi ?_
  | with_reducible refine wE_chain ?_
  | with_reducible refine wE_neg ?_
  | with_reducible refine wE_lst ?_
  | with_reducible refine wE_tup ?_
  | with_reducible refine wE_frz ?_
  | with_reducible refine wE_append ?_
  | with_reducible refine wE_sl ?_
  | with_reducible refine wE_rev ?_
  | with_reducible refine wE_dnew ?_
  | with_reducible refine wZ_d ?_
  | ((with_reducible apply isO_o); (first | assumption | exact app_get0 | exact app_get1 | exact app_get2 | exact List.getElem?_set_self (by assumption) | exact List.getElem?_set_self (by rw [List.length_set]; assumption) | (rw [List.getElem?_append_right (Nat.le_refl _), Nat.sub_self]; rfl) | exact getA0 (by assumption) | exact getA1 (by assumption)))
  | ((with_reducible apply wApp_o); (first | assumption | exact app_get0 | exact app_get1 | exact app_get2 | exact List.getElem?_set_self (by assumption) | exact List.getElem?_set_self (by rw [List.length_set]; assumption) | (rw [List.getElem?_append_right (Nat.le_refl _), Nat.sub_self]; rfl) | exact getA0 (by assumption) | exact getA1 (by assumption)))
  | ((with_reducible apply wD_o); (first | assumption | exact app_get0 | exact app_get1 | exact app_get2 | exact List.getElem?_set_self (by assumption) | exact List.getElem?_set_self (by rw [List.length_set]; assumption) | (rw [List.getElem?_append_right (Nat.le_refl _), Nat.sub_self]; rfl) | exact getA0 (by assumption) | exact getA1 (by assumption)))
  | ((with_reducible apply wZ_o); (first | assumption | exact app_get0 | exact app_get1 | exact app_get2 | exact List.getElem?_set_self (by assumption) | exact List.getElem?_set_self (by rw [List.length_set]; assumption) | (rw [List.getElem?_append_right (Nat.le_refl _), Nat.sub_self]; rfl) | exact getA0 (by assumption) | exact getA1 (by assumption)); exact allD_map' _)
  | with_reducible refine wE_rep ?_
  | with_reducible refine wE_sortSet ?_
  | with_reducible refine wE_lenSet ?_
  | with_reducible refine wE_comp1 ?_
  | with_reducible refine wE_compS ?_
  | with_reducible refine wP_none ?_
  | with_reducible refine wP_some ?_
  | with_reducible refine wA_nil ?_
  | with_reducible refine wA_cons ?_
  | with_reducible refine wA_app ?_
  | with_reducible refine wB_t ?_
  | with_reducible refine wB_f ?_
  | with_reducible refine wB_nt ?_
  | with_reducible refine wB_nf ?_
  | with_reducible refine wB_dec (fun _ => ?_) (fun _ => ?_)
  | with_reducible refine wB_not (fun _ => ?_) (fun _ => ?_)
  | with_reducible refine wB_nb (fun _ => ?_) (fun _ => ?_)
  | with_reducible refine wB_b (fun _ => ?_) (fun _ => ?_)
  | with_reducible refine wO_sub ?_
  | ((with_reducible apply wO_inS0); rfl)
  | ((with_reducible apply wO_inS1); rfl)
  | ((with_reducible apply wO_inD0); (first | assumption | exact app_get0 | exact app_get1 | exact app_get2 | exact List.getElem?_set_self (by assumption) | exact List.getElem?_set_self (by rw [List.length_set]; assumption) | (rw [List.getElem?_append_right (Nat.le_refl _), Nat.sub_self]; rfl) | exact getA0 (by assumption) | exact getA1 (by assumption)))
  | ((with_reducible apply wO_inD1); (first | assumption | exact app_get0 | exact app_get1 | exact app_get2 | exact List.getElem?_set_self (by assumption) | exact List.getElem?_set_self (by rw [List.length_set]; assumption) | (rw [List.getElem?_append_right (Nat.le_refl _), Nat.sub_self]; rfl) | exact getA0 (by assumption) | exact getA1 (by assumption)))
  | with_reducible refine wO_lt ?_
  | with_reducible refine wO_le ?_
  | with_reducible refine wO_gt ?_
  | with_reducible refine wO_ge ?_
  | with_reducible refine wO_add ?_
  | with_reducible refine wO_eqI ?_
  | with_reducible refine wO_neI ?_
  | with_reducible refine wO_isN ?_
  | with_reducible refine wO_notN ?_
  | with_reducible refine wC_lenL ?_
  | with_reducible refine wC_lenT ?_
  | with_reducible refine wC_int ?_
  | ((with_reducible apply wC_lenD); (first | assumption | exact app_get0 | exact app_get1 | exact app_get2 | exact List.getElem?_set_self (by assumption) | exact List.getElem?_set_self (by rw [List.length_set]; assumption) | (rw [List.getElem?_append_right (Nat.le_refl _), Nat.sub_self]; rfl) | exact getA0 (by assumption) | exact getA1 (by assumption)))
  | with_reducible refine wC_abs ?_
  | with_reducible refine wM_N ?_
  | with_reducible refine wM_Dm ?_
  | with_reducible refine wM_Tm ?_
  | ((with_reducible apply wM_T); rfl)
  | ((with_reducible apply wM_D); rfl)
  | (with_reducible refine Exists.intro _ (And.intro rfl ?_))
  | (with_reducible refine And.intro rfl ?_)
  | ((with_reducible refine And.intro (size_small ?_) ?_); rfl)
  | with_reducible refine wO_pow6 ?_
  | ((with_reducible refine wO_mulR ?_ ?_); decide)
  | ((with_reducible refine wO_mulL ?_ ?_); decide)
  | ((with_reducible refine wO_mod ?_ ?_); omega)
  | ((with_reducible refine wO_div ?_ ?_ ?_); omega; omega)
  | ((with_reducible apply wU_o); (first | assumption | exact app_get0 | exact app_get1 | exact app_get2 | exact List.getElem?_set_self (by assumption) | exact List.getElem?_set_self (by rw [List.length_set]; assumption) | (rw [List.getElem?_append_right (Nat.le_refl _), Nat.sub_self]; rfl) | exact getA0 (by assumption) | exact getA1 (by assumption)); rfl)
  | ((with_reducible apply wO_ixZ); (apply asSeq_o; (first | assumption | exact app_get0 | exact app_get1 | exact app_get2 | exact List.getElem?_set_self (by assumption) | exact List.getElem?_set_self (by rw [List.length_set]; assumption) | (rw [List.getElem?_append_right (Nat.le_refl _), Nat.sub_self]; rfl) | exact getA0 (by assumption) | exact getA1 (by assumption))); rfl))
theorem walk_ints {x : PyData} {r : List Int} (hx : seqD x = some (r.map .int)) {g : Tg} {body : SS} {env : Sl.Env} {st : Sto} {R : Fl → Prop} (w : wL g body (r.map fun t => VL.d (.int t)) env st R) :
    ∃ ds, (VL.d x = VL.d (.list ds) ∨ VL.d x = VL.d (.tuple ds)) ∧ wL g body (ds.map .d) env st R := by
  have e : (r.map PyData.int).map VL.d = r.map fun t => VL.d (.int t) := by rw [List.map_map]; rfl
  exact ⟨r.map .int, by rcases seqD_some hx with rfl | rfl <;> simp, by rw [e]; exact w⟩
theorem walk_any {x : PyData} {ds : List PyData} (hx : seqD x = some ds) {g : Tg} {body : SS} {env : Sl.Env} {st : Sto} {R : Fl → Prop} (w : wL g body (ds.map .d) env st R) :
    ∃ ds, (VL.d x = VL.d (.list ds) ∨ VL.d x = VL.d (.tuple ds)) ∧ wL g body (ds.map .d) env st R :=
  ⟨ds, by rcases seqD_some hx with rfl | rfl <;> simp, w⟩
theorem comp_ints {x : PyData} {r : List Int} (hx : seqD x = some (r.map .int)) {g : Tg} {t e : SE} {env : Sl.Env} {st : Sto} {mk : Mk} {Q : VL → Sto → Prop} (w : ∃ ys st2, compL g t e env (r.map fun t => VL.d (.int t)) [] st = some (ys, st2) ∧ wM mk ys st2 Q) :
    ∃ ds, (VL.d x = VL.d (.list ds) ∨ VL.d x = VL.d (.tuple ds)) ∧ ∃ ys st2, compL g t e env (ds.map .d) [] st = some (ys, st2) ∧ wM mk ys st2 Q := by
  have e' : (r.map PyData.int).map VL.d = r.map fun t => VL.d (.int t) := by rw [List.map_map]; rfl
  exact ⟨r.map .int, by rcases seqD_some hx with rfl | rfl <;> simp, by rw [e']; exact w⟩
theorem isRw_seq {r : List Int} {y : PyData} (h : IsRw r y) : seqD y = some (r.map .int) := by
  rcases h with rfl | rfl <;> rfl
theorem mem_take1 {α : Type} {xs : List α} {i : Nat} {a x : α} (h : xs[i]? = some a) : x ∈ xs.take (i + 1) ↔ x ∈ xs.take i ∨ x = a := by
  rw [List.take_add_one, h, List.mem_append]
  simp
/-! ### independent tasks -/
def IndOk (N : List (List Int)) (x : PyData) : Prop := ∃ r : List Int, seqD x = some (r.map .int) ∧ r.Pairwise (· < ·) ∧ (∀ t ∈ r, 0 ≤ t ∧ t < N.length) ∧ ∀ t ∈ r, ∀ o ∈ r, o ∉ at_ N t
theorem IndOk.at {N : List (List Int)} {x : PyData} {r : List Int} (hx : seqD x = some (r.map .int)) (h : IndOk N x) : r.Pairwise (· < ·) ∧ (∀ t ∈ r, 0 ≤ t ∧ t < N.length) ∧ ∀ t ∈ r, ∀ o ∈ r, o ∉ at_ N t := by
  obtain ⟨s, e, h⟩ := h
  rw [hx] at e
  cases ints_inj (Option.some.inj e)
  exact h
theorem are_independent_wp {T : List (List Int)} (hT : Tab T) {x : PyData} {st : Sto} {Q : VL → Sto → Prop} (q : ∀ N, Clo T N (List.range T.length) → ∀ b, (b = true ↔ IndOk N x) → Q (.d (.bool b)) st) : wF m_are_independent [.d (tbL T), .d x] st Q := by
  refine wF_run ?_
  unfold c_are_independent
  repeat' wp_step
  refine all_needs_wp hT fun N hN => ?_
  repeat' wp_step
  refine wF_of (is_rising_eq _ _) ?_
  repeat' wp_step
  · rename_i hb
    refine q N hN false (iffF fun ⟨r, e, h, _⟩ => ?_)
    rw [risX_iff.mpr ⟨r, e, h⟩] at hb
    cases hb
  · rename_i hb
    obtain ⟨r, hx, hr⟩ := risX_iff.mp hb
    refine walk_ints hx (wL_ix (v := fun t => VL.d (.int t)) (fun i env st' => (∃ a b, env = [some (.d (tbL T)), some (.d x), some (.d (tbT N)), a, b]) ∧ st = st' ∧ ∀ t ∈ r.take i, 0 ≤ t ∧ t < N.length)
      ⟨⟨_, _, rfl⟩, rfl, (fun t ht => by cases ht)⟩ (fun i t env st' ht hI => ?_) (fun env st' hI => ?_))
    · obtain ⟨⟨a, b, rfl⟩, rfl, hp⟩ := hI
      refine ⟨_, rfl, ?_⟩
      unfold c_are_independent_B2
      repeat' wp_step
      refine isTb_len (.inl rfl) ?_
      repeat' wp_step
      refine wF_of (is_between_eq _ _ _ _) ?_
      repeat' wp_step
      · rename_i hb2
        refine q N hN false (iffF fun h => ?_)
        have h2 := (IndOk.at hx h).2.1 t (List.mem_of_getElem? ht)
        rw [btw_iff.mpr ⟨t, rfl, h2.1, (by omega : t ≤ (N.length : Int) - 1)⟩] at hb2
        cases hb2
      · rename_i hb2
        obtain ⟨_, e, h1, h2⟩ := btw_iff.mp hb2
        cases e
        refine ⟨⟨_, _, rfl⟩, rfl, fun s hs => ?_⟩
        rcases (mem_take1 ht).mp hs with hs | rfl
        · exact hp s hs
        · exact ⟨h1, by omega⟩
    · obtain ⟨⟨a, b, rfl⟩, rfl, hp⟩ := hI
      rw [List.take_length] at hp
      repeat' wp_step
      refine walk_ints hx (wL_ix (v := fun t => VL.d (.int t)) (fun i env st' => (∃ a b, env = [some (.d (tbL T)), some (.d x), some (.d (tbT N)), a, b]) ∧ st = st' ∧ ∀ t ∈ r.take i, ∀ o ∈ r, o ∉ at_ N t)
        ⟨⟨_, _, rfl⟩, rfl, (fun t ht => by cases ht)⟩ (fun i t env st' ht hI => ?_) (fun env st' hI => ?_))
      · obtain ⟨⟨a1, b1, rfl⟩, rfl, hk⟩ := hI
        have htm := List.mem_of_getElem? ht
        refine ⟨_, rfl, ?_⟩
        unfold c_are_independent_B1
        repeat' wp_step
        refine walk_ints hx (wL_ix (v := fun t => VL.d (.int t)) (fun j env st' => (∃ b, env = [some (.d (tbL T)), some (.d x), some (.d (tbT N)), some (.d (.int t)), b]) ∧ st = st' ∧ ∀ o ∈ r.take j, o ∉ at_ N t)
          ⟨⟨_, rfl⟩, rfl, (fun t ht => by cases ht)⟩ (fun j o env st' ho hI => ?_) (fun env st' hI => ?_))
        · obtain ⟨⟨b2, rfl⟩, rfl, hj⟩ := hI
          have hom := List.mem_of_getElem? ho
          refine ⟨_, rfl, ?_⟩
          unfold c_are_independent_B0
          repeat' wp_step
          refine isTb_ix (.inl rfl) (hp t htm).1 (hp t htm).2 fun z hz => ?_
          refine isRw_in0 hz ?_
          repeat' wp_step
          · rename_i hin
            exact q N hN false (iffF fun h => (IndOk.at hx h).2.2 t htm o hom hin)
          · rename_i hin
            refine ⟨⟨_, rfl⟩, rfl, fun s hs => ?_⟩
            rcases (mem_take1 ho).mp hs with hs | rfl
            · exact hj s hs
            · exact hin
        · obtain ⟨⟨b2, rfl⟩, rfl, hj⟩ := hI
          rw [List.take_length] at hj
          repeat' wp_step
          refine ⟨⟨_, _, rfl⟩, rfl, fun s hs => ?_⟩
          rcases (mem_take1 ht).mp hs with hs | rfl
          · exact hk s hs
          · exact hj
      · obtain ⟨⟨a1, b1, rfl⟩, rfl, hk⟩ := hI
        rw [List.take_length] at hk
        repeat' wp_step
        exact q N hN true (iffT ⟨r, hx, hr, hp, hk⟩)
theorem l_apart_wp {N : List (List Int)} {x y : PyData} (hy : IsTb N y) (hs : ∀ ds, seqD x = some ds → ds.length < 1000) {st : Sto} {Q : VL → Sto → Prop} (q : ∀ b, (b = true ↔ IndOk N x) → Q (.d (.bool b)) st) : wF m__law_apart [.d y, .d x] st Q := by
  refine wF_run ?_
  unfold c__law_apart
  repeat' wp_step
  refine isTb_len hy ?_
  repeat' wp_step
  refine l_rising_wp fun b hb => ?_
  cases b with
  | false =>
    repeat' wp_step
    exact q false (iffF fun ⟨r, e, h1, h2, _⟩ => by cases hb.mpr ⟨r, e, h1, h2⟩)
  | true =>
    obtain ⟨r, hx, hr, hp⟩ := hb.mp rfl
    have hl := hs _ hx
    rw [List.length_map] at hl
    repeat' wp_step
    refine walk_ints hx (wL_ix (v := fun t => VL.d (.int t)) (fun i env st' => (∃ a b, env = [some (.d y), some (.d x), a, b]) ∧ st = st' ∧ ∀ t ∈ r.take i, ∀ o ∈ r, o ∉ at_ N t)
      ⟨⟨_, _, rfl⟩, rfl, (fun t ht => by cases ht)⟩ (fun i t env st' ht hI => ?_) (fun env st' hI => ?_))
    · obtain ⟨⟨a, b, rfl⟩, rfl, hk⟩ := hI
      have htm := List.mem_of_getElem? ht
      refine ⟨_, rfl, ?_⟩
      unfold c__law_apart_B2
      repeat' wp_step
      refine comp_ints hx ⟨_, _, comp_pure (v := fun t => VL.d (.int t)) (fun o => decide (o ∈ at_ N t)) (fun o => VL.d (.int o)) (size_le (by omega)) (fun o ho => ?_), ?_⟩
      · refine ⟨_, rfl, ?_, fun _ => ?_⟩
        · unfold c__law_apart_T0
          repeat' wp_step
          refine isTb_ix hy (hp t htm).1 (hp t htm).2 fun z hz => ?_
          refine isRw_in0 hz ?_
          exact ⟨rfl, rfl⟩
        · unfold c__law_apart_E1
          repeat' wp_step
          exact rfl
      · have e : (r.filter fun o => decide (o ∈ at_ N t)).map (fun o => VL.d (.int o)) = ((r.filter fun o => decide (o ∈ at_ N t)).map PyData.int).map VL.d := by rw [List.map_map]; rfl
        rw [e]
        repeat' wp_step
        · rename_i h0
          refine q false (iffF fun h => ?_)
          rw [List.length_map] at h0
          have h1 : 0 < (r.filter fun o => decide (o ∈ at_ N t)).length := by omega
          obtain ⟨o, ho⟩ := List.exists_mem_of_length_pos h1
          obtain ⟨h2, h3⟩ := List.mem_filter.mp ho
          exact (IndOk.at hx h).2.2 t htm o h2 (of_decide_eq_true h3)
        · rename_i h0
          refine ⟨⟨_, _, rfl⟩, rfl, fun s hs' => ?_⟩
          rcases (mem_take1 ht).mp hs' with hs' | rfl
          · exact hk s hs'
          · intro o ho hin
            have : o ∈ r.filter fun o => decide (o ∈ at_ N s) := List.mem_filter.mpr ⟨ho, decide_eq_true hin⟩
            have := List.length_pos_of_mem this
            rw [List.length_map] at h0
            omega
    · obtain ⟨⟨a, b, rfl⟩, rfl, hk⟩ := hI
      rw [List.take_length] at hk
      repeat' wp_step
      exact q true (iffT ⟨r, hx, hr, hp, hk⟩)
end K75
set_option Elab.async false
set_option linter.all false
set_option autoImplicit false
set_option maxRecDepth 100000
set_option maxHeartbeats 1000000
namespace K75
open PySem PySem.Spec PyProof.Rows L2 Sl
local macro_rules | `(tactic| wp_step) => `(tactic| first
  | with_reducible refine wS_seq ?_
  | with_reducible refine seqK_nx ?_
  | with_reducible refine seqK_rt ?_
  | with_reducible refine seqK_bk ?_
  | with_reducible refine seqK_ct ?_
  | with_reducible refine fnQ_nx ?_
  | with_reducible refine fnQ_rt ?_
  | with_reducible refine turn_nx ?_
  | with_reducible refine turn_ct ?_
  | with_reducible refine turn_bk ?_
  | with_reducible refine turn_rt ?_
  | with_reducible refine wS_if ?_
  | with_reducible refine wS_set ?_
  | with_reducible refine wS_asg ?_
  | with_reducible refine wS_ret ?_
  | with_reducible refine wS_drop ?_
  | with_reducible refine wS_nx ?_
  | with_reducible refine wS_bk ?_
  | with_reducible refine wS_ct ?_
  | with_reducible refine wS_forS ?_
  | with_reducible refine wS_for1 ?_
  | with_reducible refine wS_setL ?_
  | with_reducible refine wS_dputK ?_
  | with_reducible refine wE_op ?_
  | with_reducible refine wE_c ?_
  | ((with_reducible apply wE_var); rfl)
  | with_reducible refine wE_call ?_
  | with_reducible refine wE_cb ?_
  | with_reducible refine wE_and ?_
  | with_reducible refine wE_or ?_
  | with_reducible refine wE_not ?_
  | with_reducible refine wE_if ?_
  | with_reducible refine wE_isi ?_
  | with_reducible refine wE_chain ?_
  | with_reducible refine wE_neg ?_
  | with_reducible refine wE_lst ?_
  | with_reducible refine wE_tup ?_
  | with_reducible refine wE_frz ?_
  | with_reducible refine wE_append ?_
  | with_reducible refine wE_sl ?_
  | with_reducible refine wE_rev ?_
  | with_reducible refine wE_dnew ?_
  | with_reducible refine wZ_d ?_
  | ((with_reducible apply isO_o); (first | assumption | exact app_get0 | exact app_get1 | exact app_get2 | exact List.getElem?_set_self (by assumption) | exact List.getElem?_set_self (by rw [List.length_set]; assumption) | (rw [List.getElem?_append_right (Nat.le_refl _), Nat.sub_self]; rfl) | exact getA0 (by assumption) | exact getA1 (by assumption)))
  | ((with_reducible apply wApp_o); (first | assumption | exact app_get0 | exact app_get1 | exact app_get2 | exact List.getElem?_set_self (by assumption) | exact List.getElem?_set_self (by rw [List.length_set]; assumption) | (rw [List.getElem?_append_right (Nat.le_refl _), Nat.sub_self]; rfl) | exact getA0 (by assumption) | exact getA1 (by assumption)))
  | ((with_reducible apply wD_o); (first | assumption | exact app_get0 | exact app_get1 | exact app_get2 | exact List.getElem?_set_self (by assumption) | exact List.getElem?_set_self (by rw [List.length_set]; assumption) | (rw [List.getElem?_append_right (Nat.le_refl _), Nat.sub_self]; rfl) | exact getA0 (by assumption) | exact getA1 (by assumption)))
  | ((with_reducible apply wZ_o); (first | assumption | exact app_get0 | exact app_get1 | exact app_get2 | exact List.getElem?_set_self (by assumption) | exact List.getElem?_set_self (by rw [List.length_set]; assumption) | (rw [List.getElem?_append_right (Nat.le_refl _), Nat.sub_self]; rfl) | exact getA0 (by assumption) | exact getA1 (by assumption)); exact allD_map' _)
  | with_reducible refine wE_rep ?_
  | with_reducible refine wE_sortSet ?_
  | with_reducible refine wE_lenSet ?_
  | with_reducible refine wE_comp1 ?_
  | with_reducible refine wE_compS ?_
  | with_reducible refine wP_none ?_
  | with_reducible refine wP_some ?_
  | with_reducible refine wA_nil ?_
  | with_reducible refine wA_cons ?_
  | with_reducible refine wA_app ?_
  | with_reducible refine wB_t ?_
  | with_reducible refine wB_f ?_
  | with_reducible refine wB_nt ?_
  | with_reducible refine wB_nf ?_
  | with_reducible refine wB_dec (fun _ => ?_) (fun _ => ?_)
  | with_reducible refine wB_not (fun _ => ?_) (fun _ => ?_)
  | with_reducible refine wB_nb (fun _ => ?_) (fun _ => ?_)
  | with_reducible refine wB_b (fun _ => ?_) (fun _ => ?_)
  | with_reducible refine wO_sub ?_
  | ((with_reducible apply wO_inS0); rfl)
  | ((with_reducible apply wO_inS1); rfl)
  | ((with_reducible apply wO_inD0); (first | assumption | exact app_get0 | exact app_get1 | exact app_get2 | exact List.getElem?_set_self (by assumption) | exact List.getElem?_set_self (by rw [List.length_set]; assumption) | (rw [List.getElem?_append_right (Nat.le_refl _), Nat.sub_self]; rfl) | exact getA0 (by assumption) | exact getA1 (by assumption)))
  | ((with_reducible apply wO_inD1); (first | assumption | exact app_get0 | exact app_get1 | exact app_get2 | exact List.getElem?_set_self (by assumption) | exact List.getElem?_set_self (by rw [List.length_set]; assumption) | (rw [List.getElem?_append_right (Nat.le_refl _), Nat.sub_self]; rfl) | exact getA0 (by assumption) | exact getA1 (by assumption)))
  | with_reducible refine wO_lt ?_
  | with_reducible refine wO_le ?_
  | with_reducible refine wO_gt ?_
  | with_reducible refine wO_ge ?_
  | with_reducible refine wO_add ?_
  | with_reducible refine wO_eqI ?_
  | with_reducible refine wO_neI ?_
  | with_reducible refine wO_isN ?_
  | with_reducible refine wO_notN ?_
  | with_reducible refine wC_lenL ?_
  | with_reducible refine wC_lenT ?_
  | with_reducible refine wC_int ?_
  | ((with_reducible apply wC_lenD); (first | assumption | exact app_get0 | exact app_get1 | exact app_get2 | exact List.getElem?_set_self (by assumption) | exact List.getElem?_set_self (by rw [List.length_set]; assumption) | (rw [List.getElem?_append_right (Nat.le_refl _), Nat.sub_self]; rfl) | exact getA0 (by assumption) | exact getA1 (by assumption)))
  | with_reducible refine wC_abs ?_
  | with_reducible refine wM_N ?_
  | with_reducible refine wM_Dm ?_
  | with_reducible refine wM_Tm ?_
  | ((with_reducible apply wM_T); rfl)
  | ((with_reducible apply wM_D); rfl)
  | (with_reducible refine Exists.intro _ (And.intro rfl ?_))
  | (with_reducible refine And.intro rfl ?_)
  | ((with_reducible refine And.intro (size_small ?_) ?_); rfl)
  | with_reducible refine wO_pow6 ?_
  | ((with_reducible refine wO_mulR ?_ ?_); decide)
  | ((with_reducible refine wO_mulL ?_ ?_); decide)
  | ((with_reducible refine wO_mod ?_ ?_); omega)
  | ((with_reducible refine wO_div ?_ ?_ ?_); omega; omega)
  | ((with_reducible apply wU_o); (first | assumption | exact app_get0 | exact app_get1 | exact app_get2 | exact List.getElem?_set_self (by assumption) | exact List.getElem?_set_self (by rw [List.length_set]; assumption) | (rw [List.getElem?_append_right (Nat.le_refl _), Nat.sub_self]; rfl) | exact getA0 (by assumption) | exact getA1 (by assumption)); rfl)
  | ((with_reducible apply wO_ixZ); (apply asSeq_o; (first | assumption | exact app_get0 | exact app_get1 | exact app_get2 | exact List.getElem?_set_self (by assumption) | exact List.getElem?_set_self (by rw [List.length_set]; assumption) | (rw [List.getElem?_append_right (Nat.le_refl _), Nat.sub_self]; rfl) | exact getA0 (by assumption) | exact getA1 (by assumption))); rfl))
/-! ### a dict of tasks -/
structure Keys (kvs : List (Key × VL)) (seen : List Int) : Prop where
  has : ∀ y, has kvs y = true ↔ y ∈ seen
  len : kvs.length = seen.length
theorem Keys.put {kvs : List (Key × VL)} {seen : List Int} (h : Keys kvs seen) {t : Int} (ht : t ∉ seen) (z : VL) : Keys (putL kvs (.inl t) z) (seen ++ [t]) where
  has := fun y => by
    have h1 := h.has y
    unfold K75.has at h1 ⊢
    rw [valL_put, List.mem_append, List.mem_singleton]
    by_cases e : y = t
    · subst e
      simp
    · have e2 : ¬ (Sum.inl y : Key) = Sum.inl t := fun k => e (Sum.inl.inj k)
      rw [if_neg e2, h1]
      exact ⟨.inl, fun k => k.resolve_right e⟩
  len := by
    have h1 := h.has t
    unfold K75.has at h1
    rw [putL_len, if_neg (fun e => ht (h1.mp e)), h.len, List.length_append]
    rfl
theorem Keys.nil : Keys [] [] := ⟨fun y => ⟨(fun h => by cases h), (fun h => by cases h)⟩, rfl⟩
theorem Keys.val {kvs : List (Key × VL)} {seen : List Int} (h : Keys kvs seen) {t : Int} : (valL kvs (.inl t)).isSome = true ↔ t ∈ seen := h.has t
theorem Keys.not {kvs : List (Key × VL)} {seen : List Int} (h : Keys kvs seen) {t : Int} : (valL kvs (.inl t)).isSome = false ↔ t ∉ seen := by
  rw [← h.val]
  simp
/-! ### blocks -/
def BlS (N : List (List Int)) (s : List Int × List Int) (d : PyData) (s1 : List Int × List Int) : Prop :=
  ∃ r : List Int, seqD d = some (r.map .int) ∧ r ≠ [] ∧ r.Pairwise (· < ·) ∧ (∀ t ∈ r, 0 ≤ t ∧ t < N.length) ∧ (∀ t ∈ r, t ∉ s.1) ∧ (∀ t ∈ r, ∀ k ∈ s.2, k ∈ at_ N t) ∧ s1 = (s.1 ++ r, r)
theorem BlS.at {N : List (List Int)} {s s1 : List Int × List Int} {d : PyData} {r : List Int} (hd : seqD d = some (r.map .int)) (h : BlS N s d s1) :
    r ≠ [] ∧ r.Pairwise (· < ·) ∧ (∀ t ∈ r, 0 ≤ t ∧ t < N.length) ∧ (∀ t ∈ r, t ∉ s.1) ∧ (∀ t ∈ r, ∀ k ∈ s.2, k ∈ at_ N t) ∧ s1 = (s.1 ++ r, r) := by
  obtain ⟨r', e, h⟩ := h
  rw [hd] at e
  cases ints_inj (Option.some.inj e)
  exact h
theorem BlS.fn {N : List (List Int)} (s : List Int × List Int) (d : PyData) (s1 s2 : List Int × List Int) (a : BlS N s d s1) (b : BlS N s d s2) : s1 = s2 := by
  obtain ⟨r, hd, h⟩ := a
  have h2 := BlS.at hd b
  rw [h.2.2.2.2.2, h2.2.2.2.2.2]
def BlOk (N : List (List Int)) (x : PyData) : Prop := ∃ ds, seqD x = some ds ∧ ∃ s', RunS (BlS N) ([], []) ds s'
theorem blOk_at {N : List (List Int)} {x : PyData} {ds : List PyData} (hx : seqD x = some ds) (h : BlOk N x) : ∃ s', RunS (BlS N) ([], []) ds s' := by
  obtain ⟨ds', e, h⟩ := h
  rw [hx] at e
  cases e
  exact h
theorem needs_all_wp {N : List (List Int)} {x y z : PyData} (hz : IsTb N z) {r s : List Int} (hx : seqD x = some (r.map .int)) (hy : seqD y = some (s.map .int)) (hr : ∀ t ∈ r, 0 ≤ t ∧ t < N.length) {st : Sto} {Q : VL → Sto → Prop}
    (q : ∀ b, (b = true ↔ ∀ t ∈ r, ∀ k ∈ s, k ∈ at_ N t) → Q (.d (.bool b)) st) : wF m_needs_all [.d z, .d x, .d y] st Q := by
  refine wF_run ?_
  unfold c_needs_all
  repeat' wp_step
  refine walk_ints hx (wL_ix (v := fun t => VL.d (.int t)) (fun i env st' => (∃ a b, env = [some (.d z), some (.d x), some (.d y), a, b]) ∧ st = st' ∧ ∀ t ∈ r.take i, ∀ k ∈ s, k ∈ at_ N t)
    ⟨⟨_, _, rfl⟩, rfl, (fun t ht => by cases ht)⟩ (fun i t env st' ht hI => ?_) (fun env st' hI => ?_))
  · obtain ⟨⟨a, b, rfl⟩, rfl, hp⟩ := hI
    have htm := List.mem_of_getElem? ht
    refine ⟨_, rfl, ?_⟩
    unfold c_needs_all_B1
    repeat' wp_step
    refine walk_ints hy (wL_ix (v := fun t => VL.d (.int t)) (fun j env st' => (∃ b, env = [some (.d z), some (.d x), some (.d y), some (.d (.int t)), b]) ∧ st = st' ∧ ∀ k ∈ s.take j, k ∈ at_ N t)
      ⟨⟨_, rfl⟩, rfl, (fun t ht => by cases ht)⟩ (fun j k env st' hk hI => ?_) (fun env st' hI => ?_))
    · obtain ⟨⟨b1, rfl⟩, rfl, hj⟩ := hI
      refine ⟨_, rfl, ?_⟩
      unfold c_needs_all_B0
      repeat' wp_step
      refine isTb_ix hz (hr t htm).1 (hr t htm).2 fun w hw => ?_
      refine isRw_in1 hw ?_
      repeat' wp_step
      · rename_i hn
        exact q false (iffF fun h => hn (h t htm k (List.mem_of_getElem? hk)))
      · rename_i hn
        refine ⟨⟨_, rfl⟩, rfl, fun u hu => ?_⟩
        rcases (mem_take1 hk).mp hu with hu | rfl
        · exact hj u hu
        · exact hn
    · obtain ⟨⟨b1, rfl⟩, rfl, hj⟩ := hI
      rw [List.take_length] at hj
      repeat' wp_step
      refine ⟨⟨_, _, rfl⟩, rfl, fun u hu => ?_⟩
      rcases (mem_take1 ht).mp hu with hu | rfl
      · exact hp u hu
      · exact hj
  · obtain ⟨⟨a, b, rfl⟩, rfl, hp⟩ := hI
    rw [List.take_length] at hp
    repeat' wp_step
    exact q true (iffT hp)
theorem take_nodup {seen r : List Int} (h1 : seen.Nodup) (h2 : r.Nodup) (h3 : ∀ t ∈ r, t ∉ seen) : (seen ++ r).Nodup := by
  rw [List.nodup_append]
  exact ⟨h1, h2, fun a ha b hb e => h3 b hb (e ▸ ha)⟩
theorem are_blocks_wp {T : List (List Int)} (hT : Tab T) {x : PyData} {st : Sto} {Q : VL → Sto → Prop} (q : ∀ N, Clo T N (List.range T.length) → ∀ b, (b = true ↔ BlOk N x) → Q (.d (.bool b)) st) : wF m_are_blocks [.d (tbL T), .d x] st Q := by
  have hlen := hT.len
  refine wF_cut (wF_run ?_)
  unfold c_are_blocks
  repeat' wp_step
  refine all_needs_wp hT fun N hN => ?_
  have hNl := hN.len
  repeat' wp_step
  refine wF_of (is_row_eq _ _) ?_
  cases hx : seqD x with
  | none =>
    simp only [Option.isSome]
    repeat' wp_step
    refine ⟨cutOk_same (List.take_length), ?_⟩
    rw [List.take_length]
    exact q N hN false (iffF fun ⟨ds, e, _⟩ => by rw [hx] at e; cases e)
  | some ds =>
    simp only [Option.isSome]
    repeat' wp_step
    refine walk_any hx (wL_run (v := VL.d) (BlS N) BlS.fn (fun i s env st' => (∃ bv a b, seqD bv = some (s.2.map .int) ∧ env = [some (.d (tbL T)), some (.d x), some (.d (tbT N)), some (.o st.length), some (.d bv), a, b]) ∧
        (∃ kvs, st' = st ++ [.dk kvs] ∧ Keys kvs s.1) ∧ s.1.Nodup ∧ ∀ t ∈ s.1, 0 ≤ t ∧ t < N.length) (fun st' => ∃ l, st' = st ++ l) (s0 := ([], []))
      ⟨⟨.tuple [], _, _, rfl, rfl⟩, ⟨[], rfl, Keys.nil⟩, List.nodup_nil, (fun t ht => by cases ht)⟩ (fun i s d env st' hd hI => ?_) (fun s' env st' hrun hun hI => ?_) (fun hno st' hb => ?_))
    · obtain ⟨⟨bv, a, b, hbv, rfl⟩, ⟨kvs, rfl, hk⟩, hnd, hrg⟩ := hI
      refine ⟨_, rfl, ?_⟩
      unfold c_are_blocks_B1
      repeat' wp_step
      refine wF_of (is_rising_eq _ _) ?_
      repeat' wp_step
      · rename_i hb
        refine .inr ⟨fun s1 ⟨r, e, h1, h2, _⟩ => ?_, _, rfl, _, rfl⟩
        rw [risX_iff.mpr ⟨r, e, h2⟩] at hb
        cases hb
      · rename_i hb
        obtain ⟨r, hr, hrp⟩ := risX_iff.mp hb
        refine lenX (seqD_some hr) ?_
        repeat' wp_step
        · rename_i h0
          refine .inr ⟨fun s1 h => ?_, _, rfl, _, rfl⟩
          have := (BlS.at hr h).1
          rw [List.length_map] at h0
          exact this (List.length_eq_zero_iff.mp (by omega))
        · rename_i h0
          have hne : r ≠ [] := fun e => h0 (by rw [e]; rfl)
          refine walk_ints hr (wL_ix (v := fun t => VL.d (.int t)) (fun j env st' => (∃ b, env = [some (.d (tbL T)), some (.d x), some (.d (tbT N)), some (.o st.length), some (.d bv), some (.d d), b]) ∧
              (∃ kvs, st' = st ++ [.dk kvs] ∧ Keys kvs (s.1 ++ r.take j)) ∧ (∀ t ∈ r.take j, 0 ≤ t ∧ t < N.length) ∧ ∀ t ∈ r.take j, t ∉ s.1)
            ⟨⟨_, rfl⟩, ⟨kvs, rfl, by simpa using hk⟩, (fun t ht => by cases ht), (fun t ht => by cases ht)⟩ (fun j t env st' ht hI => ?_) (fun env st' hI => ?_))
          · obtain ⟨⟨b1, rfl⟩, ⟨kvs1, rfl, hk1⟩, hp1, hp2⟩ := hI
            have htm := List.mem_of_getElem? ht
            have hjl := (List.getElem?_eq_some_iff.mp ht).1
            have htk : t ∉ r.take j := by
              have := rise_nodup hrp
              have e : r = r.take j ++ t :: r.drop (j + 1) := by
                rw [← (List.getElem?_eq_some_iff.mp ht).2, List.getElem_cons_drop, List.take_append_drop]
              rw [e, List.nodup_append] at this
              exact fun h => this.2.2 t h t (by simp) rfl
            refine ⟨_, rfl, ?_⟩
            unfold c_are_blocks_B0
            repeat' wp_step
            refine lenT ?_
            repeat' wp_step
            refine wF_of (is_between_eq _ _ _ _) ?_
            repeat' wp_step
            · rename_i hb2
              refine .inr ⟨fun s1 h => ?_, _, rfl, _, rfl⟩
              have h2 := (BlS.at hr h).2.2.1 t htm
              rw [btw_iff.mpr ⟨t, rfl, h2.1, (by omega : t ≤ (T.length : Int) - 1)⟩] at hb2
              cases hb2
            · rename_i hb2 hin
              refine .inr ⟨fun s1 h => ?_, _, rfl, _, rfl⟩
              rcases List.mem_append.mp (hk1.val.mp hin) with h3 | h3
              · exact (BlS.at hr h).2.2.2.1 t htm h3
              · exact htk h3
            · rename_i hb2 hin
              have hn := hk1.not.mp hin
              refine size_lt ?_
              have h4 := nodup_len (n := N.length) (r := s.1 ++ r.take j) (take_nodup hnd ((rise_nodup hrp).sublist (List.take_sublist _ _)) hp2) fun y hy => by
                rcases List.mem_append.mp hy with hy | hy
                · exact hrg y hy
                · exact hp1 y hy
              rw [hk1.len]
              omega
            · rename_i hb2 hin
              have hn := hk1.not.mp hin
              obtain ⟨_, e, h1, h2⟩ := btw_iff.mp hb2
              cases e
              rw [app_set0]
              have ee : s.1 ++ r.take (j + 1) = (s.1 ++ r.take j) ++ [t] := by
                rw [List.take_add_one, ht, List.append_assoc]
                rfl
              refine ⟨⟨_, rfl⟩, ⟨_, rfl, by rw [ee]; exact hk1.put hn _⟩, fun u hu => ?_, fun u hu => ?_⟩
              · rcases (mem_take1 ht).mp hu with hu | rfl
                · exact hp1 u hu
                · exact ⟨h1, by omega⟩
              · rcases (mem_take1 ht).mp hu with hu | rfl
                · exact hp2 u hu
                · exact fun h => hn (List.mem_append_left _ h)
          · obtain ⟨⟨b1, rfl⟩, ⟨kvs1, rfl, hk1⟩, hp1, hp2⟩ := hI
            rw [List.take_length] at hk1 hp1 hp2
            repeat' wp_step
            refine needs_all_wp (.inl rfl) hr hbv hp1 fun b2 hb2 => ?_
            cases b2 with
            | false =>
              repeat' wp_step
              refine .inr ⟨fun s1 h => ?_, _, rfl, _, rfl⟩
              cases hb2.mpr (BlS.at hr h).2.2.2.2.1
            | true =>
              repeat' wp_step
              refine .inl ⟨(s.1 ++ r, r), ⟨r, hr, hne, hrp, hp1, hp2, hb2.mp rfl, rfl⟩, _, _, rfl, ⟨_, _, _, hr, rfl⟩, ⟨_, rfl, hk1⟩, take_nodup hnd (rise_nodup hrp) hp2, fun u hu => ?_⟩
              rcases List.mem_append.mp hu with hu | hu
              · exact hrg u hu
              · exact hp1 u hu
    · obtain ⟨⟨bv, a, b, hbv, rfl⟩, ⟨kvs, rfl, hk⟩, hnd, hrg⟩ := hI
      repeat' wp_step
      refine ⟨cutOk_app _ _, ?_⟩
      rw [take_app]
      exact q N hN true (iffT ⟨ds, hx, s', hrun⟩)
    · obtain ⟨l, rfl⟩ := hb
      repeat' wp_step
      refine ⟨cutOk_app _ _, ?_⟩
      rw [take_app]
      exact q N hN false (iffF fun h => by
        obtain ⟨s', h⟩ := blOk_at hx h
        exact hno s' h)
end K75
set_option Elab.async false
set_option linter.all false
set_option autoImplicit false
set_option maxRecDepth 100000
set_option maxHeartbeats 1000000
namespace K75
open PySem PySem.Spec PyProof.Rows L2 Sl
local macro_rules | `(tactic| wp_step) => `(tactic| first
  | with_reducible refine wS_seq ?_
  | with_reducible refine seqK_nx ?_
  | with_reducible refine seqK_rt ?_
  | with_reducible refine seqK_bk ?_
  | with_reducible refine seqK_ct ?_
  | with_reducible refine fnQ_nx ?_
  | with_reducible refine fnQ_rt ?_
  | with_reducible refine turn_nx ?_
  | with_reducible refine turn_ct ?_
  | with_reducible refine turn_bk ?_
  | with_reducible refine turn_rt ?_
  | with_reducible refine wS_if ?_
  | with_reducible refine wS_set ?_
  | with_reducible refine wS_asg ?_
  | with_reducible refine wS_ret ?_
  | with_reducible refine wS_drop ?_
  | with_reducible refine wS_nx ?_
  | with_reducible refine wS_bk ?_
  | with_reducible refine wS_ct ?_
  | with_reducible refine wS_forS ?_
  | with_reducible refine wS_for1 ?_
  | with_reducible refine wS_setL ?_
  | with_reducible refine wS_dputK ?_
  | with_reducible refine wE_op ?_
  | with_reducible refine wE_c ?_
  | ((with_reducible apply wE_var); rfl)
  | with_reducible refine wE_call ?_
  | with_reducible refine wE_cb ?_
  | with_reducible refine wE_and ?_
  | with_reducible refine wE_or ?_
  | with_reducible refine wE_not ?_
  | with_reducible refine wE_if ?_
  | with_reducible refine wE_isi ?_
  | with_reducible refine wE_chain ?_
  | with_reducible refine wE_neg ?_
  | with_reducible refine wE_lst ?_
  | with_reducible refine wE_tup ?_
  | with_reducible refine wE_frz ?_
  | with_reducible refine wE_append ?_
  | with_reducible refine wE_sl ?_
  | with_reducible refine wE_rev ?_
  | with_reducible refine wE_dnew ?_
  | with_reducible refine wZ_d ?_
  | ((with_reducible apply isO_o); (first | assumption | exact app_get0 | exact app_get1 | exact app_get2 | exact List.getElem?_set_self (by assumption) | exact List.getElem?_set_self (by rw [List.length_set]; assumption) | (rw [List.getElem?_append_right (Nat.le_refl _), Nat.sub_self]; rfl) | exact getA0 (by assumption) | exact getA1 (by assumption)))
  | ((with_reducible apply wApp_o); (first | assumption | exact app_get0 | exact app_get1 | exact app_get2 | exact List.getElem?_set_self (by assumption) | exact List.getElem?_set_self (by rw [List.length_set]; assumption) | (rw [List.getElem?_append_right (Nat.le_refl _), Nat.sub_self]; rfl) | exact getA0 (by assumption) | exact getA1 (by assumption)))
  | ((with_reducible apply wD_o); (first | assumption | exact app_get0 | exact app_get1 | exact app_get2 | exact List.getElem?_set_self (by assumption) | exact List.getElem?_set_self (by rw [List.length_set]; assumption) | (rw [List.getElem?_append_right (Nat.le_refl _), Nat.sub_self]; rfl) | exact getA0 (by assumption) | exact getA1 (by assumption)))
  | ((with_reducible apply wZ_o); (first | assumption | exact app_get0 | exact app_get1 | exact app_get2 | exact List.getElem?_set_self (by assumption) | exact List.getElem?_set_self (by rw [List.length_set]; assumption) | (rw [List.getElem?_append_right (Nat.le_refl _), Nat.sub_self]; rfl) | exact getA0 (by assumption) | exact getA1 (by assumption)); exact allD_map' _)
  | with_reducible refine wE_rep ?_
  | with_reducible refine wE_sortSet ?_
  | with_reducible refine wE_lenSet ?_
  | with_reducible refine wE_comp1 ?_
  | with_reducible refine wE_compS ?_
  | with_reducible refine wP_none ?_
  | with_reducible refine wP_some ?_
  | with_reducible refine wA_nil ?_
  | with_reducible refine wA_cons ?_
  | with_reducible refine wA_app ?_
  | with_reducible refine wB_t ?_
  | with_reducible refine wB_f ?_
  | with_reducible refine wB_nt ?_
  | with_reducible refine wB_nf ?_
  | with_reducible refine wB_dec (fun _ => ?_) (fun _ => ?_)
  | with_reducible refine wB_not (fun _ => ?_) (fun _ => ?_)
  | with_reducible refine wB_nb (fun _ => ?_) (fun _ => ?_)
  | with_reducible refine wB_b (fun _ => ?_) (fun _ => ?_)
  | with_reducible refine wO_sub ?_
  | ((with_reducible apply wO_inS0); rfl)
  | ((with_reducible apply wO_inS1); rfl)
  | ((with_reducible apply wO_inD0); (first | assumption | exact app_get0 | exact app_get1 | exact app_get2 | exact List.getElem?_set_self (by assumption) | exact List.getElem?_set_self (by rw [List.length_set]; assumption) | (rw [List.getElem?_append_right (Nat.le_refl _), Nat.sub_self]; rfl) | exact getA0 (by assumption) | exact getA1 (by assumption)))
  | ((with_reducible apply wO_inD1); (first | assumption | exact app_get0 | exact app_get1 | exact app_get2 | exact List.getElem?_set_self (by assumption) | exact List.getElem?_set_self (by rw [List.length_set]; assumption) | (rw [List.getElem?_append_right (Nat.le_refl _), Nat.sub_self]; rfl) | exact getA0 (by assumption) | exact getA1 (by assumption)))
  | with_reducible refine wO_lt ?_
  | with_reducible refine wO_le ?_
  | with_reducible refine wO_gt ?_
  | with_reducible refine wO_ge ?_
  | with_reducible refine wO_add ?_
  | with_reducible refine wO_eqI ?_
  | with_reducible refine wO_neI ?_
  | with_reducible refine wO_isN ?_
  | with_reducible refine wO_notN ?_
  | with_reducible refine wC_lenL ?_
  | with_reducible refine wC_lenT ?_
  | with_reducible refine wC_int ?_
  | ((with_reducible apply wC_lenD); (first | assumption | exact app_get0 | exact app_get1 | exact app_get2 | exact List.getElem?_set_self (by assumption) | exact List.getElem?_set_self (by rw [List.length_set]; assumption) | (rw [List.getElem?_append_right (Nat.le_refl _), Nat.sub_self]; rfl) | exact getA0 (by assumption) | exact getA1 (by assumption)))
  | with_reducible refine wC_abs ?_
  | with_reducible refine wM_N ?_
  | with_reducible refine wM_Dm ?_
  | with_reducible refine wM_Tm ?_
  | ((with_reducible apply wM_T); rfl)
  | ((with_reducible apply wM_D); rfl)
  | (with_reducible refine Exists.intro _ (And.intro rfl ?_))
  | (with_reducible refine And.intro rfl ?_)
  | ((with_reducible refine And.intro (size_small ?_) ?_); rfl)
  | with_reducible refine wO_pow6 ?_
  | ((with_reducible refine wO_mulR ?_ ?_); decide)
  | ((with_reducible refine wO_mulL ?_ ?_); decide)
  | ((with_reducible refine wO_mod ?_ ?_); omega)
  | ((with_reducible refine wO_div ?_ ?_ ?_); omega; omega)
  | ((with_reducible apply wU_o); (first | assumption | exact app_get0 | exact app_get1 | exact app_get2 | exact List.getElem?_set_self (by assumption) | exact List.getElem?_set_self (by rw [List.length_set]; assumption) | (rw [List.getElem?_append_right (Nat.le_refl _), Nat.sub_self]; rfl) | exact getA0 (by assumption) | exact getA1 (by assumption)); rfl)
  | ((with_reducible apply wO_ixZ); (apply asSeq_o; (first | assumption | exact app_get0 | exact app_get1 | exact app_get2 | exact List.getElem?_set_self (by assumption) | exact List.getElem?_set_self (by rw [List.length_set]; assumption) | (rw [List.getElem?_append_right (Nat.le_refl _), Nat.sub_self]; rfl) | exact getA0 (by assumption) | exact getA1 (by assumption))); rfl))
/-! ### the law's blocks -/
theorem filt_ints (r : List Int) (p : Int → Bool) : (r.filter p).map (fun o => VL.d (.int o)) = ((r.filter p).map PyData.int).map VL.d := by
  rw [List.map_map]
  rfl
theorem filt_pos {r : List Int} {p : Int → Bool} (h : (0 : Int) < (((r.filter p).map PyData.int).length : Nat)) : ∃ o ∈ r, p o = true := by
  rw [List.length_map] at h
  have h1 : 0 < (r.filter p).length := by omega
  obtain ⟨o, ho⟩ := List.exists_mem_of_length_pos h1
  obtain ⟨h2, h3⟩ := List.mem_filter.mp ho
  exact ⟨o, h2, h3⟩
theorem filt_none {r : List Int} {p : Int → Bool} (h : ¬ (0 : Int) < (((r.filter p).map PyData.int).length : Nat)) : ∀ o ∈ r, p o = false := by
  intro o ho
  rw [List.length_map] at h
  cases hp : p o with
  | false => rfl
  | true =>
    have := List.length_pos_of_mem (List.mem_filter.mpr ⟨ho, hp⟩)
    omega
theorem cons_eq {r : List Int} {i : Nat} {t : Int} (h : r[i]? = some t) : r = r.take i ++ t :: r.drop (i + 1) := by
  rw [← (List.getElem?_eq_some_iff.mp h).2, List.getElem_cons_drop, List.take_append_drop]
theorem l_blocks_wp {N : List (List Int)} {x y : PyData} (hy : IsTb N y) (hNl : N.length ≤ 10) {st : Sto} {Q : VL → Sto → Prop} (q : ∀ b, (b = true ↔ BlOk N x) → Q (.d (.bool b)) st) : wF m__law_blocks [.d y, .d x] st Q := by
  refine wF_run ?_
  unfold c__law_blocks
  repeat' wp_step
  refine wF_of (l_row_eq _ _) ?_
  cases hx : seqD x with
  | none =>
    simp only [Option.isSome]
    repeat' wp_step
    exact q false (iffF fun ⟨ds, e, _⟩ => by rw [hx] at e; cases e)
  | some ds =>
    simp only [Option.isSome]
    repeat' wp_step
    refine walk_any hx (wL_run (v := VL.d) (BlS N) BlS.fn (fun i s env st' => (∃ a b c, env = [some (.d y), some (.d x), some (.d (rowL s.1)), some (.d (rowL s.2)), a, b, c]) ∧ st = st' ∧ s.1.Nodup ∧ (∀ t ∈ s.1, 0 ≤ t ∧ t < N.length) ∧ s.2.length ≤ 10) (fun st' => st = st') (s0 := ([], []))
      ⟨⟨_, _, _, rfl⟩, rfl, List.nodup_nil, (fun t ht => by cases ht), Nat.zero_le _⟩ (fun i s d env st' hd hI => ?_) (fun s' env st' hrun hun hI => ?_) (fun hno st' hb => ?_))
    · obtain ⟨⟨a, b, c, rfl⟩, rfl, hnd, hrg, hbl⟩ := hI
      have hsl := nodup_len hnd hrg
      refine ⟨_, rfl, ?_⟩
      unfold c__law_blocks_B3
      repeat' wp_step
      refine isTb_len hy ?_
      repeat' wp_step
      refine l_rising_wp fun b1 hb1 => ?_
      cases b1 with
      | false =>
        repeat' wp_step
        exact .inr ⟨(fun s1 ⟨r, e, h1, h2, h3, _⟩ => by cases hb1.mpr ⟨r, e, h2, h3⟩), _, rfl, rfl⟩
      | true =>
        obtain ⟨r, hr, hrp, hp1⟩ := hb1.mp rfl
        have hrl := rise_len hrp hp1
        repeat' wp_step
        refine lenX (seqD_some hr) ?_
        repeat' wp_step
        · rename_i h0
          refine .inr ⟨fun s1 h => ?_, _, rfl, rfl⟩
          have := (BlS.at hr h).1
          rw [List.length_map] at h0
          exact this (List.length_eq_zero_iff.mp (by omega))
        · rename_i h0
          have hne : r ≠ [] := fun e => h0 (by rw [e]; rfl)
          refine walk_ints hr (wL_ix (v := fun t => VL.d (.int t)) (fun j env st' => (∃ b c, env = [some (.d y), some (.d x), some (.d (rowL s.1)), some (.d (rowL s.2)), some (.d d), b, c]) ∧ st = st' ∧ (∀ t ∈ r.take j, t ∉ s.1) ∧ ∀ t ∈ r.take j, ∀ k ∈ s.2, k ∈ at_ N t)
            ⟨⟨_, _, rfl⟩, rfl, (fun t ht => by cases ht), (fun t ht => by cases ht)⟩ (fun j t env st' ht hI => ?_) (fun env st' hI => ?_))
          · obtain ⟨⟨b1, c1, rfl⟩, rfl, hp2, hp3⟩ := hI
            have htm := List.mem_of_getElem? ht
            refine ⟨_, rfl, ?_⟩
            unfold c__law_blocks_B2
            repeat' wp_step
            · rename_i hin
              exact .inr ⟨fun s1 h => (BlS.at hr h).2.2.2.1 t htm hin, _, rfl, rfl⟩
            · rename_i hin
              refine comp_ints (r := s.2) rfl ⟨_, _, comp_pure (v := fun t => VL.d (.int t)) (fun o => !decide (o ∈ at_ N t)) (fun o => VL.d (.int o)) (size_le (by omega)) (fun o ho => ?_), ?_⟩
              · refine ⟨_, rfl, ?_, fun _ => ?_⟩
                · unfold c__law_blocks_T0
                  repeat' wp_step
                  refine isTb_ix hy (hp1 t htm).1 (hp1 t htm).2 fun z hz => ?_
                  refine isRw_in1 hz ?_
                  exact ⟨rfl, rfl⟩
                · unfold c__law_blocks_E1
                  repeat' wp_step
                  exact rfl
              · rw [filt_ints]
                repeat' wp_step
                · rename_i h0
                  obtain ⟨o, ho, hpo⟩ := filt_pos h0
                  refine .inr ⟨fun s1 h => ?_, _, rfl, rfl⟩
                  have := (BlS.at hr h).2.2.2.2.1 t htm o ho
                  simp [this] at hpo
                · rename_i h0
                  have h5 := filt_none h0
                  refine ⟨⟨_, _, rfl⟩, rfl, fun u hu => ?_, fun u hu => ?_⟩
                  · rcases (mem_take1 ht).mp hu with hu | rfl
                    · exact hp2 u hu
                    · exact hin
                  · rcases (mem_take1 ht).mp hu with hu | rfl
                    · exact hp3 u hu
                    · intro k hk
                      have := h5 k hk
                      simpa using this
          · obtain ⟨⟨b1, c1, rfl⟩, rfl, hp2, hp3⟩ := hI
            rw [List.take_length] at hp2 hp3
            repeat' wp_step
            obtain ⟨k1, e1⟩ := asSeqD (st := st) (seqD_some hr)
            refine wC_list e1 ?_
            repeat' wp_step
            refine wO_addD (size_le (by rw [List.length_map, List.length_map]; omega)) ?_
            rw [← List.map_append]
            repeat' wp_step
            refine wC_list e1 ?_
            repeat' wp_step
            refine .inl ⟨(s.1 ++ r, r), ⟨r, hr, hne, hrp, hp1, hp2, hp3, rfl⟩, _, _, rfl, ⟨_, _, _, rfl⟩, rfl, take_nodup hnd (rise_nodup hrp) hp2, fun u hu => ?_, (show r.length ≤ 10 by omega)⟩
            rcases List.mem_append.mp hu with hu | hu
            · exact hrg u hu
            · exact hp1 u hu
    · obtain ⟨⟨a, b, c, rfl⟩, rfl, _⟩ := hI
      repeat' wp_step
      exact q true (iffT ⟨ds, hx, s', hrun⟩)
    · subst hb
      repeat' wp_step
      exact q false (iffF fun h => by
        obtain ⟨s', h⟩ := blOk_at hx h
        exact hno s' h)
/-! ### schedules -/
/-- what a slot asks, by the needs in M -/
def ScS (M : List (List Int)) (m : Int) (s : List Int) (d : PyData) (s1 : List Int) : Prop :=
  ∃ r : List Int, seqD d = some (r.map .int) ∧ r.Pairwise (· < ·) ∧ (∀ t ∈ r, 0 ≤ t ∧ t < M.length) ∧ r ≠ [] ∧ (r.length : Int) ≤ m ∧ (∀ t ∈ r, t ∉ s) ∧ (∀ t ∈ r, ∀ k ∈ at_ M t, k ∈ s) ∧ s1 = s ++ r
theorem ScS.at {M : List (List Int)} {m : Int} {s s1 : List Int} {d : PyData} {r : List Int} (hd : seqD d = some (r.map .int)) (h : ScS M m s d s1) :
    r.Pairwise (· < ·) ∧ (∀ t ∈ r, 0 ≤ t ∧ t < M.length) ∧ r ≠ [] ∧ (r.length : Int) ≤ m ∧ (∀ t ∈ r, t ∉ s) ∧ (∀ t ∈ r, ∀ k ∈ at_ M t, k ∈ s) ∧ s1 = s ++ r := by
  obtain ⟨r', e, h⟩ := h
  rw [hd] at e
  cases ints_inj (Option.some.inj e)
  exact h
theorem ScS.fn {M : List (List Int)} {m : Int} (s : List Int) (d : PyData) (s1 s2 : List Int) (a : ScS M m s d s1) (b : ScS M m s d s2) : s1 = s2 := by
  obtain ⟨r, hd, h⟩ := a
  have h2 := ScS.at hd b
  rw [h.2.2.2.2.2.2, h2.2.2.2.2.2.2]
def ScOk (M : List (List Int)) (m : Int) (x : PyData) : Prop := ∃ ds, seqD x = some ds ∧ ∃ s', RunS (ScS M m) [] ds s' ∧ s'.length = M.length
theorem scS_same {T N : List (List Int)} (hN : Clo T N (List.range T.length)) {m : Int} : ∀ {ds : List PyData} {s s' : List Int}, (∀ t ∈ s, 0 ≤ t ∧ t < T.length) → (∀ t ∈ s, ∀ k ∈ at_ N t, k ∈ s) → (RunS (ScS T m) s ds s' ↔ RunS (ScS N m) s ds s')
  | [], _, _, _, _ => Iff.rfl
  | d :: ds, s, s', hr, hc => by
    have hmem : ∀ t : Int, 0 ≤ t → t < T.length → ∀ j, j ∈ at_ N t ↔ j ∈ at_ T t ∨ ∃ k ∈ at_ T t, j ∈ at_ N k := fun t h0 h1 => by
      have e : ((t.toNat : Nat) : Int) = t := Int.toNat_of_nonneg h0
      have := hN.mem t.toNat (List.mem_range.mpr (by omega))
      rwa [e] at this
    have one : ∀ s1, ScS T m s d s1 ↔ ScS N m s d s1 := fun s1 => by
      refine exists_congr fun r => and_congr_right fun _ => and_congr_right fun _ => ?_
      rw [hN.len]
      refine and_congr_right fun hrg => and_congr_right fun _ => and_congr_right fun _ => and_congr_right fun _ => and_congr_left fun _ => ?_
      refine forall_congr' fun t => forall_congr' fun ht => ?_
      constructor
      · intro h j hj
        rcases (hmem t (hrg t ht).1 (hrg t ht).2 j).mp hj with hj | ⟨k, hk, hj⟩
        · exact h j hj
        · exact hc k (h k hk) j hj
      · intro h j hj
        exact h j ((hmem t (hrg t ht).1 (hrg t ht).2 j).mpr (.inl hj))
    refine exists_congr fun s1 => ?_
    rw [one s1]
    refine and_congr_right fun h1 => ?_
    obtain ⟨r, hd, h⟩ := h1
    obtain ⟨_, hrg, _, _, _, hk, rfl⟩ := h
    rw [hN.len] at hrg
    refine scS_same hN (fun t ht => ?_) (fun t ht j hj => ?_)
    · rcases List.mem_append.mp ht with ht | ht
      · exact hr t ht
      · exact hrg t ht
    · rcases List.mem_append.mp ht with ht | ht
      · exact List.mem_append_left _ (hc t ht j hj)
      · exact List.mem_append_left _ (hk t ht j hj)
theorem scOk_same {T N : List (List Int)} (hN : Clo T N (List.range T.length)) {m : Int} {x : PyData} : ScOk T m x ↔ ScOk N m x := by
  refine exists_congr fun ds => and_congr_right fun _ => exists_congr fun s' => ?_
  rw [hN.len, scS_same hN (fun t ht => by cases ht) (fun t ht => by cases ht)]
end K75
set_option Elab.async false
set_option linter.all false
set_option autoImplicit false
set_option maxRecDepth 100000
set_option maxHeartbeats 1000000
namespace K75
open PySem PySem.Spec PyProof.Rows L2 Sl
local macro_rules | `(tactic| wp_step) => `(tactic| first
  | with_reducible refine wS_seq ?_
  | with_reducible refine seqK_nx ?_
  | with_reducible refine seqK_rt ?_
  | with_reducible refine seqK_bk ?_
  | with_reducible refine seqK_ct ?_
  | with_reducible refine fnQ_nx ?_
  | with_reducible refine fnQ_rt ?_
  | with_reducible refine turn_nx ?_
  | with_reducible refine turn_ct ?_
  | with_reducible refine turn_bk ?_
  | with_reducible refine turn_rt ?_
  | with_reducible refine wS_if ?_
  | with_reducible refine wS_set ?_
  | with_reducible refine wS_asg ?_
  | with_reducible refine wS_ret ?_
  | with_reducible refine wS_drop ?_
  | with_reducible refine wS_nx ?_
  | with_reducible refine wS_bk ?_
  | with_reducible refine wS_ct ?_
  | with_reducible refine wS_forS ?_
  | with_reducible refine wS_for1 ?_
  | with_reducible refine wS_setL ?_
  | with_reducible refine wS_dputK ?_
  | with_reducible refine wE_op ?_
  | with_reducible refine wE_c ?_
  | ((with_reducible apply wE_var); rfl)
  | with_reducible refine wE_call ?_
  | with_reducible refine wE_cb ?_
  | with_reducible refine wE_and ?_
  | with_reducible refine wE_or ?_
  | with_reducible refine wE_not ?_
  | with_reducible refine wE_if ?_
  | with_reducible refine wE_isi ?_
  | with_reducible refine wE_chain ?_
  | with_reducible refine wE_neg ?_
  | with_reducible refine wE_lst ?_
  | with_reducible refine wE_tup ?_
  | with_reducible refine wE_frz ?_
  | with_reducible refine wE_append ?_
  | with_reducible refine wE_sl ?_
  | with_reducible refine wE_rev ?_
  | with_reducible refine wE_dnew ?_
  | with_reducible refine wZ_d ?_
  | ((with_reducible apply isO_o); (first | assumption | exact app_get0 | exact app_get1 | exact app_get2 | exact List.getElem?_set_self (by assumption) | exact List.getElem?_set_self (by rw [List.length_set]; assumption) | (rw [List.getElem?_append_right (Nat.le_refl _), Nat.sub_self]; rfl) | exact getA0 (by assumption) | exact getA1 (by assumption)))
  | ((with_reducible apply wApp_o); (first | assumption | exact app_get0 | exact app_get1 | exact app_get2 | exact List.getElem?_set_self (by assumption) | exact List.getElem?_set_self (by rw [List.length_set]; assumption) | (rw [List.getElem?_append_right (Nat.le_refl _), Nat.sub_self]; rfl) | exact getA0 (by assumption) | exact getA1 (by assumption)))
  | ((with_reducible apply wD_o); (first | assumption | exact app_get0 | exact app_get1 | exact app_get2 | exact List.getElem?_set_self (by assumption) | exact List.getElem?_set_self (by rw [List.length_set]; assumption) | (rw [List.getElem?_append_right (Nat.le_refl _), Nat.sub_self]; rfl) | exact getA0 (by assumption) | exact getA1 (by assumption)))
  | ((with_reducible apply wZ_o); (first | assumption | exact app_get0 | exact app_get1 | exact app_get2 | exact List.getElem?_set_self (by assumption) | exact List.getElem?_set_self (by rw [List.length_set]; assumption) | (rw [List.getElem?_append_right (Nat.le_refl _), Nat.sub_self]; rfl) | exact getA0 (by assumption) | exact getA1 (by assumption)); exact allD_map' _)
  | with_reducible refine wE_rep ?_
  | with_reducible refine wE_sortSet ?_
  | with_reducible refine wE_lenSet ?_
  | with_reducible refine wE_comp1 ?_
  | with_reducible refine wE_compS ?_
  | with_reducible refine wP_none ?_
  | with_reducible refine wP_some ?_
  | with_reducible refine wA_nil ?_
  | with_reducible refine wA_cons ?_
  | with_reducible refine wA_app ?_
  | with_reducible refine wB_t ?_
  | with_reducible refine wB_f ?_
  | with_reducible refine wB_nt ?_
  | with_reducible refine wB_nf ?_
  | with_reducible refine wB_dec (fun _ => ?_) (fun _ => ?_)
  | with_reducible refine wB_not (fun _ => ?_) (fun _ => ?_)
  | with_reducible refine wB_nb (fun _ => ?_) (fun _ => ?_)
  | with_reducible refine wB_b (fun _ => ?_) (fun _ => ?_)
  | with_reducible refine wO_sub ?_
  | ((with_reducible apply wO_inS0); rfl)
  | ((with_reducible apply wO_inS1); rfl)
  | ((with_reducible apply wO_inD0); (first | assumption | exact app_get0 | exact app_get1 | exact app_get2 | exact List.getElem?_set_self (by assumption) | exact List.getElem?_set_self (by rw [List.length_set]; assumption) | (rw [List.getElem?_append_right (Nat.le_refl _), Nat.sub_self]; rfl) | exact getA0 (by assumption) | exact getA1 (by assumption)))
  | ((with_reducible apply wO_inD1); (first | assumption | exact app_get0 | exact app_get1 | exact app_get2 | exact List.getElem?_set_self (by assumption) | exact List.getElem?_set_self (by rw [List.length_set]; assumption) | (rw [List.getElem?_append_right (Nat.le_refl _), Nat.sub_self]; rfl) | exact getA0 (by assumption) | exact getA1 (by assumption)))
  | with_reducible refine wO_lt ?_
  | with_reducible refine wO_le ?_
  | with_reducible refine wO_gt ?_
  | with_reducible refine wO_ge ?_
  | with_reducible refine wO_add ?_
  | with_reducible refine wO_eqI ?_
  | with_reducible refine wO_neI ?_
  | with_reducible refine wO_isN ?_
  | with_reducible refine wO_notN ?_
  | with_reducible refine wC_lenL ?_
  | with_reducible refine wC_lenT ?_
  | with_reducible refine wC_int ?_
  | ((with_reducible apply wC_lenD); (first | assumption | exact app_get0 | exact app_get1 | exact app_get2 | exact List.getElem?_set_self (by assumption) | exact List.getElem?_set_self (by rw [List.length_set]; assumption) | (rw [List.getElem?_append_right (Nat.le_refl _), Nat.sub_self]; rfl) | exact getA0 (by assumption) | exact getA1 (by assumption)))
  | with_reducible refine wC_abs ?_
  | with_reducible refine wM_N ?_
  | with_reducible refine wM_Dm ?_
  | with_reducible refine wM_Tm ?_
  | ((with_reducible apply wM_T); rfl)
  | ((with_reducible apply wM_D); rfl)
  | (with_reducible refine Exists.intro _ (And.intro rfl ?_))
  | (with_reducible refine And.intro rfl ?_)
  | ((with_reducible refine And.intro (size_small ?_) ?_); rfl)
  | with_reducible refine wO_pow6 ?_
  | ((with_reducible refine wO_mulR ?_ ?_); decide)
  | ((with_reducible refine wO_mulL ?_ ?_); decide)
  | ((with_reducible refine wO_mod ?_ ?_); omega)
  | ((with_reducible refine wO_div ?_ ?_ ?_); omega; omega)
  | ((with_reducible apply wU_o); (first | assumption | exact app_get0 | exact app_get1 | exact app_get2 | exact List.getElem?_set_self (by assumption) | exact List.getElem?_set_self (by rw [List.length_set]; assumption) | (rw [List.getElem?_append_right (Nat.le_refl _), Nat.sub_self]; rfl) | exact getA0 (by assumption) | exact getA1 (by assumption)); rfl)
  | ((with_reducible apply wO_ixZ); (apply asSeq_o; (first | assumption | exact app_get0 | exact app_get1 | exact app_get2 | exact List.getElem?_set_self (by assumption) | exact List.getElem?_set_self (by rw [List.length_set]; assumption) | (rw [List.getElem?_append_right (Nat.le_refl _), Nat.sub_self]; rfl) | exact getA0 (by assumption) | exact getA1 (by assumption))); rfl))
theorem ix_tbZ {T : List (List Int)} {st : Sto} {x : Int} (h0 : 0 ≤ x) (hx : x < T.length) {Q : VL → Sto → Prop} (q : Q (.d (rowL (at_ T x))) st) : wO oIx st (.d (tbL T)) (.d (.int x)) Q := by
  have e : ((x.toNat : Nat) : Int) = x := Int.toNat_of_nonneg h0
  have := ix_tb (T := T) (st := st) (x := x.toNat) (by omega) (Q := Q) (by rw [e]; exact q)
  rwa [e] at this
theorem fits_slot_wp {T : List (List Int)} (hT : Tab T) {x : PyData} {r s : List Int} (hx : seqD x = some (r.map .int)) {st : Sto} {n : Nat} {kvs : List (Key × VL)} (hk : st[n]? = some (.dk kvs)) (K : Keys kvs s) {Q : VL → Sto → Prop}
    (q : ∀ b, (b = true ↔ (∀ t ∈ r, 0 ≤ t ∧ t < T.length) ∧ (∀ t ∈ r, t ∉ s) ∧ ∀ t ∈ r, ∀ k ∈ at_ T t, k ∈ s) → Q (.d (.bool b)) st) : wF m_fits_slot [.d (tbL T), .d x, .o n] st Q := by
  have hlen := hT.len
  refine wF_run ?_
  unfold c_fits_slot
  repeat' wp_step
  refine walk_ints hx (wL_ix (v := fun t => VL.d (.int t)) (fun i env st' => (∃ a, env = [some (.d (tbL T)), some (.d x), some (.o n), a]) ∧ st = st' ∧ (∀ t ∈ r.take i, 0 ≤ t ∧ t < T.length) ∧ (∀ t ∈ r.take i, t ∉ s) ∧ ∀ t ∈ r.take i, ∀ k ∈ at_ T t, k ∈ s)
    ⟨⟨_, rfl⟩, rfl, (fun t ht => by cases ht), (fun t ht => by cases ht), (fun t ht => by cases ht)⟩ (fun i t env st' ht hI => ?_) (fun env st' hI => ?_))
  · obtain ⟨⟨a, rfl⟩, rfl, hp1, hp2, hp3⟩ := hI
    have htm := List.mem_of_getElem? ht
    refine ⟨_, rfl, ?_⟩
    unfold c_fits_slot_B0
    repeat' wp_step
    refine lenT ?_
    repeat' wp_step
    refine wF_of (is_between_eq _ _ _ _) ?_
    repeat' wp_step
    · rename_i hb
      refine q false (iffF fun h => ?_)
      have h2 := h.1 t htm
      rw [btw_iff.mpr ⟨t, rfl, h2.1, (by omega : t ≤ (T.length : Int) - 1)⟩] at hb
      cases hb
    · rename_i hb hin
      exact q false (iffF fun h => h.2.1 t htm (K.val.mp hin))
    · rename_i hb hin
      obtain ⟨_, e, h1, h2⟩ := btw_iff.mp hb
      cases e
      have hn := K.not.mp hin
      refine ix_tbZ h1 (by omega) ?_
      repeat' wp_step
      refine is_ready_eq hk ?_
      cases ha : (at_ T t).all (has kvs) with
      | true =>
        repeat' wp_step
        rw [List.all_eq_true] at ha
        refine ⟨⟨_, rfl⟩, rfl, fun u hu => ?_, fun u hu => ?_, fun u hu => ?_⟩
        · rcases (mem_take1 ht).mp hu with hu | rfl
          · exact hp1 u hu
          · exact ⟨h1, by omega⟩
        · rcases (mem_take1 ht).mp hu with hu | rfl
          · exact hp2 u hu
          · exact hn
        · rcases (mem_take1 ht).mp hu with hu | rfl
          · exact hp3 u hu
          · exact fun k hk2 => (K.has k).mp (ha k hk2)
      | false =>
        repeat' wp_step
        refine q false (iffF fun h => ?_)
        have : (at_ T t).all (has kvs) = true := List.all_eq_true.mpr fun k hk2 => (K.has k).mpr (h.2.2 t htm k hk2)
        rw [this] at ha
        cases ha
  · obtain ⟨⟨a, rfl⟩, rfl, hp1, hp2, hp3⟩ := hI
    rw [List.take_length] at hp1 hp2 hp3
    repeat' wp_step
    exact q true (iffT ⟨hp1, hp2, hp3⟩)
theorem is_schedule_wp {T : List (List Int)} (hT : Tab T) {x : PyData} {m : Int} {st : Sto} {Q : VL → Sto → Prop} (q : ∀ b, (b = true ↔ ScOk T m x) → Q (.d (.bool b)) st) : wF m_is_schedule [.d (tbL T), .d x, .d (.int m)] st Q := by
  have hlen := hT.len
  refine wF_cut (wF_run ?_)
  unfold c_is_schedule
  repeat' wp_step
  refine check_table_wp hT ?_
  repeat' wp_step
  refine wF_of (is_row_eq _ _) ?_
  cases hx : seqD x with
  | none =>
    simp only [Option.isSome]
    repeat' wp_step
    refine ⟨cutOk_same (List.take_length), ?_⟩
    rw [List.take_length]
    exact q false (iffF fun ⟨ds, e, _⟩ => by rw [hx] at e; cases e)
  | some ds =>
    simp only [Option.isSome]
    repeat' wp_step
    have fail : ∀ {P : Prop}, (ScOk T m x → ∃ s', RunS (ScS T m) [] ds s' ∧ s'.length = T.length) := fun {P} ⟨ds', e, h⟩ => by
      rw [hx] at e
      cases e
      exact h
    refine walk_any hx (wL_run (v := VL.d) (ScS T m) ScS.fn (fun i s env st' => (∃ a b, env = [some (.d (tbL T)), some (.d x), some (.d (.int m)), some (.o st.length), a, b]) ∧
        (∃ kvs, st' = st ++ [.dk kvs] ∧ Keys kvs s) ∧ s.Nodup ∧ ∀ t ∈ s, 0 ≤ t ∧ t < T.length) (fun st' => ∃ l, st' = st ++ l) (s0 := [])
      ⟨⟨_, _, rfl⟩, ⟨[], rfl, Keys.nil⟩, List.nodup_nil, (fun t ht => by cases ht)⟩ (fun i s d env st' hd hI => ?_) (fun s' env st' hrun hun hI => ?_) (fun hno st' hb => ?_))
    · obtain ⟨⟨a, b, rfl⟩, ⟨kvs, rfl, hk⟩, hnd, hrg⟩ := hI
      refine ⟨_, rfl, ?_⟩
      unfold c_is_schedule_B1
      repeat' wp_step
      refine wF_of (is_rising_eq _ _) ?_
      repeat' wp_step
      · rename_i hb
        refine .inr ⟨fun s1 ⟨r, e, h2, _⟩ => ?_, _, rfl, _, rfl⟩
        rw [risX_iff.mpr ⟨r, e, h2⟩] at hb
        cases hb
      · rename_i hb
        obtain ⟨r, hr, hrp⟩ := risX_iff.mp hb
        refine lenX (seqD_some hr) ?_
        repeat' wp_step
        · rename_i h0 h1
          refine .inr ⟨fun s1 h => ?_, _, rfl, _, rfl⟩
          have := (ScS.at hr h).2.2.2.1
          rw [List.length_map] at h1
          exact h1 this
        · rename_i h0 h1
          rw [List.length_map] at h0 h1
          have hne : r ≠ [] := fun e => by
            subst e
            exact absurd h0 (by decide)
          refine fits_slot_wp hT hr app_get0 hk fun b2 hb2 => ?_
          cases b2 with
          | false =>
            repeat' wp_step
            refine .inr ⟨fun s1 h => ?_, _, rfl, _, rfl⟩
            obtain ⟨_, k1, _, _, k2, k3, _⟩ := ScS.at hr h
            cases hb2.mpr ⟨k1, k2, k3⟩
          | true =>
            obtain ⟨k1, k2, k3⟩ := hb2.mp rfl
            repeat' wp_step
            refine walk_ints hr (wL_ix (v := fun t => VL.d (.int t)) (fun j env st' => (∃ b, env = [some (.d (tbL T)), some (.d x), some (.d (.int m)), some (.o st.length), some (.d d), b]) ∧
                (∃ kvs, st' = st ++ [.dk kvs] ∧ Keys kvs (s ++ r.take j)))
              ⟨⟨_, rfl⟩, ⟨kvs, rfl, by simpa using hk⟩⟩ (fun j t env st' ht hI => ?_) (fun env st' hI => ?_))
            · obtain ⟨⟨b1, rfl⟩, ⟨kvs1, rfl, hk1⟩⟩ := hI
              have htm := List.mem_of_getElem? ht
              have htk : t ∉ s ++ r.take j := by
                have := rise_nodup hrp
                rw [cons_eq ht, List.nodup_append] at this
                intro h
                rcases List.mem_append.mp h with h | h
                · exact k2 t htm h
                · exact this.2.2 t h t (by simp) rfl
              refine ⟨_, rfl, ?_⟩
              unfold c_is_schedule_B0
              repeat' wp_step
              · refine size_lt ?_
                have h4 := nodup_len (n := T.length) (r := s ++ r.take j) (take_nodup hnd ((rise_nodup hrp).sublist (List.take_sublist _ _)) fun u hu => k2 u (List.mem_of_mem_take hu)) fun y hy => by
                  rcases List.mem_append.mp hy with hy | hy
                  · exact hrg y hy
                  · exact k1 y (List.mem_of_mem_take hy)
                rw [hk1.len]
                omega
              · rw [app_set0]
                have ee : s ++ r.take (j + 1) = (s ++ r.take j) ++ [t] := by
                  rw [List.take_add_one, ht, List.append_assoc]
                  rfl
                exact ⟨⟨_, rfl⟩, ⟨_, rfl, by rw [ee]; exact hk1.put htk _⟩⟩
            · obtain ⟨⟨b1, rfl⟩, ⟨kvs1, rfl, hk1⟩⟩ := hI
              rw [List.take_length] at hk1
              refine .inl ⟨s ++ r, ⟨r, hr, hrp, k1, hne, h1, k2, k3, rfl⟩, _, _, rfl, ⟨_, _, rfl⟩, ⟨_, rfl, hk1⟩, take_nodup hnd (rise_nodup hrp) k2, fun u hu => ?_⟩
              rcases List.mem_append.mp hu with hu | hu
              · exact hrg u hu
              · exact k1 u hu
        · rename_i h0
          refine .inr ⟨fun s1 h => ?_, _, rfl, _, rfl⟩
          have := (ScS.at hr h).2.2.1
          rw [List.length_map] at h0
          have hp := List.length_pos_iff.mpr this
          omega
    · obtain ⟨⟨a, b, rfl⟩, ⟨kvs, rfl, hk⟩, hnd, hrg⟩ := hI
      repeat' wp_step
      refine lenT ?_
      repeat' wp_step
      refine ⟨cutOk_app _ _, ?_⟩
      rw [take_app]
      refine q _ ?_
      rw [decide_eq_true_iff, hk.len]
      constructor
      · intro h
        exact ⟨ds, hx, s', hrun, by omega⟩
      · intro h
        obtain ⟨s2, h1, h2⟩ := fail (P := True) h
        rw [hun s2 h1] at h2
        omega
    · obtain ⟨l, rfl⟩ := hb
      repeat' wp_step
      refine ⟨cutOk_app _ _, ?_⟩
      rw [take_app]
      exact q false (iffF fun h => by
        obtain ⟨s', h, _⟩ := fail (P := True) h
        exact hno s' h)
theorem l_schedule_wp {N : List (List Int)} {x y : PyData} {m : Int} (hy : IsTb N y) (hNl : N.length ≤ 10) (hNr : ∀ t : Int, 0 ≤ t → t < N.length → (at_ N t).length ≤ 10) {st : Sto} {Q : VL → Sto → Prop} (q : ∀ b, (b = true ↔ ScOk N m x) → Q (.d (.bool b)) st) : wF m__law_schedule [.d y, .d x, .d (.int m)] st Q := by
  refine wF_run ?_
  unfold c__law_schedule
  repeat' wp_step
  refine wF_of (l_row_eq _ _) ?_
  cases hx : seqD x with
  | none =>
    simp only [Option.isSome]
    repeat' wp_step
    exact q false (iffF fun ⟨ds, e, _⟩ => by rw [hx] at e; cases e)
  | some ds =>
    simp only [Option.isSome]
    repeat' wp_step
    have fail : ∀ {P : Prop}, (ScOk N m x → ∃ s', RunS (ScS N m) [] ds s' ∧ s'.length = N.length) := fun {P} ⟨ds', e, h⟩ => by
      rw [hx] at e
      cases e
      exact h
    refine walk_any hx (wL_run (v := VL.d) (ScS N m) ScS.fn (fun i s env st' => (∃ a b c, env = [some (.d y), some (.d x), some (.d (.int m)), some (.d (rowL s)), a, b, c]) ∧ st = st' ∧ s.Nodup ∧ ∀ t ∈ s, 0 ≤ t ∧ t < N.length) (fun st' => st = st') (s0 := [])
      ⟨⟨_, _, _, rfl⟩, rfl, List.nodup_nil, (fun t ht => by cases ht)⟩ (fun i s d env st' hd hI => ?_) (fun s' env st' hrun hun hI => ?_) (fun hno st' hb => ?_))
    · obtain ⟨⟨a, b, c, rfl⟩, rfl, hnd, hrg⟩ := hI
      have hsl := nodup_len hnd hrg
      refine ⟨_, rfl, ?_⟩
      unfold c__law_schedule_B3
      repeat' wp_step
      refine isTb_len hy ?_
      repeat' wp_step
      refine l_rising_wp fun b1 hb1 => ?_
      cases b1 with
      | false =>
        repeat' wp_step
        exact .inr ⟨(fun s1 ⟨r, e, h2, h3, _⟩ => by cases hb1.mpr ⟨r, e, h2, h3⟩), _, rfl, rfl⟩
      | true =>
        obtain ⟨r, hr, hrp, hp1⟩ := hb1.mp rfl
        have hrl := rise_len hrp hp1
        repeat' wp_step
        refine lenX (seqD_some hr) ?_
        repeat' wp_step
        · rename_i h0
          refine .inr ⟨fun s1 h => ?_, _, rfl, rfl⟩
          have := (ScS.at hr h).2.2.1
          rw [List.length_map] at h0
          exact this (List.length_eq_zero_iff.mp (by omega))
        · rename_i h0
          have hne : r ≠ [] := fun e => h0 (by rw [e]; rfl)
          refine lenX (seqD_some hr) ?_
          repeat' wp_step
          · rename_i h1
            refine .inr ⟨fun s1 h => ?_, _, rfl, rfl⟩
            have := (ScS.at hr h).2.2.2.1
            rw [List.length_map] at h1
            omega
          · rename_i h1
            rw [List.length_map] at h1
            refine walk_ints hr (wL_ix (v := fun t => VL.d (.int t)) (fun j env st' => (∃ b c, env = [some (.d y), some (.d x), some (.d (.int m)), some (.d (rowL s)), some (.d d), b, c]) ∧ st = st' ∧ (∀ t ∈ r.take j, t ∉ s) ∧ ∀ t ∈ r.take j, ∀ k ∈ at_ N t, k ∈ s)
              ⟨⟨_, _, rfl⟩, rfl, (fun t ht => by cases ht), (fun t ht => by cases ht)⟩ (fun j t env st' ht hI => ?_) (fun env st' hI => ?_))
            · obtain ⟨⟨b1, c1, rfl⟩, rfl, hp2, hp3⟩ := hI
              have htm := List.mem_of_getElem? ht
              refine ⟨_, rfl, ?_⟩
              unfold c__law_schedule_B2
              repeat' wp_step
              · rename_i hin
                exact .inr ⟨fun s1 h => (ScS.at hr h).2.2.2.2.1 t htm hin, _, rfl, rfl⟩
              · rename_i hin
                refine isTb_ix hy (hp1 t htm).1 (hp1 t htm).2 fun z hz => ?_
                refine comp_ints (isRw_seq hz) ⟨_, _, comp_pure (v := fun t => VL.d (.int t)) (fun o => !decide (o ∈ s)) (fun o => VL.d (.int o)) (size_le (by have := hNr t (hp1 t htm).1 (hp1 t htm).2; omega)) (fun o ho => ?_), ?_⟩
                · refine ⟨_, rfl, ?_, fun _ => ?_⟩
                  · unfold c__law_schedule_T0
                    repeat' wp_step
                    exact rfl
                  · unfold c__law_schedule_E1
                    repeat' wp_step
                    exact rfl
                · rw [filt_ints]
                  repeat' wp_step
                  · rename_i h0
                    obtain ⟨o, ho, hpo⟩ := filt_pos h0
                    refine .inr ⟨fun s1 h => ?_, _, rfl, rfl⟩
                    have := (ScS.at hr h).2.2.2.2.2.1 t htm o ho
                    simp [this] at hpo
                  · rename_i h0
                    have h5 := filt_none h0
                    refine ⟨⟨_, _, rfl⟩, rfl, fun u hu => ?_, fun u hu => ?_⟩
                    · rcases (mem_take1 ht).mp hu with hu | rfl
                      · exact hp2 u hu
                      · exact hin
                    · rcases (mem_take1 ht).mp hu with hu | rfl
                      · exact hp3 u hu
                      · intro k hk
                        have := h5 k hk
                        simpa using this
            · obtain ⟨⟨b1, c1, rfl⟩, rfl, hp2, hp3⟩ := hI
              rw [List.take_length] at hp2 hp3
              repeat' wp_step
              obtain ⟨k1, e1⟩ := asSeqD (st := st) (seqD_some hr)
              refine wC_list e1 ?_
              repeat' wp_step
              refine wO_addD (size_le (by rw [List.length_map, List.length_map]; omega)) ?_
              rw [← List.map_append]
              repeat' wp_step
              refine .inl ⟨s ++ r, ⟨r, hr, hrp, hp1, hne, by omega, hp2, hp3, rfl⟩, _, _, rfl, ⟨_, _, _, rfl⟩, rfl, take_nodup hnd (rise_nodup hrp) hp2, fun u hu => ?_⟩
              rcases List.mem_append.mp hu with hu | hu
              · exact hrg u hu
              · exact hp1 u hu
    · obtain ⟨⟨a, b, c, rfl⟩, rfl, _⟩ := hI
      repeat' wp_step
      refine lenX (ds := s'.map .int) (.inl rfl) ?_
      repeat' wp_step
      refine isTb_len hy ?_
      repeat' wp_step
      refine q _ ?_
      rw [decide_eq_true_iff, List.length_map]
      constructor
      · intro h
        exact ⟨ds, hx, s', hrun, by omega⟩
      · intro h
        obtain ⟨s2, h1, h2⟩ := fail (P := True) h
        rw [hun s2 h1] at h2
        omega
    · subst hb
      repeat' wp_step
      exact q false (iffF fun h => by
        obtain ⟨s', h, _⟩ := fail (P := True) h
        exact hno s' h)
end K75
set_option Elab.async false
set_option linter.all false
set_option autoImplicit false
set_option maxRecDepth 100000
set_option maxHeartbeats 1000000
namespace K75
open PySem PySem.Spec PyProof.Rows L2 Sl
local macro_rules | `(tactic| wp_step) => `(tactic| first
  | with_reducible refine wS_seq ?_
  | with_reducible refine seqK_nx ?_
  | with_reducible refine seqK_rt ?_
  | with_reducible refine seqK_bk ?_
  | with_reducible refine seqK_ct ?_
  | with_reducible refine fnQ_nx ?_
  | with_reducible refine fnQ_rt ?_
  | with_reducible refine turn_nx ?_
  | with_reducible refine turn_ct ?_
  | with_reducible refine turn_bk ?_
  | with_reducible refine turn_rt ?_
  | with_reducible refine wS_if ?_
  | with_reducible refine wS_set ?_
  | with_reducible refine wS_asg ?_
  | with_reducible refine wS_ret ?_
  | with_reducible refine wS_drop ?_
  | with_reducible refine wS_nx ?_
  | with_reducible refine wS_bk ?_
  | with_reducible refine wS_ct ?_
  | with_reducible refine wS_forS ?_
  | with_reducible refine wS_for1 ?_
  | with_reducible refine wS_setL ?_
  | with_reducible refine wS_dputK ?_
  | with_reducible refine wE_op ?_
  | with_reducible refine wE_c ?_
  | ((with_reducible apply wE_var); rfl)
  | with_reducible refine wE_call ?_
  | with_reducible refine wE_cb ?_
  | with_reducible refine wE_and ?_
  | with_reducible refine wE_or ?_
  | with_reducible refine wE_not ?_
  | with_reducible refine wE_if ?_
  | with_reducible refine wE_isi ?_
  | with_reducible refine wE_chain ?_
  | with_reducible refine wE_neg ?_
  | with_reducible refine wE_lst ?_
  | with_reducible refine wE_tup ?_
  | with_reducible refine wE_frz ?_
  | with_reducible refine wE_append ?_
  | with_reducible refine wE_sl ?_
  | with_reducible refine wE_rev ?_
  | with_reducible refine wE_dnew ?_
  | with_reducible refine wZ_d ?_
  | ((with_reducible apply isO_o); (first | assumption | exact app_get0 | exact app_get1 | exact app_get2 | exact List.getElem?_set_self (by assumption) | exact List.getElem?_set_self (by rw [List.length_set]; assumption) | (rw [List.getElem?_append_right (Nat.le_refl _), Nat.sub_self]; rfl) | exact getA0 (by assumption) | exact getA1 (by assumption)))
  | ((with_reducible apply wApp_o); (first | assumption | exact app_get0 | exact app_get1 | exact app_get2 | exact List.getElem?_set_self (by assumption) | exact List.getElem?_set_self (by rw [List.length_set]; assumption) | (rw [List.getElem?_append_right (Nat.le_refl _), Nat.sub_self]; rfl) | exact getA0 (by assumption) | exact getA1 (by assumption)))
  | ((with_reducible apply wD_o); (first | assumption | exact app_get0 | exact app_get1 | exact app_get2 | exact List.getElem?_set_self (by assumption) | exact List.getElem?_set_self (by rw [List.length_set]; assumption) | (rw [List.getElem?_append_right (Nat.le_refl _), Nat.sub_self]; rfl) | exact getA0 (by assumption) | exact getA1 (by assumption)))
  | ((with_reducible apply wZ_o); (first | assumption | exact app_get0 | exact app_get1 | exact app_get2 | exact List.getElem?_set_self (by assumption) | exact List.getElem?_set_self (by rw [List.length_set]; assumption) | (rw [List.getElem?_append_right (Nat.le_refl _), Nat.sub_self]; rfl) | exact getA0 (by assumption) | exact getA1 (by assumption)); exact allD_map' _)
  | with_reducible refine wE_rep ?_
  | with_reducible refine wE_sortSet ?_
  | with_reducible refine wE_lenSet ?_
  | with_reducible refine wE_comp1 ?_
  | with_reducible refine wE_compS ?_
  | with_reducible refine wP_none ?_
  | with_reducible refine wP_some ?_
  | with_reducible refine wA_nil ?_
  | with_reducible refine wA_cons ?_
  | with_reducible refine wA_app ?_
  | with_reducible refine wB_t ?_
  | with_reducible refine wB_f ?_
  | with_reducible refine wB_nt ?_
  | with_reducible refine wB_nf ?_
  | with_reducible refine wB_dec (fun _ => ?_) (fun _ => ?_)
  | with_reducible refine wB_not (fun _ => ?_) (fun _ => ?_)
  | with_reducible refine wB_nb (fun _ => ?_) (fun _ => ?_)
  | with_reducible refine wB_b (fun _ => ?_) (fun _ => ?_)
  | with_reducible refine wO_sub ?_
  | ((with_reducible apply wO_inS0); rfl)
  | ((with_reducible apply wO_inS1); rfl)
  | ((with_reducible apply wO_inD0); (first | assumption | exact app_get0 | exact app_get1 | exact app_get2 | exact List.getElem?_set_self (by assumption) | exact List.getElem?_set_self (by rw [List.length_set]; assumption) | (rw [List.getElem?_append_right (Nat.le_refl _), Nat.sub_self]; rfl) | exact getA0 (by assumption) | exact getA1 (by assumption)))
  | ((with_reducible apply wO_inD1); (first | assumption | exact app_get0 | exact app_get1 | exact app_get2 | exact List.getElem?_set_self (by assumption) | exact List.getElem?_set_self (by rw [List.length_set]; assumption) | (rw [List.getElem?_append_right (Nat.le_refl _), Nat.sub_self]; rfl) | exact getA0 (by assumption) | exact getA1 (by assumption)))
  | with_reducible refine wO_lt ?_
  | with_reducible refine wO_le ?_
  | with_reducible refine wO_gt ?_
  | with_reducible refine wO_ge ?_
  | with_reducible refine wO_add ?_
  | with_reducible refine wO_eqI ?_
  | with_reducible refine wO_neI ?_
  | with_reducible refine wO_isN ?_
  | with_reducible refine wO_notN ?_
  | with_reducible refine wC_lenL ?_
  | with_reducible refine wC_lenT ?_
  | with_reducible refine wC_int ?_
  | ((with_reducible apply wC_lenD); (first | assumption | exact app_get0 | exact app_get1 | exact app_get2 | exact List.getElem?_set_self (by assumption) | exact List.getElem?_set_self (by rw [List.length_set]; assumption) | (rw [List.getElem?_append_right (Nat.le_refl _), Nat.sub_self]; rfl) | exact getA0 (by assumption) | exact getA1 (by assumption)))
  | with_reducible refine wC_abs ?_
  | with_reducible refine wM_N ?_
  | with_reducible refine wM_Dm ?_
  | with_reducible refine wM_Tm ?_
  | ((with_reducible apply wM_T); rfl)
  | ((with_reducible apply wM_D); rfl)
  | (with_reducible refine Exists.intro _ (And.intro rfl ?_))
  | (with_reducible refine And.intro rfl ?_)
  | ((with_reducible refine And.intro (size_small ?_) ?_); rfl)
  | with_reducible refine wO_pow6 ?_
  | ((with_reducible refine wO_mulR ?_ ?_); decide)
  | ((with_reducible refine wO_mulL ?_ ?_); decide)
  | ((with_reducible refine wO_mod ?_ ?_); omega)
  | ((with_reducible refine wO_div ?_ ?_ ?_); omega; omega)
  | ((with_reducible apply wU_o); (first | assumption | exact app_get0 | exact app_get1 | exact app_get2 | exact List.getElem?_set_self (by assumption) | exact List.getElem?_set_self (by rw [List.length_set]; assumption) | (rw [List.getElem?_append_right (Nat.le_refl _), Nat.sub_self]; rfl) | exact getA0 (by assumption) | exact getA1 (by assumption)); rfl)
  | ((with_reducible apply wO_ixZ); (apply asSeq_o; (first | assumption | exact app_get0 | exact app_get1 | exact app_get2 | exact List.getElem?_set_self (by assumption) | exact List.getElem?_set_self (by rw [List.length_set]; assumption) | (rw [List.getElem?_append_right (Nat.le_refl _), Nat.sub_self]; rfl) | exact getA0 (by assumption) | exact getA1 (by assumption))); rfl))
/-! ### rows that cover a table -/
/-- a paper of bounded size -/
def PaperOk (x : PyData) : Prop := ∀ ds, seqD x = some ds → ds.length ≤ 40 ∧ ∀ d ∈ ds, ∀ es, seqD d = some es → es.length ≤ 24
theorem ints_of : ∀ {ds : List PyData} {p : Int → Prop}, (∀ i, i < ds.length → ∃ a, ds[i]? = some (.int a) ∧ p a) → ∃ r : List Int, ds = r.map .int ∧ ∀ t ∈ r, p t
  | [], _, _ => ⟨[], rfl, (fun t ht => by cases ht)⟩
  | d :: ds, p, h => by
    obtain ⟨a, e, ha⟩ := h 0 (by simp)
    cases e
    obtain ⟨r, rfl, hr⟩ := ints_of (ds := ds) (p := p) fun i hi => by
      have := h (i + 1) (by simpa using hi)
      simpa using this
    refine ⟨a :: r, rfl, fun t ht => ?_⟩
    rcases List.mem_cons.mp ht with rfl | ht
    · exact ha
    · exact hr t ht
theorem ch_ints {N : List (List Int)} {d : PyData} (h : ChOk N d) : ∃ r : List Int, seqD d = some (r.map .int) ∧ ∀ t ∈ r, 0 ≤ t ∧ t < N.length := by
  obtain ⟨ds, hd, h⟩ := h
  obtain ⟨r, rfl, hr⟩ := ints_of (ds := ds) (p := fun t => 0 ≤ t ∧ t < N.length) fun i hi => by
    obtain ⟨a, h1, h2, h3, _⟩ := h i hi
    exact ⟨a, h1, h2, h3⟩
  exact ⟨r, hd, hr⟩
def RwS (N : List (List Int)) (s : List Int) (d : PyData) (s1 : List Int) : Prop := ∃ r : List Int, seqD d = some (r.map .int) ∧ ChOk N d ∧ r ≠ [] ∧ s1 = s ++ r
def RwP (N : List (List Int)) (s : List Int) (d : PyData) (s1 : List Int) : Prop := ∃ r : List Int, seqD d = some (r.map .int) ∧ ChOk N d ∧ r ≠ [] ∧ r.Nodup ∧ (∀ t ∈ r, t ∉ s) ∧ s1 = s ++ r
theorem RwS.at {N : List (List Int)} {s s1 : List Int} {d : PyData} {r : List Int} (hd : seqD d = some (r.map .int)) (h : RwS N s d s1) : ChOk N d ∧ r ≠ [] ∧ s1 = s ++ r := by
  obtain ⟨r', e, h⟩ := h
  rw [hd] at e
  cases ints_inj (Option.some.inj e)
  exact h
theorem RwP.at {N : List (List Int)} {s s1 : List Int} {d : PyData} {r : List Int} (hd : seqD d = some (r.map .int)) (h : RwP N s d s1) : ChOk N d ∧ r ≠ [] ∧ r.Nodup ∧ (∀ t ∈ r, t ∉ s) ∧ s1 = s ++ r := by
  obtain ⟨r', e, h⟩ := h
  rw [hd] at e
  cases ints_inj (Option.some.inj e)
  exact h
theorem RwS.fn {N : List (List Int)} (s : List Int) (d : PyData) (s1 s2 : List Int) (a : RwS N s d s1) (b : RwS N s d s2) : s1 = s2 := by
  obtain ⟨r, hd, _, _, h⟩ := a
  rw [h, (RwS.at hd b).2.2]
theorem RwP.fn {N : List (List Int)} (s : List Int) (d : PyData) (s1 s2 : List Int) (a : RwP N s d s1) (b : RwP N s d s2) : s1 = s2 := by
  obtain ⟨r, hd, _, _, _, _, h⟩ := a
  rw [h, (RwP.at hd b).2.2.2.2]
theorem rw_pre {N : List (List Int)} : ∀ {ds : List PyData} {s s' : List Int}, RunS (RwS N) s ds s' → ∃ t, s' = s ++ t
  | [], s, s', h => ⟨[], by rw [show s' = s from h, List.append_nil]⟩
  | d :: ds, s, s', ⟨s1, ⟨r, _, _, _, e⟩, h⟩ => by
    obtain ⟨t, rfl⟩ := rw_pre h
    exact ⟨r ++ t, by rw [e, List.append_assoc]⟩
theorem rw_same {N : List (List Int)} : ∀ {ds : List PyData} {s s' : List Int}, s.Nodup → (RunS (RwP N) s ds s' ↔ RunS (RwS N) s ds s' ∧ s'.Nodup)
  | [], s, s', hs => ⟨fun h => ⟨h, (show s' = s from h) ▸ hs⟩, fun h => h.1⟩
  | d :: ds, s, s', hs => by
    constructor
    · rintro ⟨s1, ⟨r, hd, hc, hne, hn, hk, rfl⟩, h⟩
      have := (rw_same (take_nodup hs hn hk)).mp h
      exact ⟨⟨_, ⟨r, hd, hc, hne, rfl⟩, this.1⟩, this.2⟩
    · rintro ⟨⟨s1, ⟨r, hd, hc, hne, rfl⟩, h⟩, hn⟩
      obtain ⟨t, e⟩ := rw_pre h
      have h1 : (s ++ r).Nodup := by
        rw [e, List.nodup_append] at hn
        exact hn.1
      have h2 := List.nodup_append.mp h1
      exact ⟨s ++ r, ⟨r, hd, hc, hne, h2.2.1, fun u hu hs' => h2.2.2 u hs' u hu rfl, rfl⟩, (rw_same h1).mpr ⟨h, hn⟩⟩
def RwOk (N : List (List Int)) (x : PyData) : Prop := ∃ ds, seqD x = some ds ∧ ∃ s', RunS (RwS N) [] ds s' ∧ s'.Nodup ∧ s'.length = N.length
theorem rwOk_at {N : List (List Int)} {x : PyData} {ds : List PyData} (hx : seqD x = some ds) (h : RwOk N x) : ∃ s', RunS (RwS N) [] ds s' ∧ s'.Nodup ∧ s'.length = N.length := by
  obtain ⟨ds', e, h⟩ := h
  rw [hx] at e
  cases e
  exact h
theorem are_rows_wp {T : List (List Int)} (hT : Tab T) {x : PyData} (hs : PaperOk x) {st : Sto} {Q : VL → Sto → Prop} (q : ∀ N, Clo T N (List.range T.length) → ∀ b, (b = true ↔ RwOk N x) → Q (.d (.bool b)) st) : wF m_are_rows [.d (tbL T), .d x] st Q := by
  have hlen := hT.len
  refine wF_cut (wF_run ?_)
  unfold c_are_rows
  repeat' wp_step
  refine all_needs_wp hT fun N hN => ?_
  have hNl := hN.len
  repeat' wp_step
  refine wF_of (is_row_eq _ _) ?_
  cases hx : seqD x with
  | none =>
    simp only [Option.isSome]
    repeat' wp_step
    refine ⟨cutOk_same (List.take_length), ?_⟩
    rw [List.take_length]
    exact q N hN false (iffF fun ⟨ds, e, _⟩ => by rw [hx] at e; cases e)
  | some ds =>
    simp only [Option.isSome]
    have hs2 := (hs ds hx).2
    repeat' wp_step
    refine walk_any hx (wL_run (v := VL.d) (RwP N) RwP.fn (fun i s env st' => (∃ a b, env = [some (.d (tbL T)), some (.d x), some (.d (tbT N)), some (.o st.length), a, b]) ∧
        (∃ kvs, st' = st ++ [.dk kvs] ∧ Keys kvs s) ∧ s.Nodup ∧ ∀ t ∈ s, 0 ≤ t ∧ t < N.length) (fun st' => ∃ l, st' = st ++ l) (s0 := [])
      ⟨⟨_, _, rfl⟩, ⟨[], rfl, Keys.nil⟩, List.nodup_nil, (fun t ht => by cases ht)⟩ (fun i s d env st' hd hI => ?_) (fun s' env st' hrun hun hI => ?_) (fun hno st' hb => ?_))
    · obtain ⟨⟨a, b, rfl⟩, ⟨kvs, rfl, hk⟩, hnd, hrg⟩ := hI
      refine ⟨_, rfl, ?_⟩
      unfold c_are_rows_B1
      repeat' wp_step
      refine chain_in_wp (.inl rfl) (fun es he => Nat.lt_of_le_of_lt (hs2 d (List.mem_of_getElem? hd) es he) (by decide)) fun b1 hb1 => ?_
      cases b1 with
      | false =>
        repeat' wp_step
        exact .inr ⟨(fun s1 ⟨r, e, h2, _⟩ => by cases hb1.mpr h2), _, rfl, _, rfl⟩
      | true =>
        have hch := hb1.mp rfl
        obtain ⟨r, hr, hp1⟩ := ch_ints hch
        repeat' wp_step
        refine lenX (seqD_some hr) ?_
        repeat' wp_step
        · rename_i h0
          refine .inr ⟨fun s1 h => ?_, _, rfl, _, rfl⟩
          have := (RwP.at hr h).2.1
          rw [List.length_map] at h0
          exact this (List.length_eq_zero_iff.mp (by omega))
        · rename_i h0
          have hne : r ≠ [] := fun e => h0 (by rw [e]; rfl)
          refine walk_ints hr (wL_ix (v := fun t => VL.d (.int t)) (fun j env st' => (∃ b, env = [some (.d (tbL T)), some (.d x), some (.d (tbT N)), some (.o st.length), some (.d d), b]) ∧
              (∃ kvs, st' = st ++ [.dk kvs] ∧ Keys kvs (s ++ r.take j)) ∧ (s ++ r.take j).Nodup)
            ⟨⟨_, rfl⟩, ⟨kvs, rfl, by simpa using hk⟩, by simpa using hnd⟩ (fun j t env st' ht hI => ?_) (fun env st' hI => ?_))
          · obtain ⟨⟨b1, rfl⟩, ⟨kvs1, rfl, hk1⟩, hnd1⟩ := hI
            have htm := List.mem_of_getElem? ht
            have ee : s ++ r.take (j + 1) = (s ++ r.take j) ++ [t] := by
              rw [List.take_add_one, ht, List.append_assoc]
              rfl
            refine ⟨_, rfl, ?_⟩
            unfold c_are_rows_B0
            repeat' wp_step
            · rename_i hin
              refine .inr ⟨fun s1 h => ?_, _, rfl, _, rfl⟩
              obtain ⟨_, _, h3, h4, _⟩ := RwP.at hr h
              rcases List.mem_append.mp (hk1.val.mp hin) with h5 | h5
              · exact h4 t htm h5
              · rw [cons_eq ht, List.nodup_append] at h3
                exact h3.2.2 t h5 t (by simp) rfl
            · rename_i hin
              refine size_lt ?_
              have h4 := nodup_len (n := N.length) hnd1 fun y hy => by
                rcases List.mem_append.mp hy with hy | hy
                · exact hrg y hy
                · exact hp1 y (List.mem_of_mem_take hy)
              rw [hk1.len]
              omega
            · rename_i hin
              have hn := hk1.not.mp hin
              rw [app_set0]
              exact ⟨⟨_, rfl⟩, ⟨_, rfl, by rw [ee]; exact hk1.put hn _⟩, by
                rw [ee]
                exact take_nodup hnd1 (by simp) fun u hu => by
                  rw [List.mem_singleton] at hu
                  subst hu
                  exact hn⟩
          · obtain ⟨⟨b1, rfl⟩, ⟨kvs1, rfl, hk1⟩, hnd1⟩ := hI
            rw [List.take_length] at hk1 hnd1
            have h2 := List.nodup_append.mp hnd1
            refine .inl ⟨s ++ r, ⟨r, hr, hch, hne, h2.2.1, fun u hu hs' => h2.2.2 u hs' u hu rfl, rfl⟩, _, _, rfl, ⟨_, _, rfl⟩, ⟨_, rfl, hk1⟩, hnd1, fun u hu => ?_⟩
            rcases List.mem_append.mp hu with hu | hu
            · exact hrg u hu
            · exact hp1 u hu
    · obtain ⟨⟨a, b, rfl⟩, ⟨kvs, rfl, hk⟩, hnd, hrg⟩ := hI
      repeat' wp_step
      refine isTb_len (.inl rfl) ?_
      repeat' wp_step
      refine ⟨cutOk_app _ _, ?_⟩
      rw [take_app]
      refine q N hN _ ?_
      rw [decide_eq_true_iff, hk.len]
      have hrun2 := (rw_same List.nodup_nil).mp hrun
      constructor
      · intro h
        exact ⟨ds, hx, s', hrun2.1, hrun2.2, by omega⟩
      · intro h
        obtain ⟨s2, h1, h2, h3⟩ := rwOk_at hx h
        rw [hun s2 ((rw_same List.nodup_nil).mpr ⟨h1, h2⟩)] at h3
        omega
    · obtain ⟨l, rfl⟩ := hb
      repeat' wp_step
      refine ⟨cutOk_app _ _, ?_⟩
      rw [take_app]
      exact q N hN false (iffF fun h => by
        obtain ⟨s2, h1, h2, h3⟩ := rwOk_at hx h
        exact hno s2 ((rw_same List.nodup_nil).mpr ⟨h1, h2⟩))
theorem insU_len (x : Int) : ∀ {r : List Int}, r.Pairwise (· < ·) → (insU x r).length = if x ∈ r then r.length else r.length + 1
  | [], _ => rfl
  | y :: r, h => by
    have hp := List.pairwise_cons.mp h
    unfold insU
    by_cases h1 : x < y
    · rw [if_pos h1, if_neg]
      · rfl
      · intro hm
        rcases List.mem_cons.mp hm with rfl | hm
        · omega
        · have := hp.1 x hm
          omega
    · rw [if_neg h1]
      by_cases h2 : x = y
      · rw [if_pos h2, if_pos (by rw [h2]; exact List.mem_cons_self)]
      · rw [if_neg h2, List.length_cons, insU_len x hp.2]
        by_cases h3 : x ∈ r
        · rw [if_pos h3, if_pos (List.mem_cons_of_mem _ h3)]
          rfl
        · rw [if_neg h3, if_neg (fun hm => (List.mem_cons.mp hm).elim h2 h3)]
          rfl
theorem sortU_nodup : ∀ {ns : List Int}, (sortU ns).length = ns.length ↔ ns.Nodup
  | [] => ⟨fun _ => List.nodup_nil, fun _ => rfl⟩
  | x :: ns => by
    have ih := sortU_nodup (ns := ns)
    have e : sortU (x :: ns) = insU x (sortU ns) := rfl
    have hl := sortU_length ns
    rw [e, insU_len x (rise_sortU ns), List.nodup_cons, List.length_cons]
    by_cases h : x ∈ sortU ns
    · rw [if_pos h]
      exact ⟨fun h1 => by omega, fun h1 => absurd ((mem_sortU x ns).mp h) h1.1⟩
    · rw [if_neg h]
      exact ⟨fun h1 => ⟨fun h2 => h ((mem_sortU x ns).mpr h2), ih.mp (by omega)⟩, fun h1 => by rw [ih.mpr h1.2]⟩
theorem l_cover_wp {N : List (List Int)} {x y : PyData} (hy : IsTb N y) (hs : PaperOk x) {st : Sto} {Q : VL → Sto → Prop} (q : ∀ b, (b = true ↔ RwOk N x) → Q (.d (.bool b)) st) : wF m__law_cover [.d y, .d x] st Q := by
  refine wF_run ?_
  unfold c__law_cover
  repeat' wp_step
  refine wF_of (l_row_eq _ _) ?_
  cases hx : seqD x with
  | none =>
    simp only [Option.isSome]
    repeat' wp_step
    exact q false (iffF fun ⟨ds, e, _⟩ => by rw [hx] at e; cases e)
  | some ds =>
    simp only [Option.isSome]
    obtain ⟨hs1, hs2⟩ := hs ds hx
    repeat' wp_step
    refine walk_any hx (wL_run (v := VL.d) (RwS N) RwS.fn (fun i s env st' => (∃ a, env = [some (.d y), some (.d x), some (.d (rowL s)), a]) ∧ st = st' ∧ s.length ≤ 24 * i) (fun st' => st = st') (s0 := [])
      ⟨⟨_, rfl⟩, rfl, Nat.zero_le _⟩ (fun i s d env st' hd hI => ?_) (fun s' env st' hrun hun hI => ?_) (fun hno st' hb => ?_))
    · obtain ⟨⟨a, rfl⟩, rfl, hsl⟩ := hI
      have hdm := List.mem_of_getElem? hd
      have hil := (List.getElem?_eq_some_iff.mp hd).1
      refine ⟨_, rfl, ?_⟩
      unfold c__law_cover_B0
      repeat' wp_step
      refine l_chain_wp hy (fun es he => Nat.lt_of_le_of_lt (hs2 d hdm es he) (by decide)) fun b1 hb1 => ?_
      cases b1 with
      | false =>
        repeat' wp_step
        exact .inr ⟨(fun s1 ⟨r, e, h2, _⟩ => by cases hb1.mpr h2), _, rfl, rfl⟩
      | true =>
        have hch := hb1.mp rfl
        obtain ⟨r, hr, hp1⟩ := ch_ints hch
        have hrl := hs2 d hdm _ hr
        rw [List.length_map] at hrl
        repeat' wp_step
        refine lenX (seqD_some hr) ?_
        repeat' wp_step
        · rename_i h0
          refine .inr ⟨fun s1 h => ?_, _, rfl, rfl⟩
          have := (RwS.at hr h).2.1
          rw [List.length_map] at h0
          exact this (List.length_eq_zero_iff.mp (by omega))
        · rename_i h0
          have hne : r ≠ [] := fun e => h0 (by rw [e]; rfl)
          obtain ⟨k1, e1⟩ := asSeqD (st := st) (seqD_some hr)
          refine wC_list e1 ?_
          repeat' wp_step
          refine wO_addD (size_le (by rw [List.length_map, List.length_map]; omega)) ?_
          rw [← List.map_append]
          repeat' wp_step
          exact .inl ⟨s ++ r, ⟨r, hr, hch, hne, rfl⟩, _, _, rfl, ⟨_, rfl⟩, rfl, by rw [List.length_append]; omega⟩
    · obtain ⟨⟨a, rfl⟩, rfl, hsl⟩ := hI
      repeat' wp_step
      refine lenX (ds := s'.map .int) (.inl rfl) ?_
      repeat' wp_step
      refine isTb_len hy ?_
      repeat' wp_step
      · rename_i h0
        rw [List.length_map] at h0
        refine ⟨by omega, ?_⟩
        repeat' wp_step
        refine isTb_len hy ?_
        repeat' wp_step
        refine q _ ?_
        rw [decide_eq_true_iff]
        constructor
        · intro h
          exact ⟨ds, hx, s', hrun, sortU_nodup.mp (by omega), by omega⟩
        · intro h
          obtain ⟨s2, h1, h2, h3⟩ := rwOk_at hx h
          rw [hun s2 h1] at h2 h3
          have := sortU_nodup.mpr h2
          omega
      · rename_i h0
        rw [List.length_map] at h0
        refine q false (iffF fun h => ?_)
        obtain ⟨s2, h1, h2, h3⟩ := rwOk_at hx h
        rw [hun s2 h1] at h3
        omega
    · subst hb
      repeat' wp_step
      exact q false (iffF fun h => by
        obtain ⟨s2, h1, h2, h3⟩ := rwOk_at hx h
        exact hno s2 h1)
end K75
set_option Elab.async false
set_option linter.all false
set_option autoImplicit false
set_option maxRecDepth 100000
set_option maxHeartbeats 1000000
namespace K75
open PySem PySem.Spec PyProof.Rows L2 Sl
local macro_rules | `(tactic| wp_step) => `(tactic| first
  | with_reducible refine wS_seq ?_
  | with_reducible refine seqK_nx ?_
  | with_reducible refine seqK_rt ?_
  | with_reducible refine seqK_bk ?_
  | with_reducible refine seqK_ct ?_
  | with_reducible refine fnQ_nx ?_
  | with_reducible refine fnQ_rt ?_
  | with_reducible refine turn_nx ?_
  | with_reducible refine turn_ct ?_
  | with_reducible refine turn_bk ?_
  | with_reducible refine turn_rt ?_
  | with_reducible refine wS_if ?_
  | with_reducible refine wS_set ?_
  | with_reducible refine wS_asg ?_
  | with_reducible refine wS_ret ?_
  | with_reducible refine wS_drop ?_
  | with_reducible refine wS_nx ?_
  | with_reducible refine wS_bk ?_
  | with_reducible refine wS_ct ?_
  | with_reducible refine wS_forS ?_
  | with_reducible refine wS_for1 ?_
  | with_reducible refine wS_setL ?_
  | with_reducible refine wS_dputK ?_
  | with_reducible refine wE_op ?_
  | with_reducible refine wE_c ?_
  | ((with_reducible apply wE_var); rfl)
  | with_reducible refine wE_call ?_
  | with_reducible refine wE_cb ?_
  | with_reducible refine wE_and ?_
  | with_reducible refine wE_or ?_
  | with_reducible refine wE_not ?_
  | with_reducible refine wE_if ?_
  | with_reducible refine wE_isi ?_
  | with_reducible refine wE_chain ?_
  | with_reducible refine wE_neg ?_
  | with_reducible refine wE_lst ?_
  | with_reducible refine wE_tup ?_
  | with_reducible refine wE_frz ?_
  | with_reducible refine wE_append ?_
  | with_reducible refine wE_sl ?_
  | with_reducible refine wE_rev ?_
  | with_reducible refine wE_dnew ?_
  | with_reducible refine wZ_d ?_
  | ((with_reducible apply isO_o); (first | assumption | exact app_get0 | exact app_get1 | exact app_get2 | exact List.getElem?_set_self (by assumption) | exact List.getElem?_set_self (by rw [List.length_set]; assumption) | (rw [List.getElem?_append_right (Nat.le_refl _), Nat.sub_self]; rfl) | exact getA0 (by assumption) | exact getA1 (by assumption)))
  | ((with_reducible apply wApp_o); (first | assumption | exact app_get0 | exact app_get1 | exact app_get2 | exact List.getElem?_set_self (by assumption) | exact List.getElem?_set_self (by rw [List.length_set]; assumption) | (rw [List.getElem?_append_right (Nat.le_refl _), Nat.sub_self]; rfl) | exact getA0 (by assumption) | exact getA1 (by assumption)))
  | ((with_reducible apply wD_o); (first | assumption | exact app_get0 | exact app_get1 | exact app_get2 | exact List.getElem?_set_self (by assumption) | exact List.getElem?_set_self (by rw [List.length_set]; assumption) | (rw [List.getElem?_append_right (Nat.le_refl _), Nat.sub_self]; rfl) | exact getA0 (by assumption) | exact getA1 (by assumption)))
  | ((with_reducible apply wZ_o); (first | assumption | exact app_get0 | exact app_get1 | exact app_get2 | exact List.getElem?_set_self (by assumption) | exact List.getElem?_set_self (by rw [List.length_set]; assumption) | (rw [List.getElem?_append_right (Nat.le_refl _), Nat.sub_self]; rfl) | exact getA0 (by assumption) | exact getA1 (by assumption)); exact allD_map' _)
  | with_reducible refine wE_rep ?_
  | with_reducible refine wE_sortSet ?_
  | with_reducible refine wE_lenSet ?_
  | with_reducible refine wE_comp1 ?_
  | with_reducible refine wE_compS ?_
  | with_reducible refine wP_none ?_
  | with_reducible refine wP_some ?_
  | with_reducible refine wA_nil ?_
  | with_reducible refine wA_cons ?_
  | with_reducible refine wA_app ?_
  | with_reducible refine wB_t ?_
  | with_reducible refine wB_f ?_
  | with_reducible refine wB_nt ?_
  | with_reducible refine wB_nf ?_
  | with_reducible refine wB_dec (fun _ => ?_) (fun _ => ?_)
  | with_reducible refine wB_not (fun _ => ?_) (fun _ => ?_)
  | with_reducible refine wB_nb (fun _ => ?_) (fun _ => ?_)
  | with_reducible refine wB_b (fun _ => ?_) (fun _ => ?_)
  | with_reducible refine wO_sub ?_
  | ((with_reducible apply wO_inS0); rfl)
  | ((with_reducible apply wO_inS1); rfl)
  | ((with_reducible apply wO_inD0); (first | assumption | exact app_get0 | exact app_get1 | exact app_get2 | exact List.getElem?_set_self (by assumption) | exact List.getElem?_set_self (by rw [List.length_set]; assumption) | (rw [List.getElem?_append_right (Nat.le_refl _), Nat.sub_self]; rfl) | exact getA0 (by assumption) | exact getA1 (by assumption)))
  | ((with_reducible apply wO_inD1); (first | assumption | exact app_get0 | exact app_get1 | exact app_get2 | exact List.getElem?_set_self (by assumption) | exact List.getElem?_set_self (by rw [List.length_set]; assumption) | (rw [List.getElem?_append_right (Nat.le_refl _), Nat.sub_self]; rfl) | exact getA0 (by assumption) | exact getA1 (by assumption)))
  | with_reducible refine wO_lt ?_
  | with_reducible refine wO_le ?_
  | with_reducible refine wO_gt ?_
  | with_reducible refine wO_ge ?_
  | with_reducible refine wO_add ?_
  | with_reducible refine wO_eqI ?_
  | with_reducible refine wO_neI ?_
  | with_reducible refine wO_isN ?_
  | with_reducible refine wO_notN ?_
  | with_reducible refine wC_lenL ?_
  | with_reducible refine wC_lenT ?_
  | with_reducible refine wC_int ?_
  | ((with_reducible apply wC_lenD); (first | assumption | exact app_get0 | exact app_get1 | exact app_get2 | exact List.getElem?_set_self (by assumption) | exact List.getElem?_set_self (by rw [List.length_set]; assumption) | (rw [List.getElem?_append_right (Nat.le_refl _), Nat.sub_self]; rfl) | exact getA0 (by assumption) | exact getA1 (by assumption)))
  | with_reducible refine wC_abs ?_
  | with_reducible refine wM_N ?_
  | with_reducible refine wM_Dm ?_
  | with_reducible refine wM_Tm ?_
  | ((with_reducible apply wM_T); rfl)
  | ((with_reducible apply wM_D); rfl)
  | (with_reducible refine Exists.intro _ (And.intro rfl ?_))
  | (with_reducible refine And.intro rfl ?_)
  | ((with_reducible refine And.intro (size_small ?_) ?_); rfl)
  | with_reducible refine wO_pow6 ?_
  | ((with_reducible refine wO_mulR ?_ ?_); decide)
  | ((with_reducible refine wO_mulL ?_ ?_); decide)
  | ((with_reducible refine wO_mod ?_ ?_); omega)
  | ((with_reducible refine wO_div ?_ ?_ ?_); omega; omega)
  | ((with_reducible apply wU_o); (first | assumption | exact app_get0 | exact app_get1 | exact app_get2 | exact List.getElem?_set_self (by assumption) | exact List.getElem?_set_self (by rw [List.length_set]; assumption) | (rw [List.getElem?_append_right (Nat.le_refl _), Nat.sub_self]; rfl) | exact getA0 (by assumption) | exact getA1 (by assumption)); rfl)
  | ((with_reducible apply wO_ixZ); (apply asSeq_o; (first | assumption | exact app_get0 | exact app_get1 | exact app_get2 | exact List.getElem?_set_self (by assumption) | exact List.getElem?_set_self (by rw [List.length_set]; assumption) | (rw [List.getElem?_append_right (Nat.le_refl _), Nat.sub_self]; rfl) | exact getA0 (by assumption) | exact getA1 (by assumption))); rfl))
/-! ### slots -/
def prevI (ds : List PyData) (i : Nat) : Int := if i = 0 then -1 else match ds[i - 1]? with
  | some (.int p) => p
  | _ => -1
theorem prevI_succ {ds : List PyData} {i : Nat} {a : Int} (h : ds[i]? = some (.int a)) : prevI ds (i + 1) = a := by
  unfold prevI
  rw [if_neg (Nat.succ_ne_zero i), Nat.add_sub_cancel, h]
def GoodAt (ds : List PyData) (i : Nat) : Prop := ∃ a : Int, ds[i]? = some (.int a) ∧ a ≤ 9999 ∧ prevI ds i < a
def MeetAt (R : List Int) (g : Int) (ds : List PyData) (i : Nat) : Prop := ∀ j, j < i → R[j]? = R[i]? → ∀ a b : Int, ds[i]? = some (.int a) → ds[j]? = some (.int b) → (a - b) % g ≠ 0
def SlOk (R : List Int) (g : Int) (x : PyData) : Prop := ∃ ds, seqD x = some ds ∧ ds.length = R.length ∧ (∀ i, i < ds.length → GoodAt ds i) ∧ (∀ i, i < ds.length → MeetAt R g ds i) ∧ ds[0]? = some (.int 0)
theorem slOk_at {R : List Int} {g : Int} {x : PyData} {ds : List PyData} (hx : seqD x = some ds) (h : SlOk R g x) : ds.length = R.length ∧ (∀ i, i < ds.length → GoodAt ds i) ∧ (∀ i, i < ds.length → MeetAt R g ds i) ∧ ds[0]? = some (.int 0) := by
  obtain ⟨ds', e, h⟩ := h
  rw [hx] at e
  cases e
  exact h
theorem lenR {R : List Int} {st : Sto} {Q : VL → Sto → Prop} (q : Q (.d (.int (R.length : Nat))) st) : wC cLen st [.d (rowL R)] Q := by
  unfold rowL
  refine wC_lenL ?_
  rwa [List.length_map]
theorem ixR {R : List Int} {st : Sto} {i : Nat} (h : i < R.length) {Q : VL → Sto → Prop} (q : Q (.d (.int R[i])) st) : wO oIx st (.d (rowL R)) (.d (.int (i : Int))) Q := by
  refine ixX (ds := R.map .int) (.inl rfl) (d := .int R[i]) ?_ q
  rw [List.getElem?_map, List.getElem?_eq_getElem h]
  rfl
theorem check_route_wp {R : List Int} (h1 : 1 ≤ R.length) (h2 : R.length ≤ 60) (hr : ∀ t ∈ R, 0 ≤ t ∧ t ≤ 99) {st : Sto} {Q : VL → Sto → Prop} (q : Q (.d .none) st) : wF m_check_route [.d (rowL R)] st Q := by
  have h62 : R.length < 2 ^ 62 := Nat.lt_of_le_of_lt h2 (by decide)
  refine wF_run ?_
  unfold c_check_route
  repeat' wp_step
  refine lenR ?_
  repeat' wp_step
  · exfalso; omega
  · refine lenR ?_
    repeat' wp_step
    · exfalso; omega
    · refine lenR ?_
      repeat' wp_step
      refine ⟨h62, wL_rg (fun i env st' => (∃ a, env = [some (.d (rowL R)), a]) ∧ st = st') ⟨⟨_, rfl⟩, rfl⟩ (fun i env st' hi hI => ?_) (fun env st' hI => ?_)⟩
      · obtain ⟨⟨a, rfl⟩, rfl⟩ := hI
        refine ⟨_, rfl, ?_⟩
        unfold c_check_route_B0
        repeat' wp_step
        refine ixR hi ?_
        repeat' wp_step
        refine wF_of (is_between_eq _ _ _ _) ?_
        have h3 := hr _ (List.getElem_mem hi)
        rw [btw_iff.mpr ⟨_, rfl, h3.1, h3.2⟩]
        repeat' wp_step
        exact ⟨⟨_, rfl⟩, rfl⟩
      · obtain ⟨⟨a, rfl⟩, rfl⟩ := hI
        exact q
theorem check_gap_wp {g : Int} (h1 : 1 ≤ g) (h2 : g ≤ 10000) {st : Sto} {Q : VL → Sto → Prop} (q : Q (.d .none) st) : wF m_check_gap [.d (.int g)] st Q := by
  refine wF_run ?_
  unfold c_check_gap
  repeat' wp_step
  · exfalso; omega
  · exfalso; omega
  · exact q
theorem wrong_slot_wp {R : List Int} (h2 : R.length ≤ 60) {x : PyData} {ds : List PyData} (hx : seqD x = some ds) {st : Sto} {Q : VL → Sto → Prop}
    (q : ∀ v : PyData, (isN (.d v) = true ↔ ds.length = R.length ∧ ∀ i, i < ds.length → GoodAt ds i) → Q (.d v) st) : wF m_wrong_slot [.d (rowL R), .d x] st Q := by
  have h62 : R.length < 2 ^ 62 := Nat.lt_of_le_of_lt h2 (by decide)
  have hxs := seqD_some hx
  refine wF_run ?_
  unfold c_wrong_slot
  repeat' wp_step
  refine lenR ?_
  repeat' wp_step
  refine ⟨h62, wL_rg (fun i env st' => (∃ a, env = [some (.d (rowL R)), some (.d x), some (.d (.int (prevI ds i))), a]) ∧ st = st' ∧ i ≤ ds.length ∧ ∀ j, j < i → GoodAt ds j)
    ⟨⟨_, rfl⟩, rfl, Nat.zero_le _, fun j hj => absurd hj (Nat.not_lt_zero _)⟩ (fun i env st' hi hI => ?_) (fun env st' hI => ?_)⟩
  · obtain ⟨⟨a, rfl⟩, rfl, hl, hp⟩ := hI
    refine ⟨_, rfl, ?_⟩
    unfold c_wrong_slot_B0
    repeat' wp_step
    refine lenX hxs ?_
    repeat' wp_step
    · rename_i h0
      exact q _ (iffF fun h => by omega)
    · rename_i h0
      have hil : i < ds.length := by omega
      have hdi : ds[i]? = some ds[i] := List.getElem?_eq_getElem hil
      refine ixX hxs hdi ?_
      repeat' wp_step
      refine wF_of (is_between_eq _ _ _ _) ?_
      repeat' wp_step
      · rename_i hb
        refine q _ (iffF fun h => ?_)
        obtain ⟨a1, e1, e2, e3⟩ := h.2 i hil
        rw [hdi] at e1
        rw [btw_iff.mpr ⟨a1, Option.some.inj e1, (by omega : prevI ds i + 1 ≤ a1), e2⟩] at hb
        cases hb
      · rename_i hb
        obtain ⟨a1, e1, e2, e3⟩ := btw_iff.mp hb
        have hda : ds[i]? = some (.int a1) := by rw [hdi, e1]
        refine ixX hxs hda ?_
        repeat' wp_step
        refine ⟨⟨_, by rw [prevI_succ hda]; rfl⟩, rfl, hil, fun j hj => ?_⟩
        rcases Nat.lt_succ_iff_lt_or_eq.mp hj with hj | rfl
        · exact hp j hj
        · exact ⟨a1, hda, e3, by omega⟩
  · obtain ⟨⟨a, rfl⟩, rfl, hl, hp⟩ := hI
    repeat' wp_step
    refine lenX hxs ?_
    repeat' wp_step
    refine lenR ?_
    repeat' wp_step
    · refine lenR ?_
      repeat' wp_step
      rename_i h0
      exact q _ (iffF fun h => by omega)
    · rename_i h0
      have e : ds.length = R.length := by omega
      exact q _ (iffT ⟨e, fun i hi => hp i (by omega)⟩)
theorem modI {a g : Int} : decide (a % g = 0) = false ↔ a % g ≠ 0 := by simp
theorem meeting_wp {R : List Int} {g : Int} (hg : 1 ≤ g) (h2 : R.length ≤ 60) {x : PyData} {ds : List PyData} (hx : seqD x = some ds) (hl : ds.length = R.length) (hgd : ∀ i, i < ds.length → GoodAt ds i) {st : Sto} {Q : VL → Sto → Prop}
    (q : ∀ v : PyData, (isN (.d v) = true ↔ ∀ i, i < ds.length → MeetAt R g ds i) → Q (.d v) st) : wF m_meeting [.d (rowL R), .d x, .d (.int g)] st Q := by
  have h62 : R.length < 2 ^ 62 := Nat.lt_of_le_of_lt h2 (by decide)
  have hxs := seqD_some hx
  refine wF_run ?_
  unfold c_meeting
  repeat' wp_step
  refine lenR ?_
  repeat' wp_step
  refine ⟨h62, wL_rg (fun i env st' => (∃ a b, env = [some (.d (rowL R)), some (.d x), some (.d (.int g)), a, b]) ∧ st = st' ∧ ∀ j, j < i → MeetAt R g ds j)
    ⟨⟨_, _, rfl⟩, rfl, fun j hj => absurd hj (Nat.not_lt_zero _)⟩ (fun i env st' hi hI => ?_) (fun env st' hI => ?_)⟩
  · obtain ⟨⟨a, b, rfl⟩, rfl, hp⟩ := hI
    obtain ⟨u, hu, _⟩ := hgd i (by omega)
    refine ⟨_, rfl, ?_⟩
    unfold c_meeting_B1
    repeat' wp_step
    refine ⟨by omega, wL_rg (fun k env st' => (∃ b, env = [some (.d (rowL R)), some (.d x), some (.d (.int g)), some (.d (.int (i : Int))), b]) ∧ st = st' ∧ ∀ j, j < k → R[j]? = R[i]? → ∀ a b : Int, ds[i]? = some (.int a) → ds[j]? = some (.int b) → (a - b) % g ≠ 0)
      ⟨⟨_, rfl⟩, rfl, fun j hj => absurd hj (Nat.not_lt_zero _)⟩ (fun k env st' hk hI => ?_) (fun env st' hI => ?_)⟩
    · obtain ⟨⟨b1, rfl⟩, rfl, hj⟩ := hI
      have hkR : k < R.length := by omega
      obtain ⟨w, hw, _⟩ := hgd k (by omega)
      refine ⟨_, rfl, ?_⟩
      unfold c_meeting_B0
      repeat' wp_step
      refine ixR hkR ?_
      repeat' wp_step
      refine ixR hi ?_
      repeat' wp_step
      · rename_i hroom
        refine ixX hxs hu ?_
        repeat' wp_step
        refine ixX hxs hw ?_
        repeat' wp_step
        · rename_i hm
          refine ixX hxs hu ?_
          repeat' wp_step
          refine ixR hi ?_
          repeat' wp_step
          refine q _ (iffF fun h => ?_)
          exact h i (by omega) k hk (by rw [List.getElem?_eq_getElem hkR, List.getElem?_eq_getElem hi, hroom]) u w hu hw hm
        · rename_i hm
          refine ⟨⟨_, rfl⟩, rfl, fun j hj' => ?_⟩
          rcases Nat.lt_succ_iff_lt_or_eq.mp hj' with hj' | rfl
          · exact hj j hj'
          · intro _ a b ha hb
            rw [hu] at ha
            rw [hw] at hb
            cases ha
            cases hb
            exact hm
      · rename_i hroom
        refine ⟨⟨_, rfl⟩, rfl, fun j hj' => ?_⟩
        rcases Nat.lt_succ_iff_lt_or_eq.mp hj' with hj' | rfl
        · exact hj j hj'
        · intro e
          rw [List.getElem?_eq_getElem hkR, List.getElem?_eq_getElem hi] at e
          exact absurd (Option.some.inj e) hroom
    · obtain ⟨⟨b1, rfl⟩, rfl, hj⟩ := hI
      refine ⟨⟨_, _, rfl⟩, rfl, fun j hj' => ?_⟩
      rcases Nat.lt_succ_iff_lt_or_eq.mp hj' with hj' | rfl
      · exact hp j hj'
      · exact hj
  · obtain ⟨⟨a, b, rfl⟩, rfl, hp⟩ := hI
    repeat' wp_step
    exact q _ (iffT fun i hi => hp i (by omega))
theorem are_slots_wp {R : List Int} {g : Int} (h1 : 1 ≤ R.length) (h2 : R.length ≤ 60) (hr : ∀ t ∈ R, 0 ≤ t ∧ t ≤ 99) (hg1 : 1 ≤ g) (hg2 : g ≤ 10000) {x : PyData} {st : Sto} {Q : VL → Sto → Prop} (q : ∀ b, (b = true ↔ SlOk R g x) → Q (.d (.bool b)) st) :
    wF m_are_slots [.d (rowL R), .d (.int g), .d x] st Q := by
  refine wF_run ?_
  unfold c_are_slots
  repeat' wp_step
  refine check_route_wp h1 h2 hr ?_
  repeat' wp_step
  refine check_gap_wp hg1 hg2 ?_
  repeat' wp_step
  refine wF_of (is_row_eq _ _) ?_
  cases hx : seqD x with
  | none =>
    simp only [Option.isSome]
    repeat' wp_step
    exact q false (iffF fun ⟨ds, e, _⟩ => by rw [hx] at e; cases e)
  | some ds =>
    simp only [Option.isSome]
    have hxs := seqD_some hx
    repeat' wp_step
    refine wrong_slot_wp h2 hx fun v hv => ?_
    repeat' wp_step
    · rename_i hn
      exact q false (iffF fun h => by
        have := slOk_at hx h
        rw [hv.mpr ⟨this.1, this.2.1⟩] at hn
        cases hn)
    · rename_i hn
      obtain ⟨hl, hgd⟩ := hv.mp hn
      obtain ⟨a0, ha0, _⟩ := hgd 0 (by omega)
      refine ixX (i := 0) hxs ha0 ?_
      repeat' wp_step
      · rename_i h0
        refine meeting_wp hg1 h2 hx hl hgd fun v2 hv2 => ?_
        repeat' wp_step
        refine q _ ?_
        rw [hv2]
        exact ⟨fun h => ⟨ds, hx, hl, hgd, h, by rw [ha0, h0]⟩, fun h => (slOk_at hx h).2.2.1⟩
      · rename_i h0
        exact q false (iffF fun h => by
          have := (slOk_at hx h).2.2.2
          rw [ha0] at this
          cases this
          exact h0 rfl)
theorem l_slots_right_wp {R : List Int} {g : Int} (h1 : 1 ≤ R.length) (h2 : R.length ≤ 60) (hg1 : 1 ≤ g) {x : PyData} {st : Sto} {Q : VL → Sto → Prop} (q : ∀ b, (b = true ↔ SlOk R g x) → Q (.d (.bool b)) st) :
    wF m__law_slots_right [.d (rowL R), .d (.int g), .d x] st Q := by
  refine wF_run ?_
  unfold c__law_slots_right
  repeat' wp_step
  refine wF_of (l_row_eq _ _) ?_
  cases hx : seqD x with
  | none =>
    simp only [Option.isSome]
    repeat' wp_step
    exact q false (iffF fun ⟨ds, e, _⟩ => by rw [hx] at e; cases e)
  | some ds =>
    simp only [Option.isSome]
    have hxs := seqD_some hx
    repeat' wp_step
    refine lenX hxs ?_
    repeat' wp_step
    refine lenR ?_
    repeat' wp_step
    · rename_i h0
      exact q false (iffF fun h => by have := (slOk_at hx h).1; omega)
    · rename_i h0
      have hl : ds.length = R.length := by omega
      have h62 : ds.length < 2 ^ 62 := Nat.lt_of_le_of_lt (by omega : ds.length ≤ 60) (by decide)
      refine lenX hxs ?_
      repeat' wp_step
      refine ⟨h62, wL_rg (fun i env st' => (∃ a b, env = [some (.d (rowL R)), some (.d (.int g)), some (.d x), some (.d (.int (prevI ds i))), a, b]) ∧ st = st' ∧ (∀ j, j < i → GoodAt ds j) ∧ ∀ j, j < i → MeetAt R g ds j)
        ⟨⟨_, _, rfl⟩, rfl, fun j hj => absurd hj (Nat.not_lt_zero _), fun j hj => absurd hj (Nat.not_lt_zero _)⟩ (fun i env st' hi hI => ?_) (fun env st' hI => ?_)⟩
      · obtain ⟨⟨a, b, rfl⟩, rfl, hp, hm⟩ := hI
        have hdi : ds[i]? = some ds[i] := List.getElem?_eq_getElem hi
        have hiR : i < R.length := by omega
        refine ⟨_, rfl, ?_⟩
        unfold c__law_slots_right_B1
        repeat' wp_step
        refine ixX hxs hdi ?_
        repeat' wp_step
        refine wF_of (l_integer_eq _ _) ?_
        repeat' wp_step
        · rename_i hb
          refine q false (iffF fun h => ?_)
          obtain ⟨a1, e1, _⟩ := (slOk_at hx h).2.1 i hi
          rw [hdi] at e1
          rw [isW_iff.mpr ⟨a1, Option.some.inj e1⟩] at hb
          cases hb
        · rename_i hb
          obtain ⟨u, hu'⟩ := isW_iff.mp hb
          have hu : ds[i]? = some (.int u) := by rw [hdi, hu']
          refine ixX hxs hu ?_
          repeat' wp_step
          · rename_i h3
            refine q false (iffF fun h => ?_)
            obtain ⟨a1, e1, e2, e3⟩ := (slOk_at hx h).2.1 i hi
            rw [hu] at e1
            cases e1
            omega
          · rename_i h3
            refine ixX hxs hu ?_
            repeat' wp_step
            · rename_i h4
              refine q false (iffF fun h => ?_)
              obtain ⟨a1, e1, e2, e3⟩ := (slOk_at hx h).2.1 i hi
              rw [hu] at e1
              cases e1
              omega
            · rename_i h4
              have hgi : GoodAt ds i := ⟨u, hu, by omega, by omega⟩
              refine ixX hxs hu ?_
              repeat' wp_step
              refine ⟨by omega, wL_rg (fun k env st' => (∃ b, env = [some (.d (rowL R)), some (.d (.int g)), some (.d x), some (.d (.int u)), some (.d (.int (i : Int))), b]) ∧ st = st' ∧ ∀ j, j < k → R[j]? = R[i]? → ∀ a b : Int, ds[i]? = some (.int a) → ds[j]? = some (.int b) → (a - b) % g ≠ 0)
                ⟨⟨_, rfl⟩, rfl, fun j hj => absurd hj (Nat.not_lt_zero _)⟩ (fun k env st' hk hI => ?_) (fun env st' hI => ?_)⟩
              · obtain ⟨⟨b1, rfl⟩, rfl, hj⟩ := hI
                have hkR : k < R.length := by omega
                obtain ⟨w, hw, _⟩ := hp k hk
                refine ⟨_, rfl, ?_⟩
                unfold c__law_slots_right_B0
                repeat' wp_step
                refine ixR hkR ?_
                repeat' wp_step
                refine ixR hiR ?_
                repeat' wp_step
                · rename_i hroom
                  refine ixX hxs hu ?_
                  repeat' wp_step
                  refine ixX hxs hw ?_
                  repeat' wp_step
                  · rename_i hmm
                    refine q false (iffF fun h => ?_)
                    exact (slOk_at hx h).2.2.1 i hi k hk (by rw [List.getElem?_eq_getElem hkR, List.getElem?_eq_getElem hiR, hroom]) u w hu hw hmm
                  · rename_i hmm
                    refine ⟨⟨_, rfl⟩, rfl, fun j hj' => ?_⟩
                    rcases Nat.lt_succ_iff_lt_or_eq.mp hj' with hj' | rfl
                    · exact hj j hj'
                    · intro _ a b ha hb
                      rw [hu] at ha
                      rw [hw] at hb
                      cases ha
                      cases hb
                      exact hmm
                · rename_i hroom
                  refine ⟨⟨_, rfl⟩, rfl, fun j hj' => ?_⟩
                  rcases Nat.lt_succ_iff_lt_or_eq.mp hj' with hj' | rfl
                  · exact hj j hj'
                  · intro e
                    rw [List.getElem?_eq_getElem hkR, List.getElem?_eq_getElem hiR] at e
                    exact absurd (Option.some.inj e) hroom
              · obtain ⟨⟨b1, rfl⟩, rfl, hj⟩ := hI
                refine ⟨⟨_, _, by rw [prevI_succ hu]⟩, rfl, fun j hj' => ?_, fun j hj' => ?_⟩
                · rcases Nat.lt_succ_iff_lt_or_eq.mp hj' with hj' | rfl
                  · exact hp j hj'
                  · exact hgi
                · rcases Nat.lt_succ_iff_lt_or_eq.mp hj' with hj' | rfl
                  · exact hm j hj'
                  · exact hj
      · obtain ⟨⟨a, b, rfl⟩, rfl, hp, hm⟩ := hI
        obtain ⟨a0, ha0, _⟩ := hp 0 (by omega)
        repeat' wp_step
        refine ixX (i := 0) hxs ha0 ?_
        repeat' wp_step
        refine q _ ?_
        rw [decide_eq_true_iff]
        constructor
        · intro h
          exact ⟨ds, hx, hl, hp, hm, by rw [ha0, h]⟩
        · intro h
          have := (slOk_at hx h).2.2.2
          rw [ha0] at this
          cases this
          rfl
end K75
set_option Elab.async false
set_option linter.all false
set_option autoImplicit false
set_option maxRecDepth 100000
set_option maxHeartbeats 1000000
namespace K75
open PySem PySem.Spec PyProof.Rows L2 Sl
local macro_rules | `(tactic| wp_step) => `(tactic| first
  | with_reducible refine wS_seq ?_
  | with_reducible refine seqK_nx ?_
  | with_reducible refine seqK_rt ?_
  | with_reducible refine seqK_bk ?_
  | with_reducible refine seqK_ct ?_
  | with_reducible refine fnQ_nx ?_
  | with_reducible refine fnQ_rt ?_
  | with_reducible refine turn_nx ?_
  | with_reducible refine turn_ct ?_
  | with_reducible refine turn_bk ?_
  | with_reducible refine turn_rt ?_
  | with_reducible refine wS_if ?_
  | with_reducible refine wS_set ?_
  | with_reducible refine wS_asg ?_
  | with_reducible refine wS_ret ?_
  | with_reducible refine wS_drop ?_
  | with_reducible refine wS_nx ?_
  | with_reducible refine wS_bk ?_
  | with_reducible refine wS_ct ?_
  | with_reducible refine wS_forS ?_
  | with_reducible refine wS_for1 ?_
  | with_reducible refine wS_setL ?_
  | with_reducible refine wS_dputK ?_
  | with_reducible refine wE_op ?_
  | with_reducible refine wE_c ?_
  | ((with_reducible apply wE_var); rfl)
  | with_reducible refine wE_call ?_
  | with_reducible refine wE_cb ?_
  | with_reducible refine wE_and ?_
  | with_reducible refine wE_or ?_
  | with_reducible refine wE_not ?_
  | with_reducible refine wE_if ?_
  | with_reducible refine wE_isi ?_
  | with_reducible refine wE_chain ?_
  | with_reducible refine wE_neg ?_
  | with_reducible refine wE_lst ?_
  | with_reducible refine wE_tup ?_
  | with_reducible refine wE_frz ?_
  | with_reducible refine wE_append ?_
  | with_reducible refine wE_sl ?_
  | with_reducible refine wE_rev ?_
  | with_reducible refine wE_dnew ?_
  | with_reducible refine wZ_d ?_
  | ((with_reducible apply isO_o); (first | assumption | exact app_get0 | exact app_get1 | exact app_get2 | exact List.getElem?_set_self (by assumption) | exact List.getElem?_set_self (by rw [List.length_set]; assumption) | (rw [List.getElem?_append_right (Nat.le_refl _), Nat.sub_self]; rfl) | exact getA0 (by assumption) | exact getA1 (by assumption)))
  | ((with_reducible apply wApp_o); (first | assumption | exact app_get0 | exact app_get1 | exact app_get2 | exact List.getElem?_set_self (by assumption) | exact List.getElem?_set_self (by rw [List.length_set]; assumption) | (rw [List.getElem?_append_right (Nat.le_refl _), Nat.sub_self]; rfl) | exact getA0 (by assumption) | exact getA1 (by assumption)))
  | ((with_reducible apply wD_o); (first | assumption | exact app_get0 | exact app_get1 | exact app_get2 | exact List.getElem?_set_self (by assumption) | exact List.getElem?_set_self (by rw [List.length_set]; assumption) | (rw [List.getElem?_append_right (Nat.le_refl _), Nat.sub_self]; rfl) | exact getA0 (by assumption) | exact getA1 (by assumption)))
  | ((with_reducible apply wZ_o); (first | assumption | exact app_get0 | exact app_get1 | exact app_get2 | exact List.getElem?_set_self (by assumption) | exact List.getElem?_set_self (by rw [List.length_set]; assumption) | (rw [List.getElem?_append_right (Nat.le_refl _), Nat.sub_self]; rfl) | exact getA0 (by assumption) | exact getA1 (by assumption)); exact allD_map' _)
  | with_reducible refine wE_rep ?_
  | with_reducible refine wE_sortSet ?_
  | with_reducible refine wE_lenSet ?_
  | with_reducible refine wE_comp1 ?_
  | with_reducible refine wE_compS ?_
  | with_reducible refine wP_none ?_
  | with_reducible refine wP_some ?_
  | with_reducible refine wA_nil ?_
  | with_reducible refine wA_cons ?_
  | with_reducible refine wA_app ?_
  | with_reducible refine wB_t ?_
  | with_reducible refine wB_f ?_
  | with_reducible refine wB_nt ?_
  | with_reducible refine wB_nf ?_
  | with_reducible refine wB_dec (fun _ => ?_) (fun _ => ?_)
  | with_reducible refine wB_not (fun _ => ?_) (fun _ => ?_)
  | with_reducible refine wB_nb (fun _ => ?_) (fun _ => ?_)
  | with_reducible refine wB_b (fun _ => ?_) (fun _ => ?_)
  | with_reducible refine wO_sub ?_
  | ((with_reducible apply wO_inS0); rfl)
  | ((with_reducible apply wO_inS1); rfl)
  | ((with_reducible apply wO_inD0); (first | assumption | exact app_get0 | exact app_get1 | exact app_get2 | exact List.getElem?_set_self (by assumption) | exact List.getElem?_set_self (by rw [List.length_set]; assumption) | (rw [List.getElem?_append_right (Nat.le_refl _), Nat.sub_self]; rfl) | exact getA0 (by assumption) | exact getA1 (by assumption)))
  | ((with_reducible apply wO_inD1); (first | assumption | exact app_get0 | exact app_get1 | exact app_get2 | exact List.getElem?_set_self (by assumption) | exact List.getElem?_set_self (by rw [List.length_set]; assumption) | (rw [List.getElem?_append_right (Nat.le_refl _), Nat.sub_self]; rfl) | exact getA0 (by assumption) | exact getA1 (by assumption)))
  | with_reducible refine wO_lt ?_
  | with_reducible refine wO_le ?_
  | with_reducible refine wO_gt ?_
  | with_reducible refine wO_ge ?_
  | with_reducible refine wO_add ?_
  | with_reducible refine wO_eqI ?_
  | with_reducible refine wO_neI ?_
  | with_reducible refine wO_isN ?_
  | with_reducible refine wO_notN ?_
  | with_reducible refine wC_lenL ?_
  | with_reducible refine wC_lenT ?_
  | with_reducible refine wC_int ?_
  | ((with_reducible apply wC_lenD); (first | assumption | exact app_get0 | exact app_get1 | exact app_get2 | exact List.getElem?_set_self (by assumption) | exact List.getElem?_set_self (by rw [List.length_set]; assumption) | (rw [List.getElem?_append_right (Nat.le_refl _), Nat.sub_self]; rfl) | exact getA0 (by assumption) | exact getA1 (by assumption)))
  | with_reducible refine wC_abs ?_
  | with_reducible refine wM_N ?_
  | with_reducible refine wM_Dm ?_
  | with_reducible refine wM_Tm ?_
  | ((with_reducible apply wM_T); rfl)
  | ((with_reducible apply wM_D); rfl)
  | (with_reducible refine Exists.intro _ (And.intro rfl ?_))
  | (with_reducible refine And.intro rfl ?_)
  | ((with_reducible refine And.intro (size_small ?_) ?_); rfl)
  | with_reducible refine wO_pow6 ?_
  | ((with_reducible refine wO_mulR ?_ ?_); decide)
  | ((with_reducible refine wO_mulL ?_ ?_); decide)
  | ((with_reducible refine wO_mod ?_ ?_); omega)
  | ((with_reducible refine wO_div ?_ ?_ ?_); omega; omega)
  | ((with_reducible apply wU_o); (first | assumption | exact app_get0 | exact app_get1 | exact app_get2 | exact List.getElem?_set_self (by assumption) | exact List.getElem?_set_self (by rw [List.length_set]; assumption) | (rw [List.getElem?_append_right (Nat.le_refl _), Nat.sub_self]; rfl) | exact getA0 (by assumption) | exact getA1 (by assumption)); rfl)
  | ((with_reducible apply wO_ixZ); (apply asSeq_o; (first | assumption | exact app_get0 | exact app_get1 | exact app_get2 | exact List.getElem?_set_self (by assumption) | exact List.getElem?_set_self (by rw [List.length_set]; assumption) | (rw [List.getElem?_append_right (Nat.le_refl _), Nat.sub_self]; rfl) | exact getA0 (by assumption) | exact getA1 (by assumption))); rfl))
/-! ### tables compared -/
theorem eqv_row : ∀ a b : List Int, PyData.eqvAll (a.map .int) (b.map .int) = decide (a = b)
  | [], [] => by simp [PyData.eqvAll]
  | [], _ :: _ => by simp [PyData.eqvAll]
  | _ :: _, [] => by simp [PyData.eqvAll]
  | x :: a, y :: b => by
    simp only [List.map_cons, PyData.eqvAll, PyData.eqv, eqv_row a b]
    by_cases h : x = y <;> by_cases h2 : a = b <;> simp [h, h2]
theorem eqv_tab : ∀ A B : List (List Int), PyData.eqvAll (A.map rowL) (B.map rowL) = decide (A = B)
  | [], [] => by simp [PyData.eqvAll]
  | [], _ :: _ => by simp [PyData.eqvAll]
  | _ :: _, [] => by simp [PyData.eqvAll]
  | x :: a, y :: b => by
    have e : PyData.eqv (rowL x) (rowL y) = decide (x = y) := by
      unfold rowL
      simp only [PyData.eqv]
      exact eqv_row x y
    have e2 : PyData.eqvAll ((x :: a).map rowL) ((y :: b).map rowL) = (PyData.eqv (rowL x) (rowL y) && PyData.eqvAll (a.map rowL) (b.map rowL)) := by
      simp only [List.map_cons, PyData.eqvAll]
    rw [e2, e, eqv_tab a b]
    by_cases h : x = y <;> by_cases h2 : a = b <;> simp [h, h2]
theorem lay_row : ∀ a : List Int, PyData.canLayAll0 (a.map .int) = true
  | [] => by simp [PyData.canLayAll0]
  | x :: a => by
    simp only [List.map_cons, PyData.canLayAll0, PyData.canLay0, lay_row a]
    rfl
theorem lay_tab : ∀ A : List (List Int), PyData.canLayAll0 (A.map rowL) = true
  | [] => by simp [PyData.canLayAll0]
  | x :: a => by
    simp only [List.map_cons, PyData.canLayAll0, lay_tab a, rowL, PyData.canLay0, lay_row x]
    rfl
theorem dep_row : ∀ a : List Int, PyData.depthAll (a.map .int) = 0
  | [] => by simp [PyData.depthAll]
  | x :: a => by simp [PyData.depthAll, PyData.depth, dep_row a]
theorem dep_tab : ∀ A : List (List Int), PyData.depthAll (A.map rowL) ≤ 1
  | [] => by simp [PyData.depthAll]
  | x :: a => by
    have := dep_tab a
    simp only [List.map_cons, PyData.depthAll]
    have e : PyData.depth (rowL x) = 1 := by simp [rowL, PyData.depth, dep_row x]
    rw [e]
    omega
theorem shaped_tab (A : List (List Int)) : SeqAt.shaped (tbL A) = true := by
  have h1 : (tbL A).canLay0 = true := by
    unfold tbL
    simp only [PyData.canLay0]
    exact lay_tab A
  have h2 : (tbL A).depth ≤ 64 := by
    unfold tbL
    simp only [PyData.depth]
    have := dep_tab A
    omega
  unfold SeqAt.shaped
  rw [h1, decide_eq_true h2]
  rfl
theorem wO_eqTab {st : Sto} {x y : VL} {A B : List (List Int)} (hx : asD st x = some (tbL A)) (hy : asD st y = some (tbL B)) {Q : VL → Sto → Prop} (q : Q (.d (.bool (decide (A = B)))) st) : wO oEq st x y Q := by
  refine ⟨_, _, ?_, q⟩
  unfold oEq oEqC
  rw [hx, hy]
  dsimp only
  rw [shaped_tab, shaped_tab]
  have e : PyData.eqv (tbL A) (tbL B) = decide (A = B) := by
    unfold tbL
    simp only [PyData.eqv]
    exact eqv_tab A B
  rw [e]
  simp
/-! ### what a task needs, directly or not -/
inductive Reach (T : List (List Int)) : Int → Int → Prop
  | one {x j : Int} : j ∈ at_ T x → Reach T x j
  | more {x k j : Int} : k ∈ at_ T x → Reach T k j → Reach T x j
theorem reach_rng {T : List (List Int)} (hT : Tab T) {x j : Int} (h : Reach T x j) : 0 ≤ j ∧ j < T.length := by
  induction h with
  | one h => exact at_in hT h
  | more _ _ ih => exact ih
theorem at_far {N : List (List Int)} {x : Int} (h : N.length ≤ x.toNat) : at_ N x = [] := by
  unfold at_
  rw [List.getElem?_eq_none_iff.mpr h]
  rfl
theorem clo_reach {T N : List (List Int)} (hT : Tab T) (hN : Clo T N (List.range T.length)) {x : Int} (h0 : 0 ≤ x) (h1 : x < T.length) (j : Int) : j ∈ at_ N x ↔ Reach T x j := by
  obtain ⟨rk, _, hrk⟩ := hT.acy
  have hmem : ∀ t : Int, 0 ≤ t → t < T.length → ∀ j, j ∈ at_ N t ↔ j ∈ at_ T t ∨ ∃ k ∈ at_ T t, j ∈ at_ N k := fun t h0 h1 => by
    have e : ((t.toNat : Nat) : Int) = t := Int.toNat_of_nonneg h0
    have := hN.mem t.toNat (List.mem_range.mpr (by omega))
    rwa [e] at this
  constructor
  · have key : ∀ m, ∀ x : Int, rk x ≤ m → 0 ≤ x → x < T.length → ∀ j, j ∈ at_ N x → Reach T x j := by
      intro m
      induction m with
      | zero =>
        intro x hm h0 h1 j hj
        rcases (hmem x h0 h1 j).mp hj with hj | ⟨k, hk, _⟩
        · exact .one hj
        · exact absurd (hrk x k hk) (by omega)
      | succ m ih =>
        intro x hm h0 h1 j hj
        rcases (hmem x h0 h1 j).mp hj with hj | ⟨k, hk, hj⟩
        · exact .one hj
        · have hkr := at_in hT hk
          exact .more hk (ih k (by have := hrk x k hk; omega) hkr.1 hkr.2 j hj)
    exact key _ x (Nat.le_refl _) h0 h1 j
  · intro h
    induction h with
    | one h => exact (hmem _ h0 h1 _).mpr (.inl h)
    | more hk _ ih =>
      have hkr := at_in hT hk
      exact (hmem _ h0 h1 _).mpr (.inr ⟨_, hk, ih hkr.1 hkr.2⟩)
theorem clo_uniq {T N M : List (List Int)} (hT : Tab T) (hN : Clo T N (List.range T.length)) (hM : Clo T M (List.range T.length)) : N = M := by
  refine List.ext_getElem (hN.len.trans hM.len.symm) fun i h1 h2 => ?_
  have hi : i < T.length := by rw [← hN.len]; exact h1
  have e1 := at_nat h1
  have e2 := at_nat h2
  rw [List.getElem?_eq_getElem h1] at e1
  rw [List.getElem?_eq_getElem h2] at e2
  rw [Option.some.inj e1, Option.some.inj e2]
  refine rise_ext (hN.rise i (List.mem_range.mpr hi)) (hM.rise i (List.mem_range.mpr hi)) fun k => ?_
  rw [clo_reach hT hN (Int.natCast_nonneg i) (by omega), clo_reach hT hM (Int.natCast_nonneg i) (by omega)]
/-! ### the law's needs -/
structure InvN (T : List (List Int)) (rk : Int → Nat) (k : Nat) (N : List (List Int)) : Prop where
  len : N.length = T.length
  rise : ∀ r ∈ N, r.Pairwise (· < ·)
  rng : ∀ r ∈ N, ∀ j ∈ r, 0 ≤ j ∧ j < T.length
  up : ∀ x : Int, ∀ j ∈ at_ T x, j ∈ at_ N x
  dn : ∀ x : Int, ∀ j ∈ at_ N x, Reach T x j
  all : ∀ x : Int, rk x ≤ k → ∀ j, Reach T x j → j ∈ at_ N x
def moreOf (N : List (List Int)) (row : List Int) : List Int := row ++ (row.map (at_ N)).flatten
def gr (N : List (List Int)) : List (List Int) := N.map fun row => sortU (moreOf N row)
theorem mem_more {N : List (List Int)} {row : List Int} {j : Int} : j ∈ moreOf N row ↔ j ∈ row ∨ ∃ o ∈ row, j ∈ at_ N o := by
  unfold moreOf
  rw [List.mem_append, List.mem_flatten]
  constructor
  · rintro (h | ⟨l, hl, h⟩)
    · exact .inl h
    · obtain ⟨o, ho, rfl⟩ := List.mem_map.mp hl
      exact .inr ⟨o, ho, h⟩
  · rintro (h | ⟨o, ho, h⟩)
    · exact .inl h
    · exact .inr ⟨_, List.mem_map.mpr ⟨o, ho, rfl⟩, h⟩
theorem at_gr {N : List (List Int)} {x : Int} : ∀ j, j ∈ at_ (gr N) x ↔ j ∈ at_ N x ∨ ∃ o ∈ at_ N x, j ∈ at_ N o := by
  intro j
  unfold gr
  show j ∈ ((N.map fun row => sortU (moreOf N row))[x.toNat]?).getD [] ↔ _
  rw [List.getElem?_map]
  cases e : N[x.toNat]? with
  | none =>
    have e2 : at_ N x = [] := by
      unfold at_
      rw [e]
      rfl
    rw [e2]
    simp
  | some r =>
    have e2 : at_ N x = r := by
      unfold at_
      rw [e]
      rfl
    rw [e2]
    show j ∈ sortU (moreOf N r) ↔ _
    rw [mem_sortU, mem_more]
theorem reach_trans {T : List (List Int)} {x k j : Int} (h : Reach T x k) (h2 : Reach T k j) : Reach T x j := by
  induction h with
  | one h => exact .more h h2
  | more h _ ih => exact .more h (ih h2)
theorem invN_start {T : List (List Int)} (hT : Tab T) {rk : Int → Nat} (hrk : ∀ x y, y ∈ at_ T x → rk y < rk x) : InvN T rk 0 T where
  len := rfl
  rise := hT.rise
  rng := hT.rng
  up := fun _ _ h => h
  dn := fun _ _ h => .one h
  all := fun x hx j h => by
    cases h with
    | one h => exact h
    | more h _ => exact absurd (hrk _ _ h) (by omega)
theorem invN_step {T N : List (List Int)} (hT : Tab T) {rk : Int → Nat} (hrk : ∀ x y, y ∈ at_ T x → rk y < rk x) {k : Nat} (h : InvN T rk k N) : InvN T rk (k + 1) (gr N) where
  len := by
    unfold gr
    rw [List.length_map]
    exact h.len
  rise := fun r hr => by
    obtain ⟨s, _, rfl⟩ := List.mem_map.mp hr
    exact rise_sortU _
  rng := fun r hr j hj => by
    obtain ⟨s, hs, rfl⟩ := List.mem_map.mp hr
    rw [mem_sortU, mem_more] at hj
    rcases hj with hj | ⟨o, ho, hj⟩
    · exact h.rng s hs j hj
    · exact h.rng _ (at_mem hj) j hj
  up := fun x j hj => (at_gr j).mpr (.inl (h.up x j hj))
  dn := fun x j hj => by
    rcases (at_gr j).mp hj with hj | ⟨o, ho, hj⟩
    · exact h.dn x j hj
    · exact reach_trans (h.dn x o ho) (h.dn o j hj)
  all := fun x hx j hj => by
    refine (at_gr j).mpr ?_
    cases hj with
    | one hj => exact .inl (h.up x j hj)
    | more hk hj =>
      rename_i k'
      exact .inr ⟨k', h.up x k' hk, h.all k' (by have := hrk x k' hk; omega) j hj⟩
theorem invN_full {T N : List (List Int)} (hT : Tab T) {rk : Int → Nat} {k : Nat} (h : InvN T rk k N) (hc : ∀ x j, Reach T x j → j ∈ at_ N x) : Clo T N (List.range T.length) where
  len := h.len
  rise := fun x hx => h.rise _ (at_memT (by rw [h.len]; exact List.mem_range.mp hx))
  rng := fun x hx => h.rng _ (at_memT (by rw [h.len]; exact List.mem_range.mp hx))
  mem := fun x hx j => by
    constructor
    · intro hj
      cases h.dn x j hj with
      | one hj => exact .inl hj
      | more hk hj => exact .inr ⟨_, hk, hc _ _ hj⟩
    · rintro (hj | ⟨k, hk, hj⟩)
      · exact h.up x j hj
      · exact hc _ _ (.more hk (h.dn k j hj))
theorem invN_same {T N : List (List Int)} {rk : Int → Nat} {k : Nat} (h : InvN T rk k N) (e : gr N = N) : ∀ x j, Reach T x j → j ∈ at_ N x := by
  intro x j hj
  induction hj with
  | one hj => exact h.up _ _ hj
  | more hk _ ih =>
    rw [← e]
    exact (at_gr _).mpr (.inr ⟨_, h.up _ _ hk, ih⟩)
end K75
set_option Elab.async false
set_option linter.all false
set_option autoImplicit false
set_option maxRecDepth 100000
set_option maxHeartbeats 1000000
namespace K75
open PySem PySem.Spec PyProof.Rows L2 Sl
local macro_rules | `(tactic| wp_step) => `(tactic| first
  | with_reducible refine wS_seq ?_
  | with_reducible refine seqK_nx ?_
  | with_reducible refine seqK_rt ?_
  | with_reducible refine seqK_bk ?_
  | with_reducible refine seqK_ct ?_
  | with_reducible refine fnQ_nx ?_
  | with_reducible refine fnQ_rt ?_
  | with_reducible refine turn_nx ?_
  | with_reducible refine turn_ct ?_
  | with_reducible refine turn_bk ?_
  | with_reducible refine turn_rt ?_
  | with_reducible refine wS_if ?_
  | with_reducible refine wS_set ?_
  | with_reducible refine wS_asg ?_
  | with_reducible refine wS_ret ?_
  | with_reducible refine wS_drop ?_
  | with_reducible refine wS_nx ?_
  | with_reducible refine wS_bk ?_
  | with_reducible refine wS_ct ?_
  | with_reducible refine wS_forS ?_
  | with_reducible refine wS_for1 ?_
  | with_reducible refine wS_setL ?_
  | with_reducible refine wS_dputK ?_
  | with_reducible refine wE_op ?_
  | with_reducible refine wE_c ?_
  | ((with_reducible apply wE_var); rfl)
  | with_reducible refine wE_call ?_
  | with_reducible refine wE_cb ?_
  | with_reducible refine wE_and ?_
  | with_reducible refine wE_or ?_
  | with_reducible refine wE_not ?_
  | with_reducible refine wE_if ?_
  | with_reducible refine wE_isi ?_
  | with_reducible refine wE_chain ?_
  | with_reducible refine wE_neg ?_
  | with_reducible refine wE_lst ?_
  | with_reducible refine wE_tup ?_
  | with_reducible refine wE_frz ?_
  | with_reducible refine wE_append ?_
  | with_reducible refine wE_sl ?_
  | with_reducible refine wE_rev ?_
  | with_reducible refine wE_dnew ?_
  | with_reducible refine wZ_d ?_
  | ((with_reducible apply isO_o); (first | assumption | exact app_get0 | exact app_get1 | exact app_get2 | exact List.getElem?_set_self (by assumption) | exact List.getElem?_set_self (by rw [List.length_set]; assumption) | (rw [List.getElem?_append_right (Nat.le_refl _), Nat.sub_self]; rfl) | exact getA0 (by assumption) | exact getA1 (by assumption)))
  | ((with_reducible apply wApp_o); (first | assumption | exact app_get0 | exact app_get1 | exact app_get2 | exact List.getElem?_set_self (by assumption) | exact List.getElem?_set_self (by rw [List.length_set]; assumption) | (rw [List.getElem?_append_right (Nat.le_refl _), Nat.sub_self]; rfl) | exact getA0 (by assumption) | exact getA1 (by assumption)))
  | ((with_reducible apply wD_o); (first | assumption | exact app_get0 | exact app_get1 | exact app_get2 | exact List.getElem?_set_self (by assumption) | exact List.getElem?_set_self (by rw [List.length_set]; assumption) | (rw [List.getElem?_append_right (Nat.le_refl _), Nat.sub_self]; rfl) | exact getA0 (by assumption) | exact getA1 (by assumption)))
  | ((with_reducible apply wZ_o); (first | assumption | exact app_get0 | exact app_get1 | exact app_get2 | exact List.getElem?_set_self (by assumption) | exact List.getElem?_set_self (by rw [List.length_set]; assumption) | (rw [List.getElem?_append_right (Nat.le_refl _), Nat.sub_self]; rfl) | exact getA0 (by assumption) | exact getA1 (by assumption)); exact allD_map' _)
  | with_reducible refine wE_rep ?_
  | with_reducible refine wE_sortSet ?_
  | with_reducible refine wE_lenSet ?_
  | with_reducible refine wE_comp1 ?_
  | with_reducible refine wE_compS ?_
  | with_reducible refine wP_none ?_
  | with_reducible refine wP_some ?_
  | with_reducible refine wA_nil ?_
  | with_reducible refine wA_cons ?_
  | with_reducible refine wA_app ?_
  | with_reducible refine wB_t ?_
  | with_reducible refine wB_f ?_
  | with_reducible refine wB_nt ?_
  | with_reducible refine wB_nf ?_
  | with_reducible refine wB_dec (fun _ => ?_) (fun _ => ?_)
  | with_reducible refine wB_not (fun _ => ?_) (fun _ => ?_)
  | with_reducible refine wB_nb (fun _ => ?_) (fun _ => ?_)
  | with_reducible refine wB_b (fun _ => ?_) (fun _ => ?_)
  | with_reducible refine wO_sub ?_
  | ((with_reducible apply wO_inS0); rfl)
  | ((with_reducible apply wO_inS1); rfl)
  | ((with_reducible apply wO_inD0); (first | assumption | exact app_get0 | exact app_get1 | exact app_get2 | exact List.getElem?_set_self (by assumption) | exact List.getElem?_set_self (by rw [List.length_set]; assumption) | (rw [List.getElem?_append_right (Nat.le_refl _), Nat.sub_self]; rfl) | exact getA0 (by assumption) | exact getA1 (by assumption)))
  | ((with_reducible apply wO_inD1); (first | assumption | exact app_get0 | exact app_get1 | exact app_get2 | exact List.getElem?_set_self (by assumption) | exact List.getElem?_set_self (by rw [List.length_set]; assumption) | (rw [List.getElem?_append_right (Nat.le_refl _), Nat.sub_self]; rfl) | exact getA0 (by assumption) | exact getA1 (by assumption)))
  | with_reducible refine wO_lt ?_
  | with_reducible refine wO_le ?_
  | with_reducible refine wO_gt ?_
  | with_reducible refine wO_ge ?_
  | with_reducible refine wO_add ?_
  | with_reducible refine wO_eqI ?_
  | with_reducible refine wO_neI ?_
  | with_reducible refine wO_isN ?_
  | with_reducible refine wO_notN ?_
  | with_reducible refine wC_lenL ?_
  | with_reducible refine wC_lenT ?_
  | with_reducible refine wC_int ?_
  | ((with_reducible apply wC_lenD); (first | assumption | exact app_get0 | exact app_get1 | exact app_get2 | exact List.getElem?_set_self (by assumption) | exact List.getElem?_set_self (by rw [List.length_set]; assumption) | (rw [List.getElem?_append_right (Nat.le_refl _), Nat.sub_self]; rfl) | exact getA0 (by assumption) | exact getA1 (by assumption)))
  | with_reducible refine wC_abs ?_
  | with_reducible refine wM_N ?_
  | with_reducible refine wM_Dm ?_
  | with_reducible refine wM_Tm ?_
  | ((with_reducible apply wM_T); rfl)
  | ((with_reducible apply wM_D); rfl)
  | (with_reducible refine Exists.intro _ (And.intro rfl ?_))
  | (with_reducible refine And.intro rfl ?_)
  | ((with_reducible refine And.intro (size_small ?_) ?_); rfl)
  | with_reducible refine wO_pow6 ?_
  | ((with_reducible refine wO_mulR ?_ ?_); decide)
  | ((with_reducible refine wO_mulL ?_ ?_); decide)
  | ((with_reducible refine wO_mod ?_ ?_); omega)
  | ((with_reducible refine wO_div ?_ ?_ ?_); omega; omega)
  | ((with_reducible apply wU_o); (first | assumption | exact app_get0 | exact app_get1 | exact app_get2 | exact List.getElem?_set_self (by assumption) | exact List.getElem?_set_self (by rw [List.length_set]; assumption) | (rw [List.getElem?_append_right (Nat.le_refl _), Nat.sub_self]; rfl) | exact getA0 (by assumption) | exact getA1 (by assumption)); rfl)
  | ((with_reducible apply wO_ixZ); (apply asSeq_o; (first | assumption | exact app_get0 | exact app_get1 | exact app_get2 | exact List.getElem?_set_self (by assumption) | exact List.getElem?_set_self (by rw [List.length_set]; assumption) | (rw [List.getElem?_append_right (Nat.le_refl _), Nat.sub_self]; rfl) | exact getA0 (by assumption) | exact getA1 (by assumption))); rfl))
theorem asD_o {st : Sto} {n : Nat} {xs : List VL} (h : st[n]? = some (.lst xs)) : asD st (.o n) = (allD xs).map .list := by simp only [asD, h]
theorem walk_rows {T : List (List Int)} {g : Tg} {body : SS} {env : Sl.Env} {st : Sto} {R : Fl → Prop} (w : wL g body (T.map fun r => VL.d (rowL r)) env st R) :
    ∃ ds, (VL.d (tbL T) = VL.d (.list ds) ∨ VL.d (tbL T) = VL.d (.tuple ds)) ∧ wL g body (ds.map .d) env st R :=
  ⟨T.map rowL, .inl rfl, by rw [map_map']; exact w⟩
theorem comp_rows {T : List (List Int)} {g : Tg} {t e : SE} {env : Sl.Env} {st : Sto} {mk : Mk} {Q : VL → Sto → Prop} (w : ∃ ys st2, compL g t e env (T.map fun r => VL.d (rowL r)) [] st = some (ys, st2) ∧ wM mk ys st2 Q) :
    ∃ ds, (VL.d (tbL T) = VL.d (.list ds) ∨ VL.d (tbL T) = VL.d (.tuple ds)) ∧ ∃ ys st2, compL g t e env (ds.map .d) [] st = some (ys, st2) ∧ wM mk ys st2 Q :=
  ⟨T.map rowL, .inl rfl, by rw [map_map']; exact w⟩
theorem filt_true {α : Type} (l : List α) : l.filter (fun _ => true) = l := by simp
theorem flat_take {N : List (List Int)} {row : List Int} {m : Nat} {o : Int} (h : row[m]? = some o) : ((row.take (m + 1)).map (at_ N)).flatten = ((row.take m).map (at_ N)).flatten ++ at_ N o := by
  rw [List.take_add_one, h]
  simp
theorem flat_len {N : List (List Int)} (hN : ∀ x : Int, (at_ N x).length ≤ 10) : ∀ row : List Int, ((row.map (at_ N)).flatten).length ≤ 10 * row.length
  | [] => Nat.le_refl 0
  | x :: row => by
    have := flat_len hN row
    have := hN x
    rw [List.map_cons, List.flatten_cons, List.length_append, List.length_cons]
    omega
theorem row10 {T N : List (List Int)} (hT : Tab T) {rk : Int → Nat} {k : Nat} (h : InvN T rk k N) : (∀ r ∈ N, r.length ≤ 10) ∧ ∀ x : Int, (at_ N x).length ≤ 10 := by
  have h1 : ∀ r ∈ N, r.length ≤ 10 := fun r hr => Nat.le_trans (rise_len (h.rise r hr) (h.rng r hr)) hT.len
  refine ⟨h1, fun x => ?_⟩
  unfold at_
  cases e : N[x.toNat]? with
  | none => exact Nat.zero_le _
  | some r => exact h1 r (List.mem_of_getElem? e)
theorem l_needed_wp {T : List (List Int)} (hT : Tab T) {st : Sto} {Q : VL → Sto → Prop} (q : ∀ N, Clo T N (List.range T.length) → Q (.d (tbL N)) st) : wF m__law_needed [.d (tbL T)] st Q := by
  have hlen := hT.len
  have h62 : T.length < 2 ^ 62 := Nat.lt_of_le_of_lt hT.len (by decide)
  obtain ⟨rk, hrn, hrk⟩ := hT.acy
  refine wF_cut (wF_run ?_)
  unfold c__law_needed
  repeat' wp_step
  refine comp_rows ⟨_, _, comp_pure (v := fun r => VL.d (rowL r)) (fun _ => true) (fun r => VL.d (rowL r)) (size_le (by omega)) (fun r hr => ?_), ?_⟩
  · refine ⟨_, rfl, ?_, fun _ => ?_⟩
    · repeat' wp_step
      exact rfl
    · unfold c__law_needed_E3
      repeat' wp_step
      refine wC_list (k := false) (xs := (r.map PyData.int).map .d) (by rfl) ?_
      repeat' wp_step
      exact rfl
  · rw [filt_true, ← map_map']
    repeat' wp_step
    refine lenT ?_
    repeat' wp_step
    refine ⟨h62, wL_rg (fun k env st' => (∃ N a b c d e, env = [some (.d (tbL T)), some (.d (tbL N)), a, b, c, d, e] ∧ InvN T rk k N) ∧ st = st') ⟨⟨T, _, _, _, _, _, rfl, invN_start hT hrk⟩, rfl⟩ (fun k env st' hk hI => ?_) (fun env st' hI => ?_)⟩
    · obtain ⟨⟨N, a, b, c, d, e, rfl, hN⟩, rfl⟩ := hI
      obtain ⟨h10, h10a⟩ := row10 hT hN
      refine ⟨_, rfl, wS_cut ?_⟩
      unfold c__law_needed_B2
      repeat' wp_step
      refine walk_rows (wL_ix (v := fun r => VL.d (rowL r)) (fun i env st' => (∃ k c d e, env = [some (.d (tbL T)), some (.d (tbL N)), k, some (.o st.length), c, d, e]) ∧ st' = st ++ [.lst ((((gr N).take i).map rowL).map .d)])
        ⟨⟨_, _, _, _, rfl⟩, by simp⟩ (fun i row env st' hrow hI => ?_) (fun env st' hI => ?_))
      · obtain ⟨⟨k', c, d, e, rfl⟩, rfl⟩ := hI
        have hrm := List.mem_of_getElem? hrow
        have hil := (List.getElem?_eq_some_iff.mp hrow).1
        have hNl := hN.len
        refine ⟨_, rfl, ?_⟩
        unfold c__law_needed_B1
        repeat' wp_step
        refine wC_list (k := false) (xs := (row.map PyData.int).map .d) (by rfl) ?_
        repeat' wp_step
        refine walk_ints (r := row) rfl (wL_ix (v := fun t => VL.d (.int t)) (fun m env st' => (∃ e, env = [some (.d (tbL T)), some (.d (tbL N)), k', some (.o st.length), some (.d (rowL row)), some (.d (rowL (row ++ ((row.take m).map (at_ N)).flatten))), e]) ∧ st' = st ++ [.lst ((((gr N).take i).map rowL).map .d)])
          ⟨⟨e, by simp [rowL]⟩, rfl⟩ (fun m o env st' ho hI => ?_) (fun env st' hI => ?_))
        · obtain ⟨⟨e1, rfl⟩, rfl⟩ := hI
          have hor := hN.rng row hrm o (List.mem_of_getElem? ho)
          refine ⟨_, rfl, ?_⟩
          unfold c__law_needed_B0
          repeat' wp_step
          refine ix_tbZ hor.1 (by omega) ?_
          have hl1 := flat_len h10a (row.take m)
          have hl2 := h10 row hrm
          have hl3 := h10a o
          rw [List.length_take] at hl1
          refine wO_addD (size_le (by rw [List.length_map, List.length_map, List.length_append]; omega)) ?_
          rw [← List.map_append]
          repeat' wp_step
          exact ⟨⟨_, by rw [flat_take ho, ← List.append_assoc]; rfl⟩, rfl⟩
        · obtain ⟨⟨e1, rfl⟩, rfl⟩ := hI
          rw [List.take_length]
          have hl1 := flat_len h10a row
          have hl2 := h10 row hrm
          have hl3 : (sortU (moreOf N row)).length ≤ 10 := by
            refine Nat.le_trans (rise_len (rise_sortU _) fun j hj => ?_) hlen
            rw [mem_sortU, mem_more] at hj
            rcases hj with hj | ⟨o, ho, hj⟩
            · exact hN.rng row hrm j hj
            · exact hN.rng _ (at_mem hj) j hj
          repeat' wp_step
          refine ⟨⟨by rw [List.length_append]; omega, (show (sortU (moreOf N row)).length < 64 by omega)⟩, ?_⟩
          repeat' wp_step
          · refine size_lt ?_
            rw [List.length_map, List.length_map, List.length_take]
            omega
          · rw [app_set0]
            refine ⟨⟨_, _, _, _, rfl⟩, ?_⟩
            have e2 : (gr N)[i]? = some (sortU (moreOf N row)) := by
              unfold gr
              rw [List.getElem?_map, hrow]
              rfl
            rw [List.take_add_one, e2, List.map_append, List.map_append]
            rfl
      · obtain ⟨⟨k', c, d, e, rfl⟩, rfl⟩ := hI
        have e2 : (gr N).take N.length = gr N := by
          rw [List.take_of_length_le]
          unfold gr
          rw [List.length_map]
          exact Nat.le_refl _
        rw [e2]
        repeat' wp_step
        refine wO_eqTab (A := gr N) (B := N) ?_ rfl ?_
        · rw [asD_o app_get0, allD_map']
          rfl
        · repeat' wp_step
          · rename_i he
            refine ⟨cutOk_app _ _, ?_⟩
            rw [take_app]
            repeat' wp_step
            refine ⟨cutOk_same (List.take_length), ?_⟩
            rw [List.take_length]
            exact q N (invN_full hT hN (invN_same hN he))
          · rw [app_set0]
            refine ⟨cutOk_app _ _, ?_⟩
            rw [take_app]
            exact ⟨⟨gr N, _, _, _, _, _, rfl, invN_step hT hrk hN⟩, rfl⟩
    · obtain ⟨⟨N, a, b, c, d, e, rfl, hN⟩, rfl⟩ := hI
      repeat' wp_step
      refine ⟨cutOk_same (List.take_length), ?_⟩
      rw [List.take_length]
      exact q N (invN_full hT hN fun x j h => hN.all x (hrn x) j h)
end K75
set_option Elab.async false
set_option linter.all false
set_option autoImplicit false
set_option maxRecDepth 100000
set_option maxHeartbeats 1000000
namespace K75
open PySem PySem.Spec PyProof.Rows L2 Sl
local macro_rules | `(tactic| wp_step) => `(tactic| first
  | with_reducible refine wS_seq ?_
  | with_reducible refine seqK_nx ?_
  | with_reducible refine seqK_rt ?_
  | with_reducible refine seqK_bk ?_
  | with_reducible refine seqK_ct ?_
  | with_reducible refine fnQ_nx ?_
  | with_reducible refine fnQ_rt ?_
  | with_reducible refine turn_nx ?_
  | with_reducible refine turn_ct ?_
  | with_reducible refine turn_bk ?_
  | with_reducible refine turn_rt ?_
  | with_reducible refine wS_if ?_
  | with_reducible refine wS_set ?_
  | with_reducible refine wS_asg ?_
  | with_reducible refine wS_ret ?_
  | with_reducible refine wS_drop ?_
  | with_reducible refine wS_nx ?_
  | with_reducible refine wS_bk ?_
  | with_reducible refine wS_ct ?_
  | with_reducible refine wS_forS ?_
  | with_reducible refine wS_for1 ?_
  | with_reducible refine wS_setL ?_
  | with_reducible refine wS_dputK ?_
  | with_reducible refine wE_op ?_
  | with_reducible refine wE_c ?_
  | ((with_reducible apply wE_var); rfl)
  | with_reducible refine wE_call ?_
  | with_reducible refine wE_cb ?_
  | with_reducible refine wE_and ?_
  | with_reducible refine wE_or ?_
  | with_reducible refine wE_not ?_
  | with_reducible refine wE_if ?_
  | with_reducible refine wE_isi ?_
  | with_reducible refine wE_chain ?_
  | with_reducible refine wE_neg ?_
  | with_reducible refine wE_lst ?_
  | with_reducible refine wE_tup ?_
  | with_reducible refine wE_frz ?_
  | with_reducible refine wE_append ?_
  | with_reducible refine wE_sl ?_
  | with_reducible refine wE_rev ?_
  | with_reducible refine wE_dnew ?_
  | with_reducible refine wZ_d ?_
  | ((with_reducible apply isO_o); (first | assumption | exact app_get0 | exact app_get1 | exact app_get2 | exact List.getElem?_set_self (by assumption) | exact List.getElem?_set_self (by rw [List.length_set]; assumption) | (rw [List.getElem?_append_right (Nat.le_refl _), Nat.sub_self]; rfl)))
  | ((with_reducible apply wApp_o); (first | assumption | exact app_get0 | exact app_get1 | exact app_get2 | exact List.getElem?_set_self (by assumption) | exact List.getElem?_set_self (by rw [List.length_set]; assumption) | (rw [List.getElem?_append_right (Nat.le_refl _), Nat.sub_self]; rfl)))
  | ((with_reducible apply wD_o); (first | assumption | exact app_get0 | exact app_get1 | exact app_get2 | exact List.getElem?_set_self (by assumption) | exact List.getElem?_set_self (by rw [List.length_set]; assumption) | (rw [List.getElem?_append_right (Nat.le_refl _), Nat.sub_self]; rfl)))
  | ((with_reducible apply wZ_o); (first | assumption | exact app_get0 | exact app_get1 | exact app_get2 | exact List.getElem?_set_self (by assumption) | exact List.getElem?_set_self (by rw [List.length_set]; assumption) | (rw [List.getElem?_append_right (Nat.le_refl _), Nat.sub_self]; rfl)); exact allD_map' _)
  | with_reducible refine wE_rep ?_
  | with_reducible refine wE_sortSet ?_
  | with_reducible refine wE_lenSet ?_
  | with_reducible refine wE_comp1 ?_
  | with_reducible refine wE_compS ?_
  | with_reducible refine wP_none ?_
  | with_reducible refine wP_some ?_
  | with_reducible refine wA_nil ?_
  | with_reducible refine wA_cons ?_
  | with_reducible refine wA_app ?_
  | with_reducible refine wB_t ?_
  | with_reducible refine wB_f ?_
  | with_reducible refine wB_nt ?_
  | with_reducible refine wB_nf ?_
  | with_reducible refine wB_dec (fun _ => ?_) (fun _ => ?_)
  | with_reducible refine wB_not (fun _ => ?_) (fun _ => ?_)
  | with_reducible refine wB_nb (fun _ => ?_) (fun _ => ?_)
  | with_reducible refine wB_b (fun _ => ?_) (fun _ => ?_)
  | with_reducible refine wO_sub ?_
  | ((with_reducible apply wO_inS0); rfl)
  | ((with_reducible apply wO_inS1); rfl)
  | ((with_reducible apply wO_inD0); (first | assumption | exact app_get0 | exact app_get1 | exact app_get2 | exact List.getElem?_set_self (by assumption) | exact List.getElem?_set_self (by rw [List.length_set]; assumption) | (rw [List.getElem?_append_right (Nat.le_refl _), Nat.sub_self]; rfl)))
  | ((with_reducible apply wO_inD1); (first | assumption | exact app_get0 | exact app_get1 | exact app_get2 | exact List.getElem?_set_self (by assumption) | exact List.getElem?_set_self (by rw [List.length_set]; assumption) | (rw [List.getElem?_append_right (Nat.le_refl _), Nat.sub_self]; rfl)))
  | with_reducible refine wO_lt ?_
  | with_reducible refine wO_le ?_
  | with_reducible refine wO_gt ?_
  | with_reducible refine wO_ge ?_
  | with_reducible refine wO_add ?_
  | with_reducible refine wO_eqI ?_
  | with_reducible refine wO_neI ?_
  | with_reducible refine wO_isN ?_
  | with_reducible refine wO_notN ?_
  | with_reducible refine wC_lenL ?_
  | with_reducible refine wC_lenT ?_
  | with_reducible refine wC_int ?_
  | ((with_reducible apply wC_lenD); (first | assumption | exact app_get0 | exact app_get1 | exact app_get2 | exact List.getElem?_set_self (by assumption) | exact List.getElem?_set_self (by rw [List.length_set]; assumption) | (rw [List.getElem?_append_right (Nat.le_refl _), Nat.sub_self]; rfl)))
  | with_reducible refine wC_abs ?_
  | with_reducible refine wM_N ?_
  | with_reducible refine wM_Dm ?_
  | with_reducible refine wM_Tm ?_
  | ((with_reducible apply wM_T); rfl)
  | ((with_reducible apply wM_D); rfl)
  | (with_reducible refine Exists.intro _ (And.intro rfl ?_))
  | (with_reducible refine And.intro rfl ?_)
  | ((with_reducible refine And.intro (size_small ?_) ?_); rfl)
  | with_reducible refine wO_pow6 ?_
  | ((with_reducible refine wO_mulR ?_ ?_); decide)
  | ((with_reducible refine wO_mulL ?_ ?_); decide)
  | ((with_reducible refine wO_mod ?_ ?_); omega)
  | ((with_reducible refine wO_div ?_ ?_ ?_); omega; omega)
  | ((with_reducible apply wU_o); (first | assumption | exact app_get0 | exact app_get1 | exact app_get2 | exact List.getElem?_set_self (by assumption) | exact List.getElem?_set_self (by rw [List.length_set]; assumption) | (rw [List.getElem?_append_right (Nat.le_refl _), Nat.sub_self]; rfl)); rfl)
  | ((with_reducible apply wO_ixZ); (apply asSeq_o; (first | assumption | exact app_get0 | exact app_get1 | exact app_get2 | exact List.getElem?_set_self (by assumption) | exact List.getElem?_set_self (by rw [List.length_set]; assumption) | (rw [List.getElem?_append_right (Nat.le_refl _), Nat.sub_self]; rfl))); rfl))
/-! ### builders -/
theorem cutV_o {n m : Nat} (h : m < n) : cutV n (some (.o m)) = some (.o m) := if_pos h
theorem srcO_flat (a b : Int) : (srcO a b).flat = true := rfl
theorem Src.lt {st : Sto} {s : Nat} (h : Src st s) : s < st.length := by
  obtain ⟨_, _, hs⟩ := h
  exact (List.getElem?_eq_some_iff.mp hs).1
theorem Src.same {st : Sto} {s : Nat} (h : Src st s) : ∃ a b, st.set s (srcO a b) = st := by
  obtain ⟨a, b, hs⟩ := h
  exact ⟨a, b, set_id hs⟩
theorem Src.app {st : Sto} {s : Nat} (h : Src st s) (l : Sto) : Src (st ++ l) s := by
  obtain ⟨a, b, hs⟩ := h
  exact ⟨a, b, by rw [List.getElem?_append_left (List.getElem?_eq_some_iff.mp hs).1]; exact hs⟩
/-- a draw while newer objects lie behind -/
theorem draw_at {st : Sto} {s : Nat} (hs : Src st s) {a b : Int} {l : Sto} {n : Int} (h0 : 0 < n) (h1 : n < 1073741824) {Q : VL → Sto → Prop} (q : ∀ r a' b' : Int, 0 ≤ r → r < n → Q (.d (.int r)) (st.set s (srcO a' b') ++ l)) :
    wF m__law_draw [.o s, .d (.int n)] (st.set s (srcO a b) ++ l) Q := by
  refine l_draw_wp ((hs.set a b).app l) h0 h1 fun r a' b' k0 k1 => ?_
  have := q r a' b' k0 k1
  rwa [set_lo (by rw [List.length_set]; exact hs.lt), List.set_set]
theorem draw_0 {st : Sto} {s : Nat} (hs : Src st s) {a b : Int} {n : Int} (h0 : 0 < n) (h1 : n < 1073741824) {Q : VL → Sto → Prop} (q : ∀ r a' b' : Int, 0 ≤ r → r < n → Q (.d (.int r)) (st.set s (srcO a' b'))) :
    wF m__law_draw [.o s, .d (.int n)] (st.set s (srcO a b)) Q := by
  refine l_draw_wp (hs.set a b) h0 h1 fun r a' b' k0 k1 => ?_
  have := q r a' b' k0 k1
  rwa [List.set_set]
theorem natD_map (o : List Nat) : (natD o).map VL.d = o.map fun (x : Nat) => VL.d (.int (x : Int)) := by
  unfold natD zO
  rw [List.map_map, List.map_map]
  rfl
theorem natD_snoc (o : List Nat) (x : Nat) : (natD o).map VL.d ++ [VL.d (.int (x : Int))] = (natD (o ++ [x])).map VL.d := by
  rw [natD_map, natD_map, List.map_append]
  rfl
theorem flat_natD (o : List Nat) : (Ob.lst ((natD o).map VL.d)).flat = true := by
  show ((natD o).map VL.d).all noO = true
  rw [natD_map, List.all_map, List.all_eq_true]
  intro x _
  rfl
theorem l_order_wp {T : List (List Int)} (hT : Tab T) {st : Sto} {s : Nat} (hs : Src st s) {Q : VL → Sto → Prop} (q : ∀ o : List Nat, o.length = T.length → (∀ x ∈ o, x < T.length) → ∀ a b, Q (.d (.list (natD o))) (st.set s (srcO a b))) :
    wF m__law_order [.o s, .d (tbL T)] st Q := by
  have hlen := hT.len
  have h62 : T.length < 2 ^ 62 := Nat.lt_of_le_of_lt hT.len (by decide)
  have hA : ∀ a b, (st.set s (srcO a b)).length = st.length := fun a b => List.length_set
  refine wF_cut (wF_run ?_)
  unfold c__law_order
  repeat' wp_step
  refine lenT ?_
  repeat' wp_step
  obtain ⟨a0, b0, e0⟩ := hs.same
  refine ⟨h62, wL_rg (fun i env st' => (∃ a b c d, env = [some (.o s), some (.d (tbL T)), some (.o st.length), a, b, c, d]) ∧ ∃ o a b, o.length = i ∧ (∀ x ∈ o, x < T.length) ∧ st' = st.set s (srcO a b) ++ [.lst ((natD o).map .d)])
    ⟨⟨_, _, _, _, rfl⟩, [], a0, b0, rfl, (fun x hx => by cases hx), by rw [e0]; rfl⟩ (fun i env st' hi hI => ?_) (fun env st' hI => ?_)⟩
  · obtain ⟨⟨a1, b1, c1, d1, rfl⟩, o, a, b, hol, hor, rfl⟩ := hI
    have hAl := hA a b
    refine ⟨_, rfl, wS_cut ?_⟩
    unfold c__law_order_B3
    repeat' wp_step
    refine lenT ?_
    repeat' wp_step
    have e1 : (st.set s (srcO a b) ++ [Ob.lst ((natD o).map VL.d)]).length = st.length + 1 := by rw [List.length_append, hAl]; rfl
    rw [e1]
    refine ⟨h62, wL_rg (fun x env st' => (∃ a c d, env = [some (.o s), some (.d (tbL T)), some (.o st.length), a, some (.o (st.length + 1)), c, d]) ∧ ∃ rd : List Nat, (∀ y ∈ rd, y < T.length) ∧ rd.length ≤ x ∧ (∀ y, y < x → y ∉ o → (∀ k ∈ at_ T y, k.toNat ∈ o) → y ∈ rd) ∧ st' = st.set s (srcO a b) ++ [.lst ((natD o).map .d), .lst ((natD rd).map .d)])
      ⟨⟨_, _, _, rfl⟩, [], (fun x hx => by cases hx), Nat.le_refl _, fun y hy => absurd hy (Nat.not_lt_zero _), by rw [List.append_assoc]; rfl⟩ (fun x env st' hx hI => ?_) (fun env st' hI => ?_)⟩
    · obtain ⟨⟨a2, c2, d2, rfl⟩, rd, hrd, hrl, hrc, rfl⟩ := hI
      refine ⟨_, rfl, ?_⟩
      unfold c__law_order_B2
      repeat' wp_step
      refine wO_inS1 (asSeq_o (getA0 hAl)) ?_
      repeat' wp_step
      · rename_i hno
        have hno2 : x ∉ o := fun h => hno (mem_zO.mpr h)
        refine ix_tb hx ?_
        refine comp_ints (r := at_ T x) rfl ⟨_, _, comp_pure (v := fun t => VL.d (.int t)) (fun y => !decide (y ∈ zO o)) (fun y => VL.d (.int y)) (size_le ?_) (fun y hy => ?_), ?_⟩
        · exact Nat.le_trans (rise_len (hT.rise _ (at_memT hx)) (hT.rng _ (at_memT hx))) (by omega)
        · refine ⟨_, rfl, ?_, fun _ => ?_⟩
          · unfold c__law_order_T0
            repeat' wp_step
            refine wO_inS1 (asSeq_o (getA0 hAl)) ?_
            exact ⟨rfl, rfl⟩
          · unfold c__law_order_E1
            repeat' wp_step
            exact rfl
        · rw [filt_ints]
          repeat' wp_step
          · refine isO_o (getA1 hAl) ?_
            repeat' wp_step
            refine wApp_o (getA1 hAl) (size_lt (by rw [List.length_map, natD_len]; omega)) ?_
            rw [setA1 hAl, natD_snoc]
            repeat' wp_step
            refine ⟨⟨_, _, _, rfl⟩, rd ++ [x], fun y hy => ?_, by rw [List.length_append, List.length_singleton]; omega, fun y hy h1 h2 => ?_, rfl⟩
            · rcases List.mem_append.mp hy with hy | hy
              · exact hrd y hy
              · rw [List.mem_singleton] at hy
                subst hy
                exact hx
            · rcases Nat.lt_succ_iff_lt_or_eq.mp hy with hy | rfl
              · exact List.mem_append_left _ (hrc y hy h1 h2)
              · simp
          · rename_i h0
            refine ⟨⟨_, _, _, rfl⟩, rd, hrd, by omega, fun y hy h1 h2 => ?_, rfl⟩
            rcases Nat.lt_succ_iff_lt_or_eq.mp hy with hy | rfl
            · exact hrc y hy h1 h2
            · refine absurd ?_ h0
              have : (at_ T (y : Int)).filter (fun k => !decide (k ∈ zO o)) = [] := by
                rw [List.filter_eq_nil_iff]
                intro k hk
                have hkr := at_in hT hk
                have hke : ((k.toNat : Nat) : Int) = k := Int.toNat_of_nonneg hkr.1
                have := mem_zO.mpr (h2 k hk)
                rw [hke] at this
                simp [this]
              rw [this]
              rfl
      · rename_i hin
        have hin2 : x ∈ o := mem_zO.mp hin
        refine ⟨⟨_, _, _, rfl⟩, rd, hrd, by omega, fun y hy h1 h2 => ?_, rfl⟩
        rcases Nat.lt_succ_iff_lt_or_eq.mp hy with hy | rfl
        · exact hrc y hy h1 h2
        · exact absurd hin2 h1
    · obtain ⟨⟨a2, c2, d2, rfl⟩, rd, hrd, hrl, hrc, rfl⟩ := hI
      obtain ⟨y, hy1, hy2, hy3⟩ := ready_ex hT (o := o) (by omega)
      have hpos := List.length_pos_of_mem (hrc y hy1 hy2 hy3)
      repeat' wp_step
      refine isO_o (getA0 hAl) ?_
      repeat' wp_step
      refine wC_lenO (getA1 hAl) ?_
      rw [List.length_map, natD_len]
      repeat' wp_step
      refine draw_at hs (by omega) (by omega) fun r a' b' k0 k1 => ?_
      have hAl' := hA a' b'
      have hr : r.toNat < rd.length := by omega
      have hre : ((r.toNat : Nat) : Int) = r := Int.toNat_of_nonneg k0
      refine wO_ixZ (asSeq_o (getA1 hAl')) (z := .d (.int ((rd[r.toNat] : Nat) : Int))) ?_ ?_
      · rw [atI_int _ k0, natD_map, List.getElem?_map, List.getElem?_eq_getElem hr]
        rfl
      · refine wApp_o (getA0 hAl') (size_lt (by rw [List.length_map, natD_len]; omega)) ?_
        rw [setA0 hAl', natD_snoc]
        repeat' wp_step
        have hF : Flt (st.set s (srcO a b) ++ [Ob.lst ((natD o).map VL.d)]) (st.set s (srcO a' b') ++ [Ob.lst ((natD (o ++ [rd[r.toNat]])).map VL.d)]) := by
          refine Flt.app ?_ (flat_natD _)
          have := (Flt.refl (st.set s (srcO a b))).set (n := s) (srcO_flat a' b')
          rwa [List.set_set] at this
        have e3 : ∀ z w : Ob, st.set s (srcO a' b') ++ [z, w] = (st.set s (srcO a' b') ++ [z]) ++ [w] := fun z w => by rw [List.append_assoc]; rfl
        rw [e3]
        refine ⟨cutOk_flt hF, ?_⟩
        rw [take_flt hF]
        refine ⟨⟨cutV (st.length + 1) a2, cutV (st.length + 1) (some (.o (st.length + 1))), cutV (st.length + 1) c2, cutV (st.length + 1) d2, ?_⟩, o ++ [rd[r.toNat]], a', b', by rw [List.length_append, hol]; rfl, fun y hy => ?_, rfl⟩
        · have l1 := hs.lt
          rw [e1]
          simp only [cutE, List.map_cons, List.map_nil]
          rw [cutV_o (m := s) (by omega), cutV_o (m := st.length) (by omega)]
          rfl
        · rcases List.mem_append.mp hy with hy | hy
          · exact hor y hy
          · rw [List.mem_singleton] at hy
            subst hy
            exact hrd _ (List.getElem_mem hr)
  · obtain ⟨⟨a1, b1, c1, d1, rfl⟩, o, a, b, hol, hor, rfl⟩ := hI
    have hAl := hA a b
    repeat' wp_step
    refine wZ_o (getA0 hAl) (allD_map' _) ?_
    rw [setA0 hAl]
    repeat' wp_step
    have hF : Flt st (st.set s (srcO a b)) := (Flt.refl st).set (srcO_flat a b)
    refine ⟨cutOk_flt hF, ?_⟩
    rw [take_flt hF]
    exact q o hol hor a b
end K75
set_option Elab.async false
set_option linter.all false
set_option autoImplicit false
set_option maxRecDepth 100000
set_option maxHeartbeats 1000000
namespace K75
open PySem PySem.Spec PyProof.Rows L2 Sl
local macro_rules | `(tactic| wp_step) => `(tactic| first
  | with_reducible refine wS_seq ?_
  | with_reducible refine seqK_nx ?_
  | with_reducible refine seqK_rt ?_
  | with_reducible refine seqK_bk ?_
  | with_reducible refine seqK_ct ?_
  | with_reducible refine fnQ_nx ?_
  | with_reducible refine fnQ_rt ?_
  | with_reducible refine turn_nx ?_
  | with_reducible refine turn_ct ?_
  | with_reducible refine turn_bk ?_
  | with_reducible refine turn_rt ?_
  | with_reducible refine wS_if ?_
  | with_reducible refine wS_set ?_
  | with_reducible refine wS_asg ?_
  | with_reducible refine wS_ret ?_
  | with_reducible refine wS_drop ?_
  | with_reducible refine wS_nx ?_
  | with_reducible refine wS_bk ?_
  | with_reducible refine wS_ct ?_
  | with_reducible refine wS_forS ?_
  | with_reducible refine wS_for1 ?_
  | with_reducible refine wS_setL ?_
  | with_reducible refine wS_dputK ?_
  | with_reducible refine wE_op ?_
  | with_reducible refine wE_c ?_
  | ((with_reducible apply wE_var); rfl)
  | with_reducible refine wE_call ?_
  | with_reducible refine wE_cb ?_
  | with_reducible refine wE_and ?_
  | with_reducible refine wE_or ?_
  | with_reducible refine wE_not ?_
  | with_reducible refine wE_if ?_
  | with_reducible refine wE_isi ?_
  | with_reducible refine wE_chain ?_
  | with_reducible refine wE_neg ?_
  | with_reducible refine wE_lst ?_
  | with_reducible refine wE_tup ?_
  | with_reducible refine wE_frz ?_
  | with_reducible refine wE_append ?_
  | with_reducible refine wE_sl ?_
  | with_reducible refine wE_rev ?_
  | with_reducible refine wE_dnew ?_
  | with_reducible refine wZ_d ?_
  | ((with_reducible apply isO_o); (first | assumption | exact app_get0 | exact app_get1 | exact app_get2 | exact List.getElem?_set_self (by assumption) | exact List.getElem?_set_self (by rw [List.length_set]; assumption) | (rw [List.getElem?_append_right (Nat.le_refl _), Nat.sub_self]; rfl)))
  | ((with_reducible apply wApp_o); (first | assumption | exact app_get0 | exact app_get1 | exact app_get2 | exact List.getElem?_set_self (by assumption) | exact List.getElem?_set_self (by rw [List.length_set]; assumption) | (rw [List.getElem?_append_right (Nat.le_refl _), Nat.sub_self]; rfl)))
  | ((with_reducible apply wD_o); (first | assumption | exact app_get0 | exact app_get1 | exact app_get2 | exact List.getElem?_set_self (by assumption) | exact List.getElem?_set_self (by rw [List.length_set]; assumption) | (rw [List.getElem?_append_right (Nat.le_refl _), Nat.sub_self]; rfl)))
  | ((with_reducible apply wZ_o); (first | assumption | exact app_get0 | exact app_get1 | exact app_get2 | exact List.getElem?_set_self (by assumption) | exact List.getElem?_set_self (by rw [List.length_set]; assumption) | (rw [List.getElem?_append_right (Nat.le_refl _), Nat.sub_self]; rfl)); exact allD_map' _)
  | with_reducible refine wE_rep ?_
  | with_reducible refine wE_sortSet ?_
  | with_reducible refine wE_lenSet ?_
  | with_reducible refine wE_comp1 ?_
  | with_reducible refine wE_compS ?_
  | with_reducible refine wP_none ?_
  | with_reducible refine wP_some ?_
  | with_reducible refine wA_nil ?_
  | with_reducible refine wA_cons ?_
  | with_reducible refine wA_app ?_
  | with_reducible refine wB_t ?_
  | with_reducible refine wB_f ?_
  | with_reducible refine wB_nt ?_
  | with_reducible refine wB_nf ?_
  | with_reducible refine wB_dec (fun _ => ?_) (fun _ => ?_)
  | with_reducible refine wB_not (fun _ => ?_) (fun _ => ?_)
  | with_reducible refine wB_nb (fun _ => ?_) (fun _ => ?_)
  | with_reducible refine wB_b (fun _ => ?_) (fun _ => ?_)
  | with_reducible refine wO_sub ?_
  | ((with_reducible apply wO_inS0); rfl)
  | ((with_reducible apply wO_inS1); rfl)
  | ((with_reducible apply wO_inD0); (first | assumption | exact app_get0 | exact app_get1 | exact app_get2 | exact List.getElem?_set_self (by assumption) | exact List.getElem?_set_self (by rw [List.length_set]; assumption) | (rw [List.getElem?_append_right (Nat.le_refl _), Nat.sub_self]; rfl)))
  | ((with_reducible apply wO_inD1); (first | assumption | exact app_get0 | exact app_get1 | exact app_get2 | exact List.getElem?_set_self (by assumption) | exact List.getElem?_set_self (by rw [List.length_set]; assumption) | (rw [List.getElem?_append_right (Nat.le_refl _), Nat.sub_self]; rfl)))
  | with_reducible refine wO_lt ?_
  | with_reducible refine wO_le ?_
  | with_reducible refine wO_gt ?_
  | with_reducible refine wO_ge ?_
  | with_reducible refine wO_add ?_
  | with_reducible refine wO_eqI ?_
  | with_reducible refine wO_neI ?_
  | with_reducible refine wO_isN ?_
  | with_reducible refine wO_notN ?_
  | with_reducible refine wC_lenL ?_
  | with_reducible refine wC_lenT ?_
  | with_reducible refine wC_int ?_
  | ((with_reducible apply wC_lenD); (first | assumption | exact app_get0 | exact app_get1 | exact app_get2 | exact List.getElem?_set_self (by assumption) | exact List.getElem?_set_self (by rw [List.length_set]; assumption) | (rw [List.getElem?_append_right (Nat.le_refl _), Nat.sub_self]; rfl)))
  | with_reducible refine wC_abs ?_
  | with_reducible refine wM_N ?_
  | with_reducible refine wM_Dm ?_
  | with_reducible refine wM_Tm ?_
  | ((with_reducible apply wM_T); rfl)
  | ((with_reducible apply wM_D); rfl)
  | (with_reducible refine Exists.intro _ (And.intro rfl ?_))
  | (with_reducible refine And.intro rfl ?_)
  | ((with_reducible refine And.intro (size_small ?_) ?_); rfl)
  | with_reducible refine wO_pow6 ?_
  | ((with_reducible refine wO_mulR ?_ ?_); decide)
  | ((with_reducible refine wO_mulL ?_ ?_); decide)
  | ((with_reducible refine wO_mod ?_ ?_); omega)
  | ((with_reducible refine wO_div ?_ ?_ ?_); omega; omega)
  | ((with_reducible apply wU_o); (first | assumption | exact app_get0 | exact app_get1 | exact app_get2 | exact List.getElem?_set_self (by assumption) | exact List.getElem?_set_self (by rw [List.length_set]; assumption) | (rw [List.getElem?_append_right (Nat.le_refl _), Nat.sub_self]; rfl)); rfl)
  | ((with_reducible apply wO_ixZ); (apply asSeq_o; (first | assumption | exact app_get0 | exact app_get1 | exact app_get2 | exact List.getElem?_set_self (by assumption) | exact List.getElem?_set_self (by rw [List.length_set]; assumption) | (rw [List.getElem?_append_right (Nat.le_refl _), Nat.sub_self]; rfl))); rfl))
def cutG {α : Type} (xs : List α) (lo hi : Option Int) : List α := (xs.drop (HT.sIx xs.length 0 lo)).take (HT.sIx xs.length xs.length hi - HT.sIx xs.length 0 lo)
theorem cutL_map {α : Type} (f : α → VL) (xs : List α) (lo hi : Option Int) : cutL (xs.map f) lo hi = (cutG xs lo hi).map f := by
  unfold cutL cutG
  rw [List.length_map, List.map_take, List.map_drop]
theorem cutG_len {α : Type} (xs : List α) (lo hi : Option Int) : (cutG xs lo hi).length ≤ xs.length := by
  unfold cutG
  rw [List.length_take, List.length_drop]
  omega
theorem cutG_mem {α : Type} {xs : List α} {lo hi : Option Int} {x : α} (h : x ∈ cutG xs lo hi) : x ∈ xs := List.mem_of_mem_drop (List.mem_of_mem_take h)
theorem cutG_map {α β : Type} (f : α → β) (xs : List α) (lo hi : Option Int) : cutG (xs.map f) lo hi = (cutG xs lo hi).map f := by
  unfold cutG
  rw [List.length_map, List.map_take, List.map_drop]
theorem slD {ds : List PyData} {st : Sto} {l h : Option Int} {Q : VL → Sto → Prop} (q : Q (.d (.list (cutG ds l h))) st) :
    ∃ k xs, asSeq st (.d (.list ds)) = some (k, xs) ∧ (k = false → wM mkD (cutL xs l h) st Q) ∧ (k = true → wM mkT (cutL xs l h) st Q) :=
  ⟨false, ds.map .d, rfl, fun _ => by rw [cutL_map]; exact wM_Dm q, fun e => by cases e⟩
theorem flat_rows (ps : List (List Int)) : (Ob.lst ((ps.map rowL).map VL.d)).flat = true := by
  show ((ps.map rowL).map VL.d).all noO = true
  rw [List.map_map, List.all_map, List.all_eq_true]
  intro x _
  rfl
/-- rows of bounded size -/
def RowsLe (ps : List (List Int)) : Prop := ps.length ≤ 10 ∧ ∀ r ∈ ps, r.length ≤ 10
theorem sortI_len (ns : List Int) : (sortI ns).length = ns.length := (sortI_perm ns).length_eq
theorem l_parts_wp {st : Sto} {s : Nat} (hs : Src st s) {o : List Nat} (ho : o.length ≤ 10) {Q : VL → Sto → Prop} (q : ∀ ps, RowsLe ps → ∀ a b, Q (.d (.list (ps.map rowL))) (st.set s (srcO a b))) :
    wF m__law_parts [.o s, .d (.list (natD o))] st Q := by
  have hA : ∀ a b, (st.set s (srcO a b)).length = st.length := fun a b => List.length_set
  have h62 : o.length < 2 ^ 62 := Nat.lt_of_le_of_lt ho (by decide)
  refine wF_cut (wF_run ?_)
  unfold c__law_parts
  repeat' wp_step
  rw [natD_len]
  obtain ⟨a0, b0, e0⟩ := hs.same
  refine ⟨h62, wL_rg (fun i env st' => (∃ at' a b, env = [some (.o s), some (.d (.list (natD o))), some (.o st.length), some (.d (.int at')), a, b]) ∧ ∃ ps a b, ps.length ≤ i ∧ (∀ r ∈ ps, r.length ≤ 10) ∧ st' = st.set s (srcO a b) ++ [.lst ((ps.map rowL).map .d)])
    ⟨⟨_, _, _, rfl⟩, [], a0, b0, Nat.le_refl _, (fun x hx => by cases hx), by rw [e0]; rfl⟩ (fun i env st' hi hI => ?_) (fun env st' hI => ?_)⟩
  · obtain ⟨⟨at', a1, b1, rfl⟩, ps, a, b, hpl, hpr, rfl⟩ := hI
    have hAl := hA a b
    refine ⟨_, rfl, ?_⟩
    unfold c__law_parts_B0
    repeat' wp_step
    · refine draw_at hs (by decide) (by decide) fun r a' b' k0 k1 => ?_
      have hAl' := hA a' b'
      repeat' wp_step
      refine isO_o (getA0 hAl') ?_
      repeat' wp_step
      refine slD ?_
      have e1 : cutG (natD o) (some at') (some (at' + (1 + r))) = (cutG (zO o) (some at') (some (at' + (1 + r)))).map .int := by
        unfold natD
        rw [cutG_map]
      rw [e1]
      have hcl := cutG_len (zO o) (some at') (some (at' + (1 + r)))
      have hzl : (zO o).length = o.length := by
        unfold zO
        rw [List.length_map]
      repeat' wp_step
      refine wC_sorted rfl ?_
      repeat' wp_step
      refine wApp_o (getA0 hAl') (size_lt (by rw [List.length_map, List.length_map]; omega)) ?_
      rw [setA0 hAl']
      repeat' wp_step
      refine ⟨⟨_, _, _, rfl⟩, ps ++ [sortI (cutG (zO o) (some at') (some (at' + (1 + r))))], a', b', by rw [List.length_append, List.length_singleton]; omega, fun u hu => ?_, by rw [List.map_append, List.map_append]; rfl⟩
      rcases List.mem_append.mp hu with hu | hu
      · exact hpr u hu
      · rw [List.mem_singleton] at hu
        subst hu
        rw [sortI_len]
        omega
    · exact ⟨⟨_, _, _, rfl⟩, ps, a, b, by omega, hpr, rfl⟩
  · obtain ⟨⟨at', a1, b1, rfl⟩, ps, a, b, hpl, hpr, rfl⟩ := hI
    have hAl := hA a b
    repeat' wp_step
    refine wZ_o (getA0 hAl) (allD_map' _) ?_
    rw [setA0 hAl]
    repeat' wp_step
    have hF : Flt st (st.set s (srcO a b)) := (Flt.refl st).set (srcO_flat a b)
    refine ⟨cutOk_flt hF, ?_⟩
    rw [take_flt hF]
    exact q ps ⟨by omega, hpr⟩ a b
theorem l_runs_wp {T N : List (List Int)} (hNl : N.length = T.length) {st : Sto} {s : Nat} (hs : Src st s) {o : List Nat} (ho : o.length ≤ 10) (hor : ∀ x ∈ o, x < T.length) {Q : VL → Sto → Prop} (q : ∀ ps, RowsLe ps → ∀ a b, Q (.d (.list (ps.map rowL))) (st.set s (srcO a b))) :
    wF m__law_runs [.o s, .d (tbL N), .d (.list (natD o))] st Q := by
  have hA : ∀ a b, (st.set s (srcO a b)).length = st.length := fun a b => List.length_set
  refine wF_cut (wF_run ?_)
  unfold c__law_runs
  repeat' wp_step
  obtain ⟨a0, b0, e0⟩ := hs.same
  refine ⟨natD o, .inl rfl, ?_⟩
  rw [natD_map]
  refine wL_ix (v := fun (x : Nat) => VL.d (.int (x : Int))) (fun i env st' => (∃ a b c, env = [some (.o s), some (.d (tbL N)), some (.d (.list (natD o))), some (.o st.length), a, b, c]) ∧ ∃ ps a b, ps.length ≤ i ∧ (∀ r ∈ ps, r ≠ [] ∧ r.length ≤ i) ∧ st' = st.set s (srcO a b) ++ [.lst ((ps.map rowL).map .d)])
    ⟨⟨_, _, _, rfl⟩, [], a0, b0, Nat.le_refl _, (fun x hx => by cases hx), by rw [e0]; rfl⟩ (fun i x env st' hx hI => ?_) (fun env st' hI => ?_)
  · obtain ⟨⟨a1, b1, c1, rfl⟩, ps, a, b, hpl, hpr, rfl⟩ := hI
    have hAl := hA a b
    have hi := (List.getElem?_eq_some_iff.mp hx).1
    have hxT := hor x (List.mem_of_getElem? hx)
    refine ⟨_, rfl, ?_⟩
    unfold c__law_runs_B1
    repeat' wp_step
    refine wC_lenO (getA0 hAl) ?_
    rw [List.length_map, List.length_map]
    repeat' wp_step
    refine ⟨by omega, wL_rg (fun k env st' => ∃ pl : Bool, (∃ c, env = [some (.o s), some (.d (tbL N)), some (.d (.list (natD o))), some (.o st.length), some (.d (.int (x : Int))), some (.d (.bool pl)), c]) ∧ ∃ qs a b, qs.length = ps.length ∧ (∀ r ∈ qs, r ≠ [] ∧ r.length ≤ i + 1) ∧ (pl = false → ∀ r ∈ qs, r.length ≤ i) ∧ st' = st.set s (srcO a b) ++ [.lst ((qs.map rowL).map .d)])
      ⟨false, ⟨_, rfl⟩, ps, a, b, rfl, fun r hr => ⟨(hpr r hr).1, Nat.le_succ_of_le (hpr r hr).2⟩, fun _ r hr => (hpr r hr).2, rfl⟩ (fun k env st' hk hI => ?_) (fun env st' hI => ?_)⟩
    · obtain ⟨pl, ⟨c2, rfl⟩, qs, a2, b2, hql, hqr, hqp, rfl⟩ := hI
      have hAl2 := hA a2 b2
      have hkq : k < qs.length := by omega
      have hqk : qs[k]? = some qs[k] := List.getElem?_eq_getElem hkq
      have hqm : qs[k] ∈ qs := List.getElem_mem hkq
      obtain ⟨hne, hle⟩ := hqr _ hqm
      refine ⟨_, rfl, ?_⟩
      unfold c__law_runs_B0
      have gix : ∀ {A : Sto} {Q' : VL → Sto → Prop}, A[st.length]? = some (.lst ((qs.map rowL).map .d)) → Q' (.d (rowL qs[k])) A → wO oIx A (.o st.length) (.d (.int (k : Int))) Q' := fun hA' q' => by
        refine wO_ix (asSeq_o hA') (z := .d (rowL qs[k])) ?_ q'
        rw [List.getElem?_map, List.getElem?_map, hqk]
        rfl
      repeat' wp_step
      · rename_i hpf
        refine gix (getA0 hAl2) ?_
        repeat' wp_step
        refine wO_ix1 (k := false) (xs := (qs[k].map PyData.int).map .d) rfl (z := .d (.int (qs[k].getLast hne))) ?_ ?_
        · rw [List.getLast?_map, List.getLast?_map, List.getLast?_eq_some_getLast hne]
          rfl
        · repeat' wp_step
          refine isTb_ix (.inr rfl) (Int.natCast_nonneg x) (by omega) fun z hz => ?_
          refine isRw_in0 hz ?_
          repeat' wp_step
          · refine draw_at hs (by decide) (by decide) fun r a' b' k0 k1 => ?_
            have hAl3 := hA a' b'
            repeat' wp_step
            · refine gix (getA0 hAl3) ?_
              repeat' wp_step
              refine wO_addD (size_le (by simp; omega)) ?_
              repeat' wp_step
              refine wU_o (getA0 hAl3) (i := k) (ixN_nat (by rw [List.length_map, List.length_map]; omega)) ?_
              rw [setA0 hAl3]
              repeat' wp_step
              have e1 : (((qs.map rowL).map VL.d).set k (.d (.list (qs[k].map .int ++ [.int (x : Int)])))) = ((qs.set k (qs[k] ++ [(x : Int)])).map rowL).map VL.d := by
                rw [List.map_set, List.map_set]
                unfold rowL
                rw [List.map_append]
                rfl
              refine ⟨true, ⟨_, rfl⟩, qs.set k (qs[k] ++ [(x : Int)]), a', b', by rw [List.length_set, hql], fun u hu => ?_, (fun e => by cases e), ?_⟩
              · rcases List.mem_or_eq_of_mem_set hu with hu | rfl
                · exact hqr u hu
                · have := hqp hpf _ hqm
                  refine ⟨by simp, ?_⟩
                  rw [List.length_append, List.length_singleton]
                  omega
              · rw [← e1]
            · exact ⟨pl, ⟨_, rfl⟩, qs, a', b', hql, hqr, hqp, rfl⟩
          · exact ⟨pl, ⟨_, rfl⟩, qs, a2, b2, hql, hqr, hqp, rfl⟩
      · exact ⟨pl, ⟨_, rfl⟩, qs, a2, b2, hql, hqr, hqp, rfl⟩
    · obtain ⟨pl, ⟨c2, rfl⟩, qs, a2, b2, hql, hqr, hqp, rfl⟩ := hI
      have hAl2 := hA a2 b2
      repeat' wp_step
      · refine isO_o (getA0 hAl2) ?_
        repeat' wp_step
        refine wApp_o (getA0 hAl2) (size_lt (by rw [List.length_map, List.length_map]; omega)) ?_
        rw [setA0 hAl2]
        repeat' wp_step
        refine ⟨⟨_, _, _, rfl⟩, qs ++ [[(x : Int)]], a2, b2, by rw [List.length_append, List.length_singleton]; omega, fun u hu => ?_, by rw [List.map_append, List.map_append]; rfl⟩
        rcases List.mem_append.mp hu with hu | hu
        · exact hqr u hu
        · rw [List.mem_singleton] at hu
          subst hu
          refine ⟨by simp, ?_⟩
          rw [List.length_singleton]
          omega
      · exact ⟨⟨_, _, _, rfl⟩, qs, a2, b2, by omega, hqr, rfl⟩
  · obtain ⟨⟨a1, b1, c1, rfl⟩, ps, a, b, hpl, hpr, rfl⟩ := hI
    have hAl := hA a b
    repeat' wp_step
    refine wZ_o (getA0 hAl) (allD_map' _) ?_
    rw [setA0 hAl]
    repeat' wp_step
    have hF : Flt st (st.set s (srcO a b)) := (Flt.refl st).set (srcO_flat a b)
    refine ⟨cutOk_flt hF, ?_⟩
    rw [take_flt hF]
    exact q ps ⟨by omega, fun r hr => Nat.le_trans (hpr r hr).2 ho⟩ a b
end K75
set_option Elab.async false
set_option linter.all false
set_option autoImplicit false
set_option maxRecDepth 100000
set_option maxHeartbeats 2000000
namespace K75
open PySem PySem.Spec PyProof.Rows L2 Sl
local macro_rules | `(tactic| wp_step) => `(tactic| first
  | with_reducible refine wS_seq ?_
  | with_reducible refine seqK_nx ?_
  | with_reducible refine seqK_rt ?_
  | with_reducible refine seqK_bk ?_
  | with_reducible refine seqK_ct ?_
  | with_reducible refine fnQ_nx ?_
  | with_reducible refine fnQ_rt ?_
  | with_reducible refine turn_nx ?_
  | with_reducible refine turn_ct ?_
  | with_reducible refine turn_bk ?_
  | with_reducible refine turn_rt ?_
  | with_reducible refine wS_if ?_
  | with_reducible refine wS_set ?_
  | with_reducible refine wS_asg ?_
  | with_reducible refine wS_ret ?_
  | with_reducible refine wS_drop ?_
  | with_reducible refine wS_nx ?_
  | with_reducible refine wS_bk ?_
  | with_reducible refine wS_ct ?_
  | with_reducible refine wS_forS ?_
  | with_reducible refine wS_for1 ?_
  | with_reducible refine wS_setL ?_
  | with_reducible refine wS_dputK ?_
  | with_reducible refine wE_op ?_
  | with_reducible refine wE_c ?_
  | ((with_reducible apply wE_var); rfl)
  | with_reducible refine wE_call ?_
  | with_reducible refine wE_cb ?_
  | with_reducible refine wE_and ?_
  | with_reducible refine wE_or ?_
  | with_reducible refine wE_not ?_
  | with_reducible refine wE_if ?_
  | with_reducible refine wE_isi ?_
  | with_reducible refine wE_chain ?_
  | with_reducible refine wE_neg ?_
  | with_reducible refine wE_lst ?_
  | with_reducible refine wE_tup ?_
  | with_reducible refine wE_frz ?_
  | with_reducible refine wE_append ?_
  | with_reducible refine wE_sl ?_
  | with_reducible refine wE_rev ?_
  | with_reducible refine wE_dnew ?_
  | with_reducible refine wZ_d ?_
  | ((with_reducible apply isO_o); (first | assumption | exact app_get0 | exact app_get1 | exact app_get2 | exact List.getElem?_set_self (by assumption) | exact List.getElem?_set_self (by rw [List.length_set]; assumption) | (rw [List.getElem?_append_right (Nat.le_refl _), Nat.sub_self]; rfl) | exact getA0 (by assumption) | exact getA1 (by assumption)))
  | ((with_reducible apply wApp_o); (first | assumption | exact app_get0 | exact app_get1 | exact app_get2 | exact List.getElem?_set_self (by assumption) | exact List.getElem?_set_self (by rw [List.length_set]; assumption) | (rw [List.getElem?_append_right (Nat.le_refl _), Nat.sub_self]; rfl) | exact getA0 (by assumption) | exact getA1 (by assumption)))
  | ((with_reducible apply wD_o); (first | assumption | exact app_get0 | exact app_get1 | exact app_get2 | exact List.getElem?_set_self (by assumption) | exact List.getElem?_set_self (by rw [List.length_set]; assumption) | (rw [List.getElem?_append_right (Nat.le_refl _), Nat.sub_self]; rfl) | exact getA0 (by assumption) | exact getA1 (by assumption)))
  | ((with_reducible apply wZ_o); (first | assumption | exact app_get0 | exact app_get1 | exact app_get2 | exact List.getElem?_set_self (by assumption) | exact List.getElem?_set_self (by rw [List.length_set]; assumption) | (rw [List.getElem?_append_right (Nat.le_refl _), Nat.sub_self]; rfl) | exact getA0 (by assumption) | exact getA1 (by assumption)); exact allD_map' _)
  | with_reducible refine wE_rep ?_
  | with_reducible refine wE_sortSet ?_
  | with_reducible refine wE_lenSet ?_
  | with_reducible refine wE_comp1 ?_
  | with_reducible refine wE_compS ?_
  | with_reducible refine wP_none ?_
  | with_reducible refine wP_some ?_
  | with_reducible refine wA_nil ?_
  | with_reducible refine wA_cons ?_
  | with_reducible refine wA_app ?_
  | with_reducible refine wB_t ?_
  | with_reducible refine wB_f ?_
  | with_reducible refine wB_nt ?_
  | with_reducible refine wB_nf ?_
  | with_reducible refine wB_dec (fun _ => ?_) (fun _ => ?_)
  | with_reducible refine wB_not (fun _ => ?_) (fun _ => ?_)
  | with_reducible refine wB_nb (fun _ => ?_) (fun _ => ?_)
  | with_reducible refine wB_b (fun _ => ?_) (fun _ => ?_)
  | with_reducible refine wO_sub ?_
  | ((with_reducible apply wO_inS0); rfl)
  | ((with_reducible apply wO_inS1); rfl)
  | ((with_reducible apply wO_inD0); (first | assumption | exact app_get0 | exact app_get1 | exact app_get2 | exact List.getElem?_set_self (by assumption) | exact List.getElem?_set_self (by rw [List.length_set]; assumption) | (rw [List.getElem?_append_right (Nat.le_refl _), Nat.sub_self]; rfl) | exact getA0 (by assumption) | exact getA1 (by assumption)))
  | ((with_reducible apply wO_inD1); (first | assumption | exact app_get0 | exact app_get1 | exact app_get2 | exact List.getElem?_set_self (by assumption) | exact List.getElem?_set_self (by rw [List.length_set]; assumption) | (rw [List.getElem?_append_right (Nat.le_refl _), Nat.sub_self]; rfl) | exact getA0 (by assumption) | exact getA1 (by assumption)))
  | with_reducible refine wO_lt ?_
  | with_reducible refine wO_le ?_
  | with_reducible refine wO_gt ?_
  | with_reducible refine wO_ge ?_
  | with_reducible refine wO_add ?_
  | with_reducible refine wO_eqI ?_
  | with_reducible refine wO_neI ?_
  | with_reducible refine wO_isN ?_
  | with_reducible refine wO_notN ?_
  | with_reducible refine wC_lenL ?_
  | with_reducible refine wC_lenT ?_
  | with_reducible refine wC_int ?_
  | ((with_reducible apply wC_lenD); (first | assumption | exact app_get0 | exact app_get1 | exact app_get2 | exact List.getElem?_set_self (by assumption) | exact List.getElem?_set_self (by rw [List.length_set]; assumption) | (rw [List.getElem?_append_right (Nat.le_refl _), Nat.sub_self]; rfl) | exact getA0 (by assumption) | exact getA1 (by assumption)))
  | with_reducible refine wC_abs ?_
  | with_reducible refine wM_N ?_
  | with_reducible refine wM_Dm ?_
  | with_reducible refine wM_Tm ?_
  | ((with_reducible apply wM_T); rfl)
  | ((with_reducible apply wM_D); rfl)
  | (with_reducible refine Exists.intro _ (And.intro rfl ?_))
  | (with_reducible refine And.intro rfl ?_)
  | ((with_reducible refine And.intro (size_small ?_) ?_); rfl)
  | with_reducible refine wO_pow6 ?_
  | ((with_reducible refine wO_mulR ?_ ?_); decide)
  | ((with_reducible refine wO_mulL ?_ ?_); decide)
  | ((with_reducible refine wO_mod ?_ ?_); omega)
  | ((with_reducible refine wO_div ?_ ?_ ?_); omega; omega)
  | ((with_reducible apply wU_o); (first | assumption | exact app_get0 | exact app_get1 | exact app_get2 | exact List.getElem?_set_self (by assumption) | exact List.getElem?_set_self (by rw [List.length_set]; assumption) | (rw [List.getElem?_append_right (Nat.le_refl _), Nat.sub_self]; rfl) | exact getA0 (by assumption) | exact getA1 (by assumption)); rfl)
  | ((with_reducible apply wO_ixZ); (apply asSeq_o; (first | assumption | exact app_get0 | exact app_get1 | exact app_get2 | exact List.getElem?_set_self (by assumption) | exact List.getElem?_set_self (by rw [List.length_set]; assumption) | (rw [List.getElem?_append_right (Nat.le_refl _), Nat.sub_self]; rfl) | exact getA0 (by assumption) | exact getA1 (by assumption))); rfl))
def pOk (x : PyData) : Bool := match seqD x with
  | none => true
  | some ds => Nat.ble ds.length 40 && ds.all fun d => match seqD d with
    | none => true
    | some es => Nat.ble es.length 24
theorem pOk_ok {x : PyData} (h : pOk x = true) : PaperOk x := by
  intro ds hx
  unfold pOk at h
  rw [hx] at h
  obtain ⟨h1, h2⟩ := Bool.and_eq_true_iff.mp h
  refine ⟨Nat.le_of_ble_eq_true h1, fun d hd es he => ?_⟩
  have := List.all_eq_true.mp h2 d hd
  rw [he] at this
  exact Nat.le_of_ble_eq_true this
/-- a list of data that is a paper -/
def LOk (ds : List PyData) : Prop := ds.length ≤ 40 ∧ ∀ d ∈ ds, ∀ es, seqD d = some es → es.length ≤ 24
theorem LOk.paper {ds : List PyData} (h : LOk ds) : PaperOk (.list ds) := fun es he => by
  cases he
  exact h
theorem l_as_tuples_wp {st : Sto} {s : Nat} (hs : Src st s) {x : PyData} (hx : PaperOk x) {Q : VL → Sto → Prop} (q : ∀ y, PaperOk y → ∀ a b, Q (.d y) (st.set s (srcO a b))) :
    wF m__law_as_tuples [.o s, .d x] st Q := by
  have hA : ∀ a b, (st.set s (srcO a b)).length = st.length := fun a b => List.length_set
  obtain ⟨a0, b0, e0⟩ := hs.same
  refine wF_cut (wF_run ?_)
  unfold c__law_as_tuples
  have fin : ∀ a b, ∃ d, VL.d x = VL.d d ∧ cutOk st (st.set s (srcO a b)) ∧ Q (.d d) ((st.set s (srcO a b)).take st.length) := fun a b => by
    have hF : Flt st (st.set s (srcO a b)) := (Flt.refl st).set (srcO_flat a b)
    have h1 := cutOk_flt (l := []) hF
    have h2 := take_flt (l := []) hF
    rw [List.append_nil] at h1 h2
    exact ⟨x, rfl, h1, by rw [h2]; exact q x hx a b⟩
  have fin0 : ∃ d, VL.d x = VL.d d ∧ cutOk st st ∧ Q (.d d) (st.take st.length) := by
    have := fin a0 b0
    rwa [e0] at this
  cases x
  case list ds =>
    have dr : ∀ {Q' : VL → Sto → Prop}, (∀ r a b : Int, 0 ≤ r → r < 2 → Q' (.d (.int r)) (st.set s (srcO a b))) → wF m__law_draw [.o s, .d (.int 2)] st Q' := fun q' => l_draw_wp hs (by decide) (by decide) q'
    refine wS_seq (wS_if (wE_or (wE_not (wE_isi (wE_var rfl ⟨_, rfl, ⟨_, rfl, ?_⟩⟩)))))
    show wB (.d (.bool false)) _ _
    refine wB_f ?_
    repeat' wp_step
    refine dr fun r a b k0 k1 => ?_
    repeat' wp_step
    · have := fin a b
      obtain ⟨d, e, h⟩ := this
      cases e
      exact h
    · have hAl := hA a b
      rw [hAl]
      refine ⟨ds, .inl rfl, ?_⟩
      refine wL_ix (v := VL.d) (fun i env st' => (∃ a, env = [some (.o s), some (.d (.list ds)), some (.o st.length), a]) ∧ ∃ es : List PyData, es.map seqD = (ds.take i).map seqD ∧ st' = st.set s (srcO a b) ++ [.lst (es.map .d)])
        ⟨⟨_, rfl⟩, [], rfl, rfl⟩ (fun i d env st' hd hI => ?_) (fun env st' hI => ?_)
      · obtain ⟨⟨a1, rfl⟩, es, hes, rfl⟩ := hI
        have hi := (List.getElem?_eq_some_iff.mp hd).1
        have hel : es.length ≤ 40 := by
          have := congrArg List.length hes
          rw [List.length_map, List.length_map, List.length_take] at this
          have := (hx ds rfl).1
          omega
        have step : ∀ d', seqD d' = seqD d → (es ++ [d']).map seqD = (ds.take (i + 1)).map seqD := fun d' e => by
          rw [List.take_add_one, hd, List.map_append, List.map_append, hes]
          show _ ++ [seqD d'] = _ ++ [seqD d]
          rw [e]
        have app : ∀ {d' : PyData} {env' : Sl.Env}, seqD d' = seqD d → env'[3]? = some (some (.d d')) → env'[2]? = some (some (.o st.length)) → (∃ a, env' = [some (.o s), some (.d (.list ds)), some (.o st.length), a]) →
            wS (sDrop (eAppend (eVar 2) (eVar 3))) env' (st.set s (srcO a b) ++ [.lst (es.map .d)]) (turnTo (fun env st' => (∃ a, env = [some (.o s), some (.d (.list ds)), some (.o st.length), a]) ∧ ∃ es : List PyData, es.map seqD = (ds.take (i + 1)).map seqD ∧ st' = st.set s (srcO a b) ++ [.lst (es.map .d)])
              (seqK (sRet (eCB cTuple (aCons (eVar 2) aNil))) (fnQ fun r st1 => ∃ d, r = VL.d d ∧ cutOk st st1 ∧ Q (VL.d d) (st1.take st.length)))) := fun e h3 h2 h1 => by
          refine wS_drop (wE_append (wE_var h2 (isO_o (getA0 hAl) (wE_var h3 (wApp_o (getA0 hAl) (size_lt (by rw [List.length_map]; omega)) ?_)))))
          rw [setA0 hAl]
          refine ⟨h1, es ++ [_], step _ e, by rw [List.map_append]; rfl⟩
        refine ⟨_, rfl, ?_⟩
        unfold c__law_as_tuples_B0
        refine wS_seq (wS_if (wE_isi (wE_var rfl ⟨_, rfl, ?_⟩)))
        cases d
        case list us =>
          show wB (.d (.bool true)) _ _
          repeat' wp_step
          refine wC_tuple (k := false) (xs := us.map .d) (by rfl) ?_
          refine wM_Tm ?_
          refine seqK_nx ?_
          exact app (d' := .tuple us) rfl rfl rfl ⟨_, rfl⟩
        all_goals
          show wB (.d (.bool false)) _ _
          refine wB_f (wS_nx (seqK_nx ?_))
          exact app rfl rfl rfl ⟨_, rfl⟩
      · obtain ⟨⟨a1, rfl⟩, es, hes, rfl⟩ := hI
        rw [List.take_length] at hes
        repeat' wp_step
        refine wC_tuple (k := false) (asSeq_o (getA0 hAl)) ?_
        repeat' wp_step
        have hF : Flt st (st.set s (srcO a b)) := (Flt.refl st).set (srcO_flat a b)
        refine ⟨cutOk_flt hF, ?_⟩
        rw [take_flt hF]
        refine q _ (fun us hu => ?_) a b
        cases hu
        have h1 := hx ds rfl
        have hl := congrArg List.length hes
        rw [List.length_map, List.length_map] at hl
        refine ⟨by omega, fun d hd vs hv => ?_⟩
        have : seqD d ∈ es.map seqD := List.mem_map.mpr ⟨d, hd, rfl⟩
        rw [hes] at this
        obtain ⟨d2, hd2, e2⟩ := List.mem_map.mp this
        exact h1.2 d2 hd2 vs (by rw [e2]; exact hv)
  all_goals
    refine wS_seq (wS_if (wE_or (wE_not (wE_isi (wE_var rfl ⟨_, rfl, ⟨_, rfl, ?_⟩⟩)))))
    show wB (.d (.bool true)) _ _
    refine wB_t (wB_t (wS_ret (wE_var rfl ?_)))
    exact fin0
end K75
set_option Elab.async false
set_option linter.all false
set_option autoImplicit false
set_option maxRecDepth 100000
set_option maxHeartbeats 2000000
namespace K75
open PySem PySem.Spec PyProof.Rows L2 Sl
local macro_rules | `(tactic| wp_step) => `(tactic| first
  | with_reducible refine wS_seq ?_
  | with_reducible refine seqK_nx ?_
  | with_reducible refine seqK_rt ?_
  | with_reducible refine seqK_bk ?_
  | with_reducible refine seqK_ct ?_
  | with_reducible refine fnQ_nx ?_
  | with_reducible refine fnQ_rt ?_
  | with_reducible refine turn_nx ?_
  | with_reducible refine turn_ct ?_
  | with_reducible refine turn_bk ?_
  | with_reducible refine turn_rt ?_
  | with_reducible refine wS_if ?_
  | with_reducible refine wS_set ?_
  | with_reducible refine wS_asg ?_
  | with_reducible refine wS_ret ?_
  | with_reducible refine wS_drop ?_
  | with_reducible refine wS_nx ?_
  | with_reducible refine wS_bk ?_
  | with_reducible refine wS_ct ?_
  | with_reducible refine wS_forS ?_
  | with_reducible refine wS_for1 ?_
  | with_reducible refine wS_setL ?_
  | with_reducible refine wS_dputK ?_
  | with_reducible refine wE_op ?_
  | with_reducible refine wE_c ?_
  | ((with_reducible apply wE_var); rfl)
  | with_reducible refine wE_call ?_
  | with_reducible refine wE_cb ?_
  | with_reducible refine wE_and ?_
  | with_reducible refine wE_or ?_
  | with_reducible refine wE_not ?_
  | with_reducible refine wE_if ?_
  | with_reducible refine wE_isi ?_
  | with_reducible refine wE_chain ?_
  | with_reducible refine wE_neg ?_
  | with_reducible refine wE_lst ?_
  | with_reducible refine wE_tup ?_
  | with_reducible refine wE_frz ?_
  | with_reducible refine wE_append ?_
  | with_reducible refine wE_sl ?_
  | with_reducible refine wE_rev ?_
  | with_reducible refine wE_dnew ?_
  | with_reducible refine wZ_d ?_
  | ((with_reducible apply isO_o); (first | assumption | exact app_get0 | exact app_get1 | exact app_get2 | exact List.getElem?_set_self (by assumption) | exact List.getElem?_set_self (by rw [List.length_set]; assumption) | (rw [List.getElem?_append_right (Nat.le_refl _), Nat.sub_self]; rfl) | exact getA0 (by assumption) | exact getA1 (by assumption)))
  | ((with_reducible apply wApp_o); (first | assumption | exact app_get0 | exact app_get1 | exact app_get2 | exact List.getElem?_set_self (by assumption) | exact List.getElem?_set_self (by rw [List.length_set]; assumption) | (rw [List.getElem?_append_right (Nat.le_refl _), Nat.sub_self]; rfl) | exact getA0 (by assumption) | exact getA1 (by assumption)))
  | ((with_reducible apply wD_o); (first | assumption | exact app_get0 | exact app_get1 | exact app_get2 | exact List.getElem?_set_self (by assumption) | exact List.getElem?_set_self (by rw [List.length_set]; assumption) | (rw [List.getElem?_append_right (Nat.le_refl _), Nat.sub_self]; rfl) | exact getA0 (by assumption) | exact getA1 (by assumption)))
  | ((with_reducible apply wZ_o); (first | assumption | exact app_get0 | exact app_get1 | exact app_get2 | exact List.getElem?_set_self (by assumption) | exact List.getElem?_set_self (by rw [List.length_set]; assumption) | (rw [List.getElem?_append_right (Nat.le_refl _), Nat.sub_self]; rfl) | exact getA0 (by assumption) | exact getA1 (by assumption)); exact allD_map' _)
  | with_reducible refine wE_rep ?_
  | with_reducible refine wE_sortSet ?_
  | with_reducible refine wE_lenSet ?_
  | with_reducible refine wE_comp1 ?_
  | with_reducible refine wE_compS ?_
  | with_reducible refine wP_none ?_
  | with_reducible refine wP_some ?_
  | with_reducible refine wA_nil ?_
  | with_reducible refine wA_cons ?_
  | with_reducible refine wA_app ?_
  | with_reducible refine wB_t ?_
  | with_reducible refine wB_f ?_
  | with_reducible refine wB_nt ?_
  | with_reducible refine wB_nf ?_
  | with_reducible refine wB_dec (fun _ => ?_) (fun _ => ?_)
  | with_reducible refine wB_not (fun _ => ?_) (fun _ => ?_)
  | with_reducible refine wB_nb (fun _ => ?_) (fun _ => ?_)
  | with_reducible refine wB_b (fun _ => ?_) (fun _ => ?_)
  | with_reducible refine wO_sub ?_
  | ((with_reducible apply wO_inS0); rfl)
  | ((with_reducible apply wO_inS1); rfl)
  | ((with_reducible apply wO_inD0); (first | assumption | exact app_get0 | exact app_get1 | exact app_get2 | exact List.getElem?_set_self (by assumption) | exact List.getElem?_set_self (by rw [List.length_set]; assumption) | (rw [List.getElem?_append_right (Nat.le_refl _), Nat.sub_self]; rfl) | exact getA0 (by assumption) | exact getA1 (by assumption)))
  | ((with_reducible apply wO_inD1); (first | assumption | exact app_get0 | exact app_get1 | exact app_get2 | exact List.getElem?_set_self (by assumption) | exact List.getElem?_set_self (by rw [List.length_set]; assumption) | (rw [List.getElem?_append_right (Nat.le_refl _), Nat.sub_self]; rfl) | exact getA0 (by assumption) | exact getA1 (by assumption)))
  | with_reducible refine wO_lt ?_
  | with_reducible refine wO_le ?_
  | with_reducible refine wO_gt ?_
  | with_reducible refine wO_ge ?_
  | with_reducible refine wO_add ?_
  | with_reducible refine wO_eqI ?_
  | with_reducible refine wO_neI ?_
  | with_reducible refine wO_isN ?_
  | with_reducible refine wO_notN ?_
  | with_reducible refine wC_lenL ?_
  | with_reducible refine wC_lenT ?_
  | with_reducible refine wC_int ?_
  | ((with_reducible apply wC_lenD); (first | assumption | exact app_get0 | exact app_get1 | exact app_get2 | exact List.getElem?_set_self (by assumption) | exact List.getElem?_set_self (by rw [List.length_set]; assumption) | (rw [List.getElem?_append_right (Nat.le_refl _), Nat.sub_self]; rfl) | exact getA0 (by assumption) | exact getA1 (by assumption)))
  | with_reducible refine wC_abs ?_
  | with_reducible refine wM_N ?_
  | with_reducible refine wM_Dm ?_
  | with_reducible refine wM_Tm ?_
  | ((with_reducible apply wM_T); rfl)
  | ((with_reducible apply wM_D); rfl)
  | (with_reducible refine Exists.intro _ (And.intro rfl ?_))
  | (with_reducible refine And.intro rfl ?_)
  | ((with_reducible refine And.intro (size_small ?_) ?_); rfl)
  | with_reducible refine wO_pow6 ?_
  | ((with_reducible refine wO_mulR ?_ ?_); decide)
  | ((with_reducible refine wO_mulL ?_ ?_); decide)
  | ((with_reducible refine wO_mod ?_ ?_); omega)
  | ((with_reducible refine wO_div ?_ ?_ ?_); omega; omega)
  | ((with_reducible apply wU_o); (first | assumption | exact app_get0 | exact app_get1 | exact app_get2 | exact List.getElem?_set_self (by assumption) | exact List.getElem?_set_self (by rw [List.length_set]; assumption) | (rw [List.getElem?_append_right (Nat.le_refl _), Nat.sub_self]; rfl) | exact getA0 (by assumption) | exact getA1 (by assumption)); rfl)
  | ((with_reducible apply wO_ixZ); (apply asSeq_o; (first | assumption | exact app_get0 | exact app_get1 | exact app_get2 | exact List.getElem?_set_self (by assumption) | exact List.getElem?_set_self (by rw [List.length_set]; assumption) | (rw [List.getElem?_append_right (Nat.le_refl _), Nat.sub_self]; rfl) | exact getA0 (by assumption) | exact getA1 (by assumption))); rfl))
def MOk (ds : List PyData) : Prop := ∀ d ∈ ds, ∀ es, seqD d = some es → es.length ≤ 24
theorem MOk.app {a b : List PyData} (h1 : MOk a) (h2 : MOk b) : MOk (a ++ b) := fun d hd => by
  rcases List.mem_append.mp hd with hd | hd
  · exact h1 d hd
  · exact h2 d hd
theorem MOk.cut {a : List PyData} (h : MOk a) (lo hi : Option Int) : MOk (cutG a lo hi) := fun d hd => h d (cutG_mem hd)
theorem MOk.one {d : PyData} (h : ∀ es, seqD d = some es → es.length ≤ 24) : MOk [d] := fun e he => by
  rw [List.mem_singleton] at he
  subst he
  exact h
theorem MOk.rows {ps : List (List Int)} (h : RowsLe ps) : MOk (ps.map rowL) := fun d hd es he => by
  obtain ⟨r, hr, rfl⟩ := List.mem_map.mp hd
  cases he
  rw [List.length_map]
  have := h.2 r hr
  omega
def oddL : List PyData := [.none, .int 7, .bool true, .str (Str.ofString ""), .str (Str.ofString "0"), .tuple [], .list [.tuple []], .list [.none], .list [.int 0], .list [.list [.list [.int 0]]], .list [.list [.str (Str.ofString "0")]], .tuple [.tuple [.int 0, .bool true]]]
theorem oddL_ok : ∀ d ∈ oddL, pOk d = true := by
  intro d hd
  unfold oddL at hd
  simp only [List.mem_cons, List.not_mem_nil, or_false] at hd
  rcases hd with rfl | rfl | rfl | rfl | rfl | rfl | rfl | rfl | rfl | rfl | rfl | rfl <;> rfl
theorem ixRZ {R : List Int} {st : Sto} {i : Int} (h0 : 0 ≤ i) (h : i < R.length) {Q : VL → Sto → Prop} (q : ∀ z : Int, Q (.d (.int z)) st) : wO oIx st (.d (rowL R)) (.d (.int i)) Q := by
  refine wO_ixZ (k := false) (xs := (R.map PyData.int).map .d) rfl (z := .d (.int (R[i.toNat]'(by omega)))) ?_ (q _)
  rw [atI_int _ h0, List.getElem?_map, List.getElem?_map, List.getElem?_eq_getElem (by omega)]
  rfl
def bE (s : Nat) (ps : List (List Int)) (n : Nat) (kind k : Int) (p : List Int) (at' num : Int) (be : List PyData) : Sl.Env :=
  [some (.o s), some (.d (.list (ps.map rowL))), some (.d (.int (n : Int))), some (.d (.int kind)), some (.d (.int k)), some (.d (rowL p)), some (.d (.int at')), some (.d (.int num)), some (.d (.list be))]
def BP (s : Nat) (ps : List (List Int)) (n : Nat) (kind k : Int) (p : List Int) (at' num : Int) (st : Sto) (o : Fl) : Prop := ∃ be : List PyData, be.length ≤ 24 ∧ o = .nx (bE s ps n kind k p at' num be) st
theorem l_bent_wp {st : Sto} {s : Nat} (hs : Src st s) {ps : List (List Int)} (hp : RowsLe ps) {n : Nat} (hn : n ≤ 10) {Q : VL → Sto → Prop} (q : ∀ y, PaperOk y → ∀ a b, Q (.d y) (st.set s (srcO a b))) :
    wF m__law_bent [.o s, .d (.list (ps.map rowL)), .d (.int n)] st Q := by
  have hpl : (ps.map rowL).length ≤ 10 := by rw [List.length_map]; exact hp.1
  have hpm := MOk.rows hp
  have hp1 := hp.1
  refine wF_run ?_
  unfold c__law_bent
  repeat' wp_step
  refine l_draw_wp hs (by decide) (by decide) fun kind a1 b1 _ _ => ?_
  repeat' wp_step
  · refine draw_0 hs (by decide) (by decide) fun r a b k0 k1 => ?_
    have hr : r.toNat < oddL.length := (show r.toNat < 12 by omega)
    refine wO_ixZ (k := false) (xs := oddL.map .d) rfl (z := .d oddL[r.toNat]) ?_ ?_
    · rw [atI_int _ k0, List.getElem?_map, List.getElem?_eq_getElem hr]
      rfl
    · repeat' wp_step
      exact q _ (pOk_ok (oddL_ok _ (List.getElem_mem hr))) a b
  · exact q _ (LOk.paper ⟨by omega, hpm⟩) _ _
  · exact q _ (LOk.paper ⟨by omega, hpm⟩) _ _
  · rename_i h13 h5 h0
    rw [List.length_map] at h0
    refine draw_0 hs (by rw [List.length_map]; omega) (by omega) fun k a2 b2 k0 k1 => ?_
    rw [List.length_map] at k1
    have hk : k.toNat < ps.length := by omega
    have hgk : (ps.map rowL)[k.toNat]? = some (rowL ps[k.toNat]) := by
      rw [List.getElem?_map, List.getElem?_eq_getElem hk]
      rfl
    have hpk : ps[k.toNat].length ≤ 10 := hp.2 _ (List.getElem_mem hk)
    repeat' wp_step
    refine wO_ixZ (k := false) (xs := (ps.map rowL).map .d) rfl (z := .d (rowL ps[k.toNat])) ?_ ?_
    · rw [atI_int _ k0, List.getElem?_map, hgk]
      rfl
    · generalize hpe : ps[k.toNat] = p at hpk
      repeat' wp_step
      refine lenR ?_
      repeat' wp_step
      · refine wO_addD (size_le (by simp; omega)) ?_
        repeat' wp_step
        exact q _ (LOk.paper ⟨by rw [List.length_append]; simp at hpl ⊢; omega, hpm.app (MOk.one fun es he => by cases he; decide)⟩) _ _
      · rename_i hp0
        refine lenR ?_
        repeat' wp_step
        refine draw_0 hs (by omega) (by omega) fun at' a3 b3 at0 at1 => ?_
        repeat' wp_step
        refine draw_0 hs (by omega) (by omega) fun num a4 b4 _ _ => ?_
        have c1 := fun lo hi => cutG_len (ps.map rowL) lo hi
        have c2 := fun lo hi => cutG_len (p.map PyData.int) lo hi
        rw [List.length_map] at c2
        repeat' wp_step
        · refine slD ?_
          repeat' wp_step
          refine slD ?_
          have d1 := c1 none (some k)
          have d2 := c1 (some (k + 1)) none
          refine wO_addD (size_le (by omega)) ?_
          repeat' wp_step
          exact q _ (LOk.paper ⟨by rw [List.length_append]; omega, (hpm.cut _ _).app (hpm.cut _ _)⟩) _ _
        · refine wO_addD (size_le (by simp at hpl ⊢; omega)) ?_
          repeat' wp_step
          exact q _ (LOk.paper ⟨by rw [List.length_append]; simp at hpl ⊢; omega, hpm.app (MOk.one fun es he => by cases he; rw [List.length_map]; omega)⟩) _ _
        · refine slD ?_
          repeat' wp_step
          refine slD ?_
          have d1 := c1 none (some k)
          have d2 := c1 (some (k + 1)) (some (k + 2))
          have d3 := c1 (some (k + 2)) none
          refine wO_addD (size_le (by omega)) ?_
          repeat' wp_step
          refine wO_addD (size_le (by rw [List.length_append]; simp; omega)) ?_
          repeat' wp_step
          refine slD ?_
          refine wO_addD (size_le (by rw [List.length_append, List.length_append]; simp; omega)) ?_
          repeat' wp_step
          refine q _ (LOk.paper ⟨by rw [List.length_append, List.length_append, List.length_append]; simp; omega, (((hpm.cut _ _).app (hpm.cut _ _)).app (MOk.one fun es he => ?_)).app (hpm.cut _ _)⟩) _ _
          cases he
          rw [List.length_map]
          omega
        · refine slD (ds := p.map .int) ?_
          repeat' wp_step
          refine slD (ds := p.map .int) ?_
          have d1 := c2 none (some at')
          have d2 := c2 (some (at' + 1)) none
          refine wO_addD (size_le (by omega)) ?_
          refine seqK_nx ?_
          have hb0 : (cutG (p.map PyData.int) none (some at') ++ cutG (p.map PyData.int) (some (at' + 1)) none).length ≤ 24 := by
            rw [List.length_append]
            omega
          generalize cutG (p.map PyData.int) none (some at') ++ cutG (p.map PyData.int) (some (at' + 1)) none = be0 at hb0
          show wS _ (bE s ps n kind k p at' (num - 1) be0) _ _
          -- sorted, with one more
          refine wS_seq (wS.mono (R := BP s ps n kind k p at' (num - 1) (st.set s (srcO a4 b4))) ?_ ?_)
          · repeat' wp_step
            · refine wO_addD (size_le (by simp; omega)) ?_
              rw [show p.map PyData.int ++ [PyData.int (num - 1)] = (p ++ [num - 1]).map PyData.int by rw [List.map_append]; rfl]
              repeat' wp_step
              refine wC_sorted rfl ?_
              repeat' wp_step
              exact ⟨_, by rw [List.length_map, sortI_len, List.length_append]; simp; omega, rfl⟩
            · exact ⟨_, hb0, rfl⟩
          · rintro _ ⟨be1, hb1, rfl⟩
            refine seqK_nx ?_
            -- turned round
            refine wS_seq (wS.mono (R := BP s ps n kind k p at' (num - 1) (st.set s (srcO a4 b4))) ?_ ?_)
            · repeat' wp_step
              · rw [← List.map_reverse]
                repeat' wp_step
                exact ⟨_, by rw [List.length_reverse, List.length_map]; omega, rfl⟩
              · exact ⟨_, hb1, rfl⟩
            · rintro _ ⟨be2, hb2, rfl⟩
              refine seqK_nx ?_
              -- a boolean
              refine wS_seq (wS.mono (R := BP s ps n kind k p at' (num - 1) (st.set s (srcO a4 b4))) ?_ ?_)
              · repeat' wp_step
                · refine slD (ds := p.map .int) ?_
                  repeat' wp_step
                  refine ixRZ at0 (by omega) fun z => ?_
                  repeat' wp_step
                  refine wO_addD (size_le (by simp; omega)) ?_
                  repeat' wp_step
                  refine slD (ds := p.map .int) ?_
                  refine wO_addD (size_le (by rw [List.length_append]; simp; omega)) ?_
                  repeat' wp_step
                  exact ⟨_, by rw [List.length_append, List.length_append]; simp; omega, rfl⟩
                · exact ⟨_, hb2, rfl⟩
              · rintro _ ⟨be3, hb3, rfl⟩
                refine seqK_nx ?_
                -- another number
                refine wS_seq (wS.mono (R := BP s ps n kind k p at' (num - 1) (st.set s (srcO a4 b4))) ?_ ?_)
                · repeat' wp_step
                  · refine slD (ds := p.map .int) ?_
                    repeat' wp_step
                    refine wO_addD (size_le (by simp; omega)) ?_
                    repeat' wp_step
                    refine slD (ds := p.map .int) ?_
                    refine wO_addD (size_le (by rw [List.length_append]; simp; omega)) ?_
                    repeat' wp_step
                    exact ⟨_, by rw [List.length_append, List.length_append]; simp; omega, rfl⟩
                  · exact ⟨_, hb3, rfl⟩
                · rintro _ ⟨be4, hb4, rfl⟩
                  refine seqK_nx ?_
                  have d3 := c1 none (some k)
                  have d4 := c1 (some (k + 1)) none
                  repeat' wp_step
                  refine slD ?_
                  repeat' wp_step
                  refine wO_addD (size_le (by simp; omega)) ?_
                  repeat' wp_step
                  refine slD ?_
                  refine wO_addD (size_le (by rw [List.length_append]; simp; omega)) ?_
                  repeat' wp_step
                  refine q _ (LOk.paper ⟨by rw [List.length_append, List.length_append]; simp; omega, ((hpm.cut _ _).app (MOk.one fun es he => ?_)).app (hpm.cut _ _)⟩) _ _
                  cases he
                  exact hb4
end K75
set_option Elab.async false
set_option linter.all false
set_option autoImplicit false
set_option maxRecDepth 100000
set_option maxHeartbeats 1000000
namespace K75
open PySem PySem.Spec PyProof.Rows L2 Sl
local macro_rules | `(tactic| wp_step) => `(tactic| first
  | with_reducible refine wS_seq ?_
  | with_reducible refine seqK_nx ?_
  | with_reducible refine seqK_rt ?_
  | with_reducible refine seqK_bk ?_
  | with_reducible refine seqK_ct ?_
  | with_reducible refine fnQ_nx ?_
  | with_reducible refine fnQ_rt ?_
  | with_reducible refine turn_nx ?_
  | with_reducible refine turn_ct ?_
  | with_reducible refine turn_bk ?_
  | with_reducible refine turn_rt ?_
  | with_reducible refine wS_if ?_
  | with_reducible refine wS_set ?_
  | with_reducible refine wS_asg ?_
  | with_reducible refine wS_ret ?_
  | with_reducible refine wS_drop ?_
  | with_reducible refine wS_nx ?_
  | with_reducible refine wS_bk ?_
  | with_reducible refine wS_ct ?_
  | with_reducible refine wS_forS ?_
  | with_reducible refine wS_for1 ?_
  | with_reducible refine wS_setL ?_
  | with_reducible refine wS_dputK ?_
  | with_reducible refine wE_op ?_
  | with_reducible refine wE_c ?_
  | ((with_reducible apply wE_var); rfl)
  | with_reducible refine wE_call ?_
  | with_reducible refine wE_cb ?_
  | with_reducible refine wE_and ?_
  | with_reducible refine wE_or ?_
  | with_reducible refine wE_not ?_
  | with_reducible refine wE_if ?_
  | with_reducible refine wE_isi ?_
  | with_reducible refine wE_chain ?_
  | with_reducible refine wE_neg ?_
  | with_reducible refine wE_lst ?_
  | with_reducible refine wE_tup ?_
  | with_reducible refine wE_frz ?_
  | with_reducible refine wE_append ?_
  | with_reducible refine wE_sl ?_
  | with_reducible refine wE_rev ?_
  | with_reducible refine wE_dnew ?_
  | with_reducible refine wZ_d ?_
  | ((with_reducible apply isO_o); (first | assumption | exact app_get0 | exact app_get1 | exact app_get2 | exact List.getElem?_set_self (by assumption) | exact List.getElem?_set_self (by rw [List.length_set]; assumption) | (rw [List.getElem?_append_right (Nat.le_refl _), Nat.sub_self]; rfl) | exact getA0 (by assumption) | exact getA1 (by assumption)))
  | ((with_reducible apply wApp_o); (first | assumption | exact app_get0 | exact app_get1 | exact app_get2 | exact List.getElem?_set_self (by assumption) | exact List.getElem?_set_self (by rw [List.length_set]; assumption) | (rw [List.getElem?_append_right (Nat.le_refl _), Nat.sub_self]; rfl) | exact getA0 (by assumption) | exact getA1 (by assumption)))
  | ((with_reducible apply wD_o); (first | assumption | exact app_get0 | exact app_get1 | exact app_get2 | exact List.getElem?_set_self (by assumption) | exact List.getElem?_set_self (by rw [List.length_set]; assumption) | (rw [List.getElem?_append_right (Nat.le_refl _), Nat.sub_self]; rfl) | exact getA0 (by assumption) | exact getA1 (by assumption)))
  | ((with_reducible apply wZ_o); (first | assumption | exact app_get0 | exact app_get1 | exact app_get2 | exact List.getElem?_set_self (by assumption) | exact List.getElem?_set_self (by rw [List.length_set]; assumption) | (rw [List.getElem?_append_right (Nat.le_refl _), Nat.sub_self]; rfl) | exact getA0 (by assumption) | exact getA1 (by assumption)); exact allD_map' _)
  | with_reducible refine wE_rep ?_
  | with_reducible refine wE_sortSet ?_
  | with_reducible refine wE_lenSet ?_
  | with_reducible refine wE_comp1 ?_
  | with_reducible refine wE_compS ?_
  | with_reducible refine wP_none ?_
  | with_reducible refine wP_some ?_
  | with_reducible refine wA_nil ?_
  | with_reducible refine wA_cons ?_
  | with_reducible refine wA_app ?_
  | with_reducible refine wB_t ?_
  | with_reducible refine wB_f ?_
  | with_reducible refine wB_nt ?_
  | with_reducible refine wB_nf ?_
  | with_reducible refine wB_dec (fun _ => ?_) (fun _ => ?_)
  | with_reducible refine wB_not (fun _ => ?_) (fun _ => ?_)
  | with_reducible refine wB_nb (fun _ => ?_) (fun _ => ?_)
  | with_reducible refine wB_b (fun _ => ?_) (fun _ => ?_)
  | with_reducible refine wO_sub ?_
  | ((with_reducible apply wO_inS0); rfl)
  | ((with_reducible apply wO_inS1); rfl)
  | ((with_reducible apply wO_inD0); (first | assumption | exact app_get0 | exact app_get1 | exact app_get2 | exact List.getElem?_set_self (by assumption) | exact List.getElem?_set_self (by rw [List.length_set]; assumption) | (rw [List.getElem?_append_right (Nat.le_refl _), Nat.sub_self]; rfl) | exact getA0 (by assumption) | exact getA1 (by assumption)))
  | ((with_reducible apply wO_inD1); (first | assumption | exact app_get0 | exact app_get1 | exact app_get2 | exact List.getElem?_set_self (by assumption) | exact List.getElem?_set_self (by rw [List.length_set]; assumption) | (rw [List.getElem?_append_right (Nat.le_refl _), Nat.sub_self]; rfl) | exact getA0 (by assumption) | exact getA1 (by assumption)))
  | with_reducible refine wO_lt ?_
  | with_reducible refine wO_le ?_
  | with_reducible refine wO_gt ?_
  | with_reducible refine wO_ge ?_
  | with_reducible refine wO_add ?_
  | with_reducible refine wO_eqI ?_
  | with_reducible refine wO_neI ?_
  | with_reducible refine wO_isN ?_
  | with_reducible refine wO_notN ?_
  | with_reducible refine wC_lenL ?_
  | with_reducible refine wC_lenT ?_
  | with_reducible refine wC_int ?_
  | ((with_reducible apply wC_lenD); (first | assumption | exact app_get0 | exact app_get1 | exact app_get2 | exact List.getElem?_set_self (by assumption) | exact List.getElem?_set_self (by rw [List.length_set]; assumption) | (rw [List.getElem?_append_right (Nat.le_refl _), Nat.sub_self]; rfl) | exact getA0 (by assumption) | exact getA1 (by assumption)))
  | with_reducible refine wC_abs ?_
  | with_reducible refine wM_N ?_
  | with_reducible refine wM_Dm ?_
  | with_reducible refine wM_Tm ?_
  | ((with_reducible apply wM_T); rfl)
  | ((with_reducible apply wM_D); rfl)
  | (with_reducible refine Exists.intro _ (And.intro rfl ?_))
  | (with_reducible refine And.intro rfl ?_)
  | ((with_reducible refine And.intro (size_small ?_) ?_); rfl)
  | with_reducible refine wO_pow6 ?_
  | ((with_reducible refine wO_mulR ?_ ?_); decide)
  | ((with_reducible refine wO_mulL ?_ ?_); decide)
  | ((with_reducible refine wO_mod ?_ ?_); omega)
  | ((with_reducible refine wO_div ?_ ?_ ?_); omega; omega)
  | ((with_reducible apply wU_o); (first | assumption | exact app_get0 | exact app_get1 | exact app_get2 | exact List.getElem?_set_self (by assumption) | exact List.getElem?_set_self (by rw [List.length_set]; assumption) | (rw [List.getElem?_append_right (Nat.le_refl _), Nat.sub_self]; rfl) | exact getA0 (by assumption) | exact getA1 (by assumption)); rfl)
  | ((with_reducible apply wO_ixZ); (apply asSeq_o; (first | assumption | exact app_get0 | exact app_get1 | exact app_get2 | exact List.getElem?_set_self (by assumption) | exact List.getElem?_set_self (by rw [List.length_set]; assumption) | (rw [List.getElem?_append_right (Nat.le_refl _), Nat.sub_self]; rfl) | exact getA0 (by assumption) | exact getA1 (by assumption))); rfl))
/-! ### the drawn table -/
def rkO (o : List Nat) (x : Int) : Nat := o.idxOf x.toNat
/-- the rows drawn so far: of the first i tasks of the order -/
structure Rws (o : List Nat) (i : Nat) (R : List (List Int)) : Prop where
  len : R.length = o.length
  rise : ∀ r ∈ R, r.Pairwise (· < ·)
  rng : ∀ r ∈ R, ∀ x ∈ r, 0 ≤ x ∧ x < o.length
  rk : ∀ x y : Int, y ∈ at_ R x → rkO o y < rkO o x
  emp : ∀ j x : Nat, i ≤ j → o[j]? = some x → at_ R x = []
theorem Rws.tab {o : List Nat} {i : Nat} {R : List (List Int)} (h : Rws o i R) (ho : o.length ≤ 10) : Tab R where
  len := by rw [h.len]; exact ho
  rise := h.rise
  rng := by rw [h.len]; exact h.rng
  acy := ⟨rkO o, fun x => by rw [h.len]; exact List.idxOf_le_length, h.rk⟩
theorem idx_at {o : List Nat} (hn : o.Nodup) {k x : Nat} (h : o[k]? = some x) : o.idxOf x = k := by
  obtain ⟨hk, e⟩ := List.getElem?_eq_some_iff.mp h
  rw [← e]
  exact hn.idxOf_getElem k hk
theorem Rws.step {o : List Nat} (hn : o.Nodup) (hr : ∀ x ∈ o, x < o.length) {i : Nat} {R : List (List Int)} (h : Rws o i R) {x : Nat} (hx : o[i]? = some x) {r : List Int} (h1 : r.Pairwise (· < ·)) (h2 : ∀ y ∈ r, ∃ k z : Nat, k < i ∧ o[k]? = some z ∧ y = (z : Int)) :
    Rws o (i + 1) (R.set x r) where
  len := by rw [List.length_set, h.len]
  rise := fun s hs => by
    rcases List.mem_or_eq_of_mem_set hs with hs | rfl
    · exact h.rise s hs
    · exact h1
  rng := fun s hs y hy => by
    rcases List.mem_or_eq_of_mem_set hs with hs | rfl
    · exact h.rng s hs y hy
    · obtain ⟨k, z, _, hz, rfl⟩ := h2 y hy
      have := hr z (List.mem_of_getElem? hz)
      omega
  rk := fun u y hy => by
    by_cases hu : u.toNat = x
    · have e : at_ (R.set x r) u = r := by
        unfold at_
        rw [hu, List.getElem?_set_self (by rw [h.len]; exact hr x (List.mem_of_getElem? hx))]
        rfl
      rw [e] at hy
      obtain ⟨k, z, hk, hz, rfl⟩ := h2 y hy
      unfold rkO
      rw [hu, Int.toNat_natCast, idx_at hn hz, idx_at hn hx]
      exact hk
    · have e : at_ (R.set x r) u = at_ R u := by
        unfold at_
        rw [List.getElem?_set_ne (fun k => hu k.symm)]
      rw [e] at hy
      exact h.rk u y hy
  emp := fun j y hj hy => by
    have hne : x ≠ y := fun e => by
      subst e
      have a := idx_at hn hx
      have b := idx_at hn hy
      omega
    have e : at_ (R.set x r) (y : Int) = at_ R (y : Int) := by
      unfold at_
      rw [Int.toNat_natCast, List.getElem?_set_ne hne]
    rw [e]
    exact h.emp j y (by omega) hy
theorem pairD_map (ps : List (Int × Int)) : ps.map Sl.pairD = (ps.map pairP).map VL.d := by
  rw [List.map_map]
  rfl
theorem l_table_wp {ns : List Int} {st : Sto} {Q : VL → Sto → Prop} (q : ∀ T, Tab T → Q (.d (tbL T)) st) : wF m__law_table [.d (.list (ns.map .int)), .d (.int 1), .d (.int 10)] st Q := by
  refine wF_cut (wF_run ?_)
  unfold c__law_table
  repeat' wp_step
  refine l_source_wp (by decide) fun a0 b0 => ?_
  have sB : ∀ a b, Src (st ++ [srcO a b]) st.length := fun a b => ⟨a, b, app_get0⟩
  have dB : ∀ {a b : Int} {n : Int} {Q' : VL → Sto → Prop}, 0 < n → n < 1073741824 → (∀ r a' b' : Int, 0 ≤ r → r < n → Q' (.d (.int r)) (st ++ [srcO a' b'])) → wF m__law_draw [.o st.length, .d (.int n)] (st ++ [srcO a b]) Q' := fun h0 h1 q' =>
    l_draw_wp (sB _ _) h0 h1 fun r a' b' k0 k1 => by rw [app_set0]; exact q' r a' b' k0 k1
  repeat' wp_step
  refine dB (by decide) (by decide) fun c a1 b1 c0 c1 => ?_
  obtain ⟨n, rfl⟩ := Int.eq_ofNat_of_zero_le c0
  have hn10 : n ≤ 10 := by omega
  have h62 : n < 2 ^ 62 := Nat.lt_of_le_of_lt hn10 (by decide)
  repeat' wp_step
  refine ⟨h62, ?_⟩
  obtain ⟨ys, st', hc, ⟨ps, a2, b2, rfl, hps, rfl⟩⟩ := compL_ix (g := gN 10) (t := eC (.bool true)) (e := c__law_table_E4) (env := wipeE ((List.set (fEnv 13 [.d (.list (ns.map .int)), .d (.int 1), .d (.int 10)]) 3 (some (.o st.length))).set 4 (some (.d (.int (n : Int))))) [10])
    (v := fun (i : Nat) => VL.d (.int (i : Int))) (fun i acc st' => ∃ ps : List (Int × Int), ∃ a b, acc = ps.map Sl.pairD ∧ ps.map (·.2) = zO (List.range i) ∧ st' = st ++ [srcO a b]) (List.range n) (st ++ [srcO a1 b1]) (by rw [List.length_range]; exact size_le (by omega)) ⟨[], a1, b1, rfl, rfl, rfl⟩ (fun i x acc st' hx hI => by
      obtain ⟨ps, a, b, rfl, hp, rfl⟩ := hI
      obtain ⟨hi, e⟩ := List.getElem?_eq_some_iff.mp hx
      rw [List.getElem_range] at e
      subst e
      refine ⟨_, rfl, ?_⟩
      refine wE_c (wB_t ?_)
      unfold c__law_table_E4
      repeat' wp_step
      refine dB (by decide) (by decide) fun r a b _ _ => ?_
      repeat' wp_step
      refine ⟨ps ++ [(r, (i : Int))], a, b, by rw [List.map_append]; rfl, ?_, rfl⟩
      rw [List.map_append, hp, List.range_succ]
      unfold zO
      rw [List.map_append]
      rfl)
  refine ⟨ps.map Sl.pairD, _, hc, ?_⟩
  rw [List.length_range] at hps
  rw [pairD_map]
  repeat' wp_step
  refine wC_sortedP (ps := ps) (by rw [pairD_map]; rfl) ?_
  rw [pairD_map]
  repeat' wp_step
  have hpl : ps.length = n := by
    have := congrArg List.length hps
    unfold zO at this
    rwa [List.length_map, List.length_map, List.length_range] at this
  have hso := sortP_perm ps
  obtain ⟨o, ho⟩ : ∃ o : List Nat, (sortP ps).map (·.2) = zO o := by
    have : ∀ x ∈ (sortP ps).map (·.2), ∃ m : Nat, x = (m : Int) := fun x hx => by
      have h1 := (hso.map (·.2)).mem_iff.mp hx
      rw [hps] at h1
      obtain ⟨m, _, rfl⟩ := List.mem_map.mp h1
      exact ⟨m, rfl⟩
    refine ⟨((sortP ps).map (·.2)).map Int.toNat, ?_⟩
    unfold zO
    rw [List.map_map]
    refine (List.map_id _).symm.trans (List.map_congr_left fun x hx => ?_)
    obtain ⟨m, rfl⟩ := this x hx
    simp
  have hperm : o.Perm (List.range n) := by
    have h1 := hso.map (·.2)
    rw [ho, hps] at h1
    have h2 := h1.map Int.toNat
    unfold zO at h2
    rw [List.map_map, List.map_map] at h2
    have e : ∀ l : List Nat, l.map (Int.toNat ∘ fun (x : Nat) => (x : Int)) = l := fun l => by
      refine (List.map_congr_left fun x _ => ?_).trans (List.map_id l)
      simp
    rwa [e, e] at h2
  have hol : o.length = n := by rw [hperm.length_eq, List.length_range]
  have hon : o.Nodup := hperm.nodup_iff.mpr List.nodup_range
  have hor : ∀ x ∈ o, x < o.length := fun x hx => by
    rw [hol]
    exact List.mem_range.mp (hperm.mem_iff.mp hx)
  refine ⟨(sortP ps).map pairP, .inl rfl, ?_⟩
  rw [← pairD_map]
  refine ⟨_, _, comp_pure (v := Sl.pairD) (fun _ => true) (fun p => VL.d (.int p.2)) (size_le (by rw [hso.length_eq]; omega)) (fun p hp => ?_), ?_⟩
  · refine ⟨_, rfl, ?_, fun _ => ?_⟩
    · exact ⟨_, _, rfl, rfl, rfl⟩
    · unfold c__law_table_E5
      refine wE_op (wE_var rfl (wE_c ?_))
      exact wO_ix (i := 1) (k := false) (xs := [.d (.int p.1), .d (.int p.2)]) rfl (z := .d (.int p.2)) rfl ⟨rfl, rfl⟩
  · have e1 : ((sortP ps).filter fun _ => true).map (fun p => VL.d (.int p.2)) = (natD o).map .d := by
      rw [filt_true]
      unfold natD
      rw [← ho, List.map_map, List.map_map]
      rfl
    rw [e1]
    repeat' wp_step
    refine dB (by decide) (by decide) fun f a3 b3 f0 f1 => ?_
    have hof : ∃ w : Int, atI [VL.d (.int 0), VL.d (.int 1), VL.d (.int 2), VL.d (.int 4)] f = some (.d (.int w)) := by
      rw [atI_int _ f0]
      have : f.toNat < 4 := by omega
      match h : f.toNat, this with
      | 0, _ => exact ⟨0, rfl⟩
      | 1, _ => exact ⟨1, rfl⟩
      | 2, _ => exact ⟨2, rfl⟩
      | 3, _ => exact ⟨4, rfl⟩
    obtain ⟨w, hw⟩ := hof
    refine wO_ixZ (k := false) rfl hw ?_
    repeat' wp_step
    refine ⟨h62, _, _, comp_pure (v := fun (i : Nat) => VL.d (.int (i : Int))) (fun _ => true) (fun _ => VL.d (rowL [])) (by rw [List.length_range]; exact size_le (by omega)) (fun x hx => ?_), ?_⟩
    · refine ⟨_, rfl, ?_, fun _ => ?_⟩
      · exact ⟨_, _, rfl, rfl, rfl⟩
      · unfold c__law_table_E3
        repeat' wp_step
        exact rfl
    · have e2 : ((List.range n).filter fun _ => true).map (fun _ => VL.d (rowL [])) = ((List.replicate n ([] : List Int)).map rowL).map VL.d := by
        rw [filt_true, List.map_replicate, List.map_replicate]
        refine List.eq_replicate_iff.mpr ⟨by rw [List.length_map, List.length_range], fun b hb => ?_⟩
        obtain ⟨_, _, rfl⟩ := List.mem_map.mp hb
        rfl
      rw [e2]
      repeat' wp_step
      have e3 : (st ++ [srcO a3 b3]).length = st.length + 1 := by rw [List.length_append]; rfl
      have e4 : ∀ x : Ob, st ++ [srcO a3 b3] ++ [x] = st ++ [srcO a3 b3, x] := fun x => by rw [List.append_assoc]; rfl
      rw [e3, e4]
      refine ⟨h62, wL_rg (fun i env st' => (∃ a b c d e, env = [some (.d (.list (ns.map .int))), some (.d (.int 1)), some (.d (.int 10)), some (.o st.length), some (.d (.int (n : Int))), some (.d (.list (natD o))), some (.d (.int w)), some (.o (st.length + 1)), a, b, c, d, e]) ∧ ∃ R, Rws o i R ∧ st' = st ++ [srcO a3 b3, .lst ((R.map rowL).map .d)])
        ⟨⟨_, _, _, _, _, rfl⟩, List.replicate n [], ⟨by rw [List.length_replicate, hol], fun r hr => ?_, fun r hr x hx => ?_, fun x y hy => ?_, fun j x _ _ => at_repl n x⟩, rfl⟩ (fun i env st' hi hI => ?_) (fun env st' hI => ?_)⟩
      · rw [List.mem_replicate] at hr
        rw [hr.2]
        exact List.Pairwise.nil
      · rw [List.mem_replicate] at hr
        rw [hr.2] at hx
        cases hx
      · rw [at_repl] at hy
        cases hy
      · obtain ⟨⟨a4, b4, c4, d4, e5, rfl⟩, R, hR, rfl⟩ := hI
        have hio : i < o.length := by omega
        have hoi : o[i]? = some o[i] := List.getElem?_eq_getElem hio
        have oix : ∀ {S : Sto} {k x : Nat} {Q' : VL → Sto → Prop}, o[k]? = some x → Q' (.d (.int (x : Int))) S → wO oIx S (.d (.list (natD o))) (.d (.int (k : Int))) Q' := fun h q' => by
          refine wO_ix (k := false) (xs := (natD o).map .d) rfl (z := .d (.int _)) ?_ q'
          rw [natD_map, List.getElem?_map, h]
          rfl
        refine ⟨_, rfl, wS_cut ?_⟩
        unfold c__law_table_B2
        repeat' wp_step
        refine l_source_wp (by omega) fun a b => ?_
        have e6 : (st ++ [srcO a3 b3, Ob.lst ((R.map rowL).map VL.d)]).length = st.length + 2 := by rw [List.length_append]; rfl
        have e7 : ∀ x y z : Ob, st ++ [x, y] ++ [z] = st ++ [x, y, z] := fun x y z => by rw [List.append_assoc]; rfl
        rw [e6, e7]
        repeat' wp_step
        obtain ⟨ys, st', hc, ⟨ls, a5, b5, rfl, hln, hlo, rfl⟩⟩ := compL_ix (g := gN 12) (t := c__law_table_T0) (e := c__law_table_E1)
          (env := wipeE (([some (.d (.list (ns.map .int))), some (.d (.int 1)), some (.d (.int 10)), some (.o st.length), some (.d (.int (n : Int))), some (.d (.list (natD o))), some (.d (.int w)), some (.o (st.length + 1)), a4, b4, c4, d4, e5].set 8 (some (.d (.int (i : Int))))).set 9 (some (.o (st.length + 2)))) [12])
          (v := fun (i : Nat) => VL.d (.int (i : Int))) (fun k acc st' => ∃ ls : List Int, ∃ a b, acc = (ls.map .int).map .d ∧ ls.Nodup ∧ (∀ y ∈ ls, ∃ k' z : Nat, k' < k ∧ o[k']? = some z ∧ y = (z : Int)) ∧ st' = st ++ [srcO a3 b3, .lst ((R.map rowL).map .d), srcO a b])
          (List.range i) (st ++ [srcO a3 b3, .lst ((R.map rowL).map .d), srcO a b]) (by rw [List.length_range]; exact size_le (by omega)) ⟨[], a, b, rfl, List.nodup_nil, (fun y hy => by cases hy), rfl⟩ (fun k x acc st' hx hI => by
            obtain ⟨ls, a5, b5, rfl, hln, hlo, rfl⟩ := hI
            obtain ⟨hk, e⟩ := List.getElem?_eq_some_iff.mp hx
            rw [List.length_range] at hk
            rw [List.getElem_range] at e
            subst e
            have hok : o[k]? = some o[k] := List.getElem?_eq_getElem (by omega)
            refine ⟨_, rfl, ?_⟩
            unfold c__law_table_T0
            repeat' wp_step
            refine l_draw_wp ⟨a5, b5, app_get2⟩ (by decide) (by decide) fun r a6 b6 _ _ => ?_
            rw [app_set2]
            repeat' wp_step
            · unfold c__law_table_E1
              repeat' wp_step
              refine oix hok ?_
              refine ⟨ls ++ [((o[k] : Nat) : Int)], a6, b6, by rw [List.map_append, List.map_append]; rfl, take_nodup hln (by simp) fun y hy hyl => ?_, fun y hy => ?_, rfl⟩
              · rw [List.mem_singleton] at hy
                subst hy
                obtain ⟨k', z, h1, h2, h3⟩ := hlo _ hyl
                have hz : z = o[k] := by omega
                rw [hz] at h2
                have a := idx_at hon h2
                have b := idx_at hon hok
                omega
              · rcases List.mem_append.mp hy with hy | hy
                · obtain ⟨k', z, h1, h2⟩ := hlo y hy
                  exact ⟨k', z, by omega, h2⟩
                · rw [List.mem_singleton] at hy
                  exact ⟨k, o[k], by omega, hok, hy⟩
            · refine ⟨ls, a6, b6, rfl, hln, fun y hy => ?_, rfl⟩
              obtain ⟨k', z, h1, h2⟩ := hlo y hy
              exact ⟨k', z, by omega, h2⟩)
        refine ⟨by omega, _, _, hc, ?_⟩
        rw [List.length_range] at hlo
        repeat' wp_step
        refine wC_sorted rfl ?_
        repeat' wp_step
        refine oix hoi ?_
        have hxR : o[i] < R.length := by rw [hR.len]; exact hor _ (List.getElem_mem hio)
        refine wU_o app_get1 (i := o[i]) (ixN_nat (by rw [List.length_map, List.length_map]; exact hxR)) ?_
        rw [app_set1]
        have e8 : ((R.map rowL).map VL.d).set o[i] (.d (.list ((sortI ls).map .int))) = ((R.set o[i] (sortI ls)).map rowL).map VL.d := by
          rw [List.map_set, List.map_set]
          rfl
        rw [e8, ← e7]
        have hF : Flt (st ++ [srcO a3 b3, Ob.lst ((R.map rowL).map VL.d)]) (st ++ [srcO a3 b3, Ob.lst (((R.set o[i] (sortI ls)).map rowL).map VL.d)]) := by
          have := (Flt.refl (st ++ [srcO a3 b3, Ob.lst ((R.map rowL).map VL.d)])).set (n := st.length + 1) (flat_rows (R.set o[i] (sortI ls)))
          rwa [app_set1] at this
        refine cutQ_nx (cutOk_flt hF) ?_
        rw [take_flt hF, e6]
        refine ⟨⟨cutV (st.length + 2) (some (.d (.int (i : Int)))), cutV (st.length + 2) (some (.o (st.length + 2))), cutV (st.length + 2) c4, cutV (st.length + 2) d4, cutV (st.length + 2) e5, ?_⟩, _, hR.step hon hor hoi (sortI_lt hln) fun y hy => hlo y ((sortI_perm ls).mem_iff.mp hy), rfl⟩
        show cutE (st.length + 2) [some (.d (.list (ns.map .int))), some (.d (.int 1)), some (.d (.int 10)), some (.o st.length), some (.d (.int (n : Int))), some (.d (.list (natD o))), some (.d (.int w)), some (.o (st.length + 1)), some (.d (.int (i : Int))), some (.o (st.length + 2)), c4, d4, e5] = _
        simp only [cutE, List.map_cons, List.map_nil]
        rw [cutV_o (m := st.length) (by omega), cutV_o (m := st.length + 1) (by omega)]
        rfl
      · obtain ⟨⟨a4, b4, c4, d4, e5, rfl⟩, R, hR, rfl⟩ := hI
        repeat' wp_step
        rw [app_set1]
        refine ⟨cutOk_app _ _, ?_⟩
        rw [take_app]
        exact q R (hR.tab (by omega))
end K75
set_option Elab.async false
set_option linter.all false
set_option autoImplicit false
set_option maxRecDepth 100000
set_option maxHeartbeats 2000000
namespace K75
open PySem PySem.Spec PyProof.Rows L2 Sl
local macro_rules | `(tactic| wp_step) => `(tactic| first
  | with_reducible refine wS_seq ?_
  | with_reducible refine seqK_nx ?_
  | with_reducible refine seqK_rt ?_
  | with_reducible refine seqK_bk ?_
  | with_reducible refine seqK_ct ?_
  | with_reducible refine fnQ_nx ?_
  | with_reducible refine fnQ_rt ?_
  | with_reducible refine turn_nx ?_
  | with_reducible refine turn_ct ?_
  | with_reducible refine turn_bk ?_
  | with_reducible refine turn_rt ?_
  | with_reducible refine wS_if ?_
  | with_reducible refine wS_set ?_
  | with_reducible refine wS_asg ?_
  | with_reducible refine wS_ret ?_
  | with_reducible refine wS_drop ?_
  | with_reducible refine wS_nx ?_
  | with_reducible refine wS_bk ?_
  | with_reducible refine wS_ct ?_
  | with_reducible refine wS_forS ?_
  | with_reducible refine wS_for1 ?_
  | with_reducible refine wS_setL ?_
  | with_reducible refine wS_dputK ?_
  | with_reducible refine wE_op ?_
  | with_reducible refine wE_c ?_
  | ((with_reducible apply wE_var); rfl)
  | with_reducible refine wE_call ?_
  | with_reducible refine wE_cb ?_
  | with_reducible refine wE_and ?_
  | with_reducible refine wE_or ?_
  | with_reducible refine wE_not ?_
  | with_reducible refine wE_if ?_
  | with_reducible refine wE_isi ?_
  | with_reducible refine wE_chain ?_
  | with_reducible refine wE_neg ?_
  | with_reducible refine wE_lst ?_
  | with_reducible refine wE_tup ?_
  | with_reducible refine wE_frz ?_
  | with_reducible refine wE_append ?_
  | with_reducible refine wE_sl ?_
  | with_reducible refine wE_rev ?_
  | with_reducible refine wE_dnew ?_
  | with_reducible refine wZ_d ?_
  | ((with_reducible apply isO_o); (first | assumption | exact app_get0 | exact app_get1 | exact app_get2 | exact List.getElem?_set_self (by assumption) | exact List.getElem?_set_self (by rw [List.length_set]; assumption) | (rw [List.getElem?_append_right (Nat.le_refl _), Nat.sub_self]; rfl) | exact getA0 (by assumption) | exact getA1 (by assumption)))
  | ((with_reducible apply wApp_o); (first | assumption | exact app_get0 | exact app_get1 | exact app_get2 | exact List.getElem?_set_self (by assumption) | exact List.getElem?_set_self (by rw [List.length_set]; assumption) | (rw [List.getElem?_append_right (Nat.le_refl _), Nat.sub_self]; rfl) | exact getA0 (by assumption) | exact getA1 (by assumption)))
  | ((with_reducible apply wD_o); (first | assumption | exact app_get0 | exact app_get1 | exact app_get2 | exact List.getElem?_set_self (by assumption) | exact List.getElem?_set_self (by rw [List.length_set]; assumption) | (rw [List.getElem?_append_right (Nat.le_refl _), Nat.sub_self]; rfl) | exact getA0 (by assumption) | exact getA1 (by assumption)))
  | ((with_reducible apply wZ_o); (first | assumption | exact app_get0 | exact app_get1 | exact app_get2 | exact List.getElem?_set_self (by assumption) | exact List.getElem?_set_self (by rw [List.length_set]; assumption) | (rw [List.getElem?_append_right (Nat.le_refl _), Nat.sub_self]; rfl) | exact getA0 (by assumption) | exact getA1 (by assumption)); exact allD_map' _)
  | with_reducible refine wE_rep ?_
  | with_reducible refine wE_sortSet ?_
  | with_reducible refine wE_lenSet ?_
  | with_reducible refine wE_comp1 ?_
  | with_reducible refine wE_compS ?_
  | with_reducible refine wP_none ?_
  | with_reducible refine wP_some ?_
  | with_reducible refine wA_nil ?_
  | with_reducible refine wA_cons ?_
  | with_reducible refine wA_app ?_
  | with_reducible refine wB_t ?_
  | with_reducible refine wB_f ?_
  | with_reducible refine wB_nt ?_
  | with_reducible refine wB_nf ?_
  | with_reducible refine wB_dec (fun _ => ?_) (fun _ => ?_)
  | with_reducible refine wB_not (fun _ => ?_) (fun _ => ?_)
  | with_reducible refine wB_nb (fun _ => ?_) (fun _ => ?_)
  | with_reducible refine wB_b (fun _ => ?_) (fun _ => ?_)
  | with_reducible refine wO_sub ?_
  | ((with_reducible apply wO_inS0); rfl)
  | ((with_reducible apply wO_inS1); rfl)
  | ((with_reducible apply wO_inD0); (first | assumption | exact app_get0 | exact app_get1 | exact app_get2 | exact List.getElem?_set_self (by assumption) | exact List.getElem?_set_self (by rw [List.length_set]; assumption) | (rw [List.getElem?_append_right (Nat.le_refl _), Nat.sub_self]; rfl) | exact getA0 (by assumption) | exact getA1 (by assumption)))
  | ((with_reducible apply wO_inD1); (first | assumption | exact app_get0 | exact app_get1 | exact app_get2 | exact List.getElem?_set_self (by assumption) | exact List.getElem?_set_self (by rw [List.length_set]; assumption) | (rw [List.getElem?_append_right (Nat.le_refl _), Nat.sub_self]; rfl) | exact getA0 (by assumption) | exact getA1 (by assumption)))
  | with_reducible refine wO_lt ?_
  | with_reducible refine wO_le ?_
  | with_reducible refine wO_gt ?_
  | with_reducible refine wO_ge ?_
  | with_reducible refine wO_add ?_
  | with_reducible refine wO_eqI ?_
  | with_reducible refine wO_neI ?_
  | with_reducible refine wO_isN ?_
  | with_reducible refine wO_notN ?_
  | with_reducible refine wC_lenL ?_
  | with_reducible refine wC_lenT ?_
  | with_reducible refine wC_int ?_
  | ((with_reducible apply wC_lenD); (first | assumption | exact app_get0 | exact app_get1 | exact app_get2 | exact List.getElem?_set_self (by assumption) | exact List.getElem?_set_self (by rw [List.length_set]; assumption) | (rw [List.getElem?_append_right (Nat.le_refl _), Nat.sub_self]; rfl) | exact getA0 (by assumption) | exact getA1 (by assumption)))
  | with_reducible refine wC_abs ?_
  | with_reducible refine wM_N ?_
  | with_reducible refine wM_Dm ?_
  | with_reducible refine wM_Tm ?_
  | ((with_reducible apply wM_T); rfl)
  | ((with_reducible apply wM_D); rfl)
  | (with_reducible refine Exists.intro _ (And.intro rfl ?_))
  | (with_reducible refine And.intro rfl ?_)
  | ((with_reducible refine And.intro (size_small ?_) ?_); rfl)
  | with_reducible refine wO_pow6 ?_
  | ((with_reducible refine wO_mulR ?_ ?_); decide)
  | ((with_reducible refine wO_mulL ?_ ?_); decide)
  | ((with_reducible refine wO_mod ?_ ?_); omega)
  | ((with_reducible refine wO_div ?_ ?_ ?_); omega; omega)
  | ((with_reducible apply wU_o); (first | assumption | exact app_get0 | exact app_get1 | exact app_get2 | exact List.getElem?_set_self (by assumption) | exact List.getElem?_set_self (by rw [List.length_set]; assumption) | (rw [List.getElem?_append_right (Nat.le_refl _), Nat.sub_self]; rfl) | exact getA0 (by assumption) | exact getA1 (by assumption)); rfl)
  | ((with_reducible apply wO_ixZ); (apply asSeq_o; (first | assumption | exact app_get0 | exact app_get1 | exact app_get2 | exact List.getElem?_set_self (by assumption) | exact List.getElem?_set_self (by rw [List.length_set]; assumption) | (rw [List.getElem?_append_right (Nat.le_refl _), Nat.sub_self]; rfl) | exact getA0 (by assumption) | exact getA1 (by assumption))); rfl))
/-! ### the judged parts -/
theorem says_same {P : Prop} {b1 b2 : Bool} (h1 : b1 = true ↔ P) (h2 : b2 = true ↔ P) {st : Sto} {Q : VL → Sto → Prop} (q : Q (.d (.bool true)) st) : wF m__law_says [.d (.bool b1), .d (.bool b2)] st Q := by
  refine wF_of (l_says_eq _ _ _) ?_
  have : b1 = b2 := by
    cases b1 <;> cases b2 <;> first | rfl | (exfalso; have := h1.trans h2.symm; simp at this)
  rw [decide_eq_true this]
  exact q
structure Two (T N : List (List Int)) : Prop where
  tab : Tab T
  clo : Clo T N (List.range T.length)
theorem Two.nlen {T N : List (List Int)} (h : Two T N) : N.length ≤ 10 := by
  rw [h.clo.len]
  exact h.tab.len
theorem Two.row {T N : List (List Int)} (h : Two T N) (t : Int) (h0 : 0 ≤ t) (h1 : t < N.length) : (at_ N t).length ≤ 10 := by
  have hl := h.clo.len
  have e : ((t.toNat : Nat) : Int) = t := Int.toNat_of_nonneg h0
  have hm : t.toNat ∈ List.range T.length := List.mem_range.mpr (by omega)
  have h2 := h.clo.rise _ hm
  have h3 := h.clo.rng _ hm
  rw [e] at h2 h3
  exact Nat.le_trans (rise_len h2 h3) h.tab.len
theorem PaperOk.lt {x : PyData} (h : PaperOk x) : ∀ ds, seqD x = some ds → ds.length < 1000 := fun ds e => by
  have := (h ds e).1
  omega
section
variable {T N : List (List Int)} {x : PyData} {st : Sto} {Q : VL → Sto → Prop}
theorem j_sched (H : Two T N) {m : Int} (q : ∀ b, (b = true ↔ ScOk N m x) → Q (.d (.bool b)) st) : wF m_is_schedule [.d (tbL T), .d x, .d (.int m)] st Q :=
  is_schedule_wp H.tab fun b h => q b (h.trans (scOk_same H.clo))
theorem j_blocks (H : Two T N) (q : ∀ b, (b = true ↔ BlOk N x) → Q (.d (.bool b)) st) : wF m_are_blocks [.d (tbL T), .d x] st Q :=
  are_blocks_wp H.tab fun M hM b h => q b (by rwa [clo_uniq H.tab hM H.clo] at h)
theorem j_rows (H : Two T N) (hs : PaperOk x) (q : ∀ b, (b = true ↔ RwOk N x) → Q (.d (.bool b)) st) : wF m_are_rows [.d (tbL T), .d x] st Q :=
  are_rows_wp H.tab hs fun M hM b h => q b (by rwa [clo_uniq H.tab hM H.clo] at h)
theorem j_chain (H : Two T N) (hs : PaperOk x) (q : ∀ b, (b = true ↔ ChOk N x) → Q (.d (.bool b)) st) : wF m_is_chain [.d (tbL T), .d x] st Q :=
  is_chain_wp H.tab hs.lt fun M hM b h => q b (by rwa [clo_uniq H.tab hM H.clo] at h)
theorem j_ind (H : Two T N) (q : ∀ b, (b = true ↔ IndOk N x) → Q (.d (.bool b)) st) : wF m_are_independent [.d (tbL T), .d x] st Q :=
  are_independent_wp H.tab fun M hM b h => q b (by rwa [clo_uniq H.tab hM H.clo] at h)
end
theorem l_parts_judged_wp {T N : List (List Int)} (H : Two T N) {st : Sto} {s : Nat} (hs : Src st s) {m : Int} {Q : VL → Sto → Prop} (q : ∀ a b, Q (.d (.bool true)) (st.set s (srcO a b))) :
    wF m__law_parts_judged [.o s, .d (tbL T), .d (tbL N), .d (.int m)] st Q := by
  have hT := H.tab
  have hlen := hT.len
  obtain ⟨a0, b0, e0⟩ := hs.same
  refine wF_run ?_
  unfold c__law_parts_judged
  refine wS_seq (wS_for1 (wA_cons (wE_c (wA_nil ⟨4, rfl, by decide, ?_⟩))))
  refine wL_rg (fun i env st' => (∃ a b c d, env = [some (.o s), some (.d (tbL T)), some (.d (tbL N)), some (.d (.int m)), a, b, c, d]) ∧ ∃ a b, st' = st.set s (srcO a b))
    ⟨⟨_, _, _, _, rfl⟩, a0, b0, e0.symm⟩ (fun i env st' hi hI => ?_) (fun env st' hI => ?_)
  · obtain ⟨⟨a1, b1, c1, d1, rfl⟩, a, b, rfl⟩ := hI
    refine ⟨_, rfl, ?_⟩
    unfold c__law_parts_judged_B0
    repeat' wp_step
    refine l_order_wp hT (hs.set a b) fun o ho hor a b => ?_
    rw [List.set_set]
    repeat' wp_step
    refine l_parts_wp (hs.set a b) (by omega) fun ps hps a b => ?_
    rw [List.set_set]
    repeat' wp_step
    refine lenT ?_
    repeat' wp_step
    refine l_bent_wp (hs.set a b) hps hlen fun y hy a b => ?_
    rw [List.set_set]
    repeat' wp_step
    refine l_as_tuples_wp (hs.set a b) hy fun x hx a b => ?_
    rw [List.set_set]
    repeat' wp_step
    refine j_sched H fun b1 hb1 => ?_
    repeat' wp_step
    refine l_schedule_wp (.inr rfl) H.nlen H.row fun b2 hb2 => ?_
    repeat' wp_step
    refine says_same hb1 hb2 ?_
    repeat' wp_step
    refine j_blocks H fun b1 hb1 => ?_
    repeat' wp_step
    refine l_blocks_wp (.inr rfl) H.nlen fun b2 hb2 => ?_
    repeat' wp_step
    refine says_same hb1 hb2 ?_
    repeat' wp_step
    refine j_rows H hx fun b1 hb1 => ?_
    repeat' wp_step
    refine l_cover_wp (.inr rfl) hx fun b2 hb2 => ?_
    repeat' wp_step
    refine says_same hb1 hb2 ?_
    repeat' wp_step
    refine l_runs_wp H.clo.len (hs.set a b) (by omega) hor fun ps hps a b => ?_
    rw [List.set_set]
    repeat' wp_step
    refine lenT ?_
    repeat' wp_step
    refine l_bent_wp (hs.set a b) hps hlen fun y hy a b => ?_
    rw [List.set_set]
    repeat' wp_step
    refine l_as_tuples_wp (hs.set a b) hy fun x hx a b => ?_
    rw [List.set_set]
    repeat' wp_step
    refine j_rows H hx fun b1 hb1 => ?_
    repeat' wp_step
    refine l_cover_wp (.inr rfl) hx fun b2 hb2 => ?_
    repeat' wp_step
    refine says_same hb1 hb2 ?_
    repeat' wp_step
    refine j_blocks H fun b1 hb1 => ?_
    repeat' wp_step
    refine l_blocks_wp (.inr rfl) H.nlen fun b2 hb2 => ?_
    repeat' wp_step
    refine says_same hb1 hb2 ?_
    repeat' wp_step
    exact ⟨⟨_, _, _, _, rfl⟩, a, b, rfl⟩
  · obtain ⟨⟨a1, b1, c1, d1, rfl⟩, a, b, rfl⟩ := hI
    repeat' wp_step
    exact q a b
end K75
set_option Elab.async false
set_option linter.all false
set_option autoImplicit false
set_option maxRecDepth 100000
set_option maxHeartbeats 2000000
namespace K75
open PySem PySem.Spec PyProof.Rows L2 Sl
local macro_rules | `(tactic| wp_step) => `(tactic| first
  | with_reducible refine wS_seq ?_
  | with_reducible refine seqK_nx ?_
  | with_reducible refine seqK_rt ?_
  | with_reducible refine seqK_bk ?_
  | with_reducible refine seqK_ct ?_
  | with_reducible refine fnQ_nx ?_
  | with_reducible refine fnQ_rt ?_
  | with_reducible refine turn_nx ?_
  | with_reducible refine turn_ct ?_
  | with_reducible refine turn_bk ?_
  | with_reducible refine turn_rt ?_
  | with_reducible refine wS_if ?_
  | with_reducible refine wS_set ?_
  | with_reducible refine wS_asg ?_
  | with_reducible refine wS_ret ?_
  | with_reducible refine wS_drop ?_
  | with_reducible refine wS_nx ?_
  | with_reducible refine wS_bk ?_
  | with_reducible refine wS_ct ?_
  | with_reducible refine wS_forS ?_
  | with_reducible refine wS_for1 ?_
  | with_reducible refine wS_setL ?_
  | with_reducible refine wS_dputK ?_
  | with_reducible refine wE_op ?_
  | with_reducible refine wE_c ?_
  | ((with_reducible apply wE_var); rfl)
  | with_reducible refine wE_call ?_
  | with_reducible refine wE_cb ?_
  | with_reducible refine wE_and ?_
  | with_reducible refine wE_or ?_
  | with_reducible refine wE_not ?_
  | with_reducible refine wE_if ?_
  | with_reducible refine wE_isi ?_
  | with_reducible refine wE_chain ?_
  | with_reducible refine wE_neg ?_
  | with_reducible refine wE_lst ?_
  | with_reducible refine wE_tup ?_
  | with_reducible refine wE_frz ?_
  | with_reducible refine wE_append ?_
  | with_reducible refine wE_sl ?_
  | with_reducible refine wE_rev ?_
  | with_reducible refine wE_dnew ?_
  | with_reducible refine wZ_d ?_
  | ((with_reducible apply isO_o); (first | assumption | exact app_get0 | exact app_get1 | exact app_get2 | exact List.getElem?_set_self (by assumption) | exact List.getElem?_set_self (by rw [List.length_set]; assumption) | (rw [List.getElem?_append_right (Nat.le_refl _), Nat.sub_self]; rfl) | exact getA0 (by assumption) | exact getA1 (by assumption)))
  | ((with_reducible apply wApp_o); (first | assumption | exact app_get0 | exact app_get1 | exact app_get2 | exact List.getElem?_set_self (by assumption) | exact List.getElem?_set_self (by rw [List.length_set]; assumption) | (rw [List.getElem?_append_right (Nat.le_refl _), Nat.sub_self]; rfl) | exact getA0 (by assumption) | exact getA1 (by assumption)))
  | ((with_reducible apply wD_o); (first | assumption | exact app_get0 | exact app_get1 | exact app_get2 | exact List.getElem?_set_self (by assumption) | exact List.getElem?_set_self (by rw [List.length_set]; assumption) | (rw [List.getElem?_append_right (Nat.le_refl _), Nat.sub_self]; rfl) | exact getA0 (by assumption) | exact getA1 (by assumption)))
  | ((with_reducible apply wZ_o); (first | assumption | exact app_get0 | exact app_get1 | exact app_get2 | exact List.getElem?_set_self (by assumption) | exact List.getElem?_set_self (by rw [List.length_set]; assumption) | (rw [List.getElem?_append_right (Nat.le_refl _), Nat.sub_self]; rfl) | exact getA0 (by assumption) | exact getA1 (by assumption)); exact allD_map' _)
  | with_reducible refine wE_rep ?_
  | with_reducible refine wE_sortSet ?_
  | with_reducible refine wE_lenSet ?_
  | with_reducible refine wE_comp1 ?_
  | with_reducible refine wE_compS ?_
  | with_reducible refine wP_none ?_
  | with_reducible refine wP_some ?_
  | with_reducible refine wA_nil ?_
  | with_reducible refine wA_cons ?_
  | with_reducible refine wA_app ?_
  | with_reducible refine wB_t ?_
  | with_reducible refine wB_f ?_
  | with_reducible refine wB_nt ?_
  | with_reducible refine wB_nf ?_
  | with_reducible refine wB_dec (fun _ => ?_) (fun _ => ?_)
  | with_reducible refine wB_not (fun _ => ?_) (fun _ => ?_)
  | with_reducible refine wB_nb (fun _ => ?_) (fun _ => ?_)
  | with_reducible refine wB_b (fun _ => ?_) (fun _ => ?_)
  | with_reducible refine wO_sub ?_
  | ((with_reducible apply wO_inS0); rfl)
  | ((with_reducible apply wO_inS1); rfl)
  | ((with_reducible apply wO_inD0); (first | assumption | exact app_get0 | exact app_get1 | exact app_get2 | exact List.getElem?_set_self (by assumption) | exact List.getElem?_set_self (by rw [List.length_set]; assumption) | (rw [List.getElem?_append_right (Nat.le_refl _), Nat.sub_self]; rfl) | exact getA0 (by assumption) | exact getA1 (by assumption)))
  | ((with_reducible apply wO_inD1); (first | assumption | exact app_get0 | exact app_get1 | exact app_get2 | exact List.getElem?_set_self (by assumption) | exact List.getElem?_set_self (by rw [List.length_set]; assumption) | (rw [List.getElem?_append_right (Nat.le_refl _), Nat.sub_self]; rfl) | exact getA0 (by assumption) | exact getA1 (by assumption)))
  | with_reducible refine wO_lt ?_
  | with_reducible refine wO_le ?_
  | with_reducible refine wO_gt ?_
  | with_reducible refine wO_ge ?_
  | with_reducible refine wO_add ?_
  | with_reducible refine wO_eqI ?_
  | with_reducible refine wO_neI ?_
  | with_reducible refine wO_isN ?_
  | with_reducible refine wO_notN ?_
  | with_reducible refine wC_lenL ?_
  | with_reducible refine wC_lenT ?_
  | with_reducible refine wC_int ?_
  | ((with_reducible apply wC_lenD); (first | assumption | exact app_get0 | exact app_get1 | exact app_get2 | exact List.getElem?_set_self (by assumption) | exact List.getElem?_set_self (by rw [List.length_set]; assumption) | (rw [List.getElem?_append_right (Nat.le_refl _), Nat.sub_self]; rfl) | exact getA0 (by assumption) | exact getA1 (by assumption)))
  | with_reducible refine wC_abs ?_
  | with_reducible refine wM_N ?_
  | with_reducible refine wM_Dm ?_
  | with_reducible refine wM_Tm ?_
  | ((with_reducible apply wM_T); rfl)
  | ((with_reducible apply wM_D); rfl)
  | (with_reducible refine Exists.intro _ (And.intro rfl ?_))
  | (with_reducible refine And.intro rfl ?_)
  | ((with_reducible refine And.intro (size_small ?_) ?_); rfl)
  | with_reducible refine wO_pow6 ?_
  | ((with_reducible refine wO_mulR ?_ ?_); decide)
  | ((with_reducible refine wO_mulL ?_ ?_); decide)
  | ((with_reducible refine wO_mod ?_ ?_); omega)
  | ((with_reducible refine wO_div ?_ ?_ ?_); omega; omega)
  | ((with_reducible apply wU_o); (first | assumption | exact app_get0 | exact app_get1 | exact app_get2 | exact List.getElem?_set_self (by assumption) | exact List.getElem?_set_self (by rw [List.length_set]; assumption) | (rw [List.getElem?_append_right (Nat.le_refl _), Nat.sub_self]; rfl) | exact getA0 (by assumption) | exact getA1 (by assumption)); rfl)
  | ((with_reducible apply wO_ixZ); (apply asSeq_o; (first | assumption | exact app_get0 | exact app_get1 | exact app_get2 | exact List.getElem?_set_self (by assumption) | exact List.getElem?_set_self (by rw [List.length_set]; assumption) | (rw [List.getElem?_append_right (Nat.le_refl _), Nat.sub_self]; rfl) | exact getA0 (by assumption) | exact getA1 (by assumption))); rfl))
/-! ### the judged tasks -/
def vN (x : Nat) : VL := .d (.int (x : Int))
theorem natD_vN (o : List Nat) : (natD o).map VL.d = o.map vN := natD_map o
theorem allD_vN (o : List Nat) : allD (o.map vN) = some (natD o) := by
  rw [← natD_vN, allD_map']
theorem paper_ints {r : List Int} (h : r.length ≤ 40) : PaperOk (.list (r.map .int)) := fun ds e => by
  cases e
  refine ⟨by rw [List.length_map]; exact h, fun d hd es he => ?_⟩
  obtain ⟨x, _, rfl⟩ := List.mem_map.mp hd
  cases he
theorem zO_len (o : List Nat) : (zO o).length = o.length := by
  unfold zO
  rw [List.length_map]
theorem paper_nat {o : List Nat} (h : o.length ≤ 40) : PaperOk (.list (natD o)) := paper_ints (by rw [zO_len]; exact h)
theorem paper_tup {ds : List PyData} (h : PaperOk (.list ds)) : PaperOk (.tuple ds) := fun es e => h es e
theorem flat_vN (o : List Nat) : (Ob.lst (o.map vN)).flat = true := by
  rw [← natD_vN]
  exact flat_natD o
theorem l_tasks_judged_wp {T N : List (List Int)} (H : Two T N) {st : Sto} {s : Nat} (hs : Src st s) {Q : VL → Sto → Prop} (q : ∀ a b, Q (.d (.bool true)) (st.set s (srcO a b))) :
    wF m__law_tasks_judged [.o s, .d (tbL T), .d (tbL N)] st Q := by
  have hT := H.tab
  have hlen := hT.len
  have hNl := H.clo.len
  have hA : ∀ a b, (st.set s (srcO a b)).length = st.length := fun a b => List.length_set
  obtain ⟨a0, b0, e0⟩ := hs.same
  refine wF_run ?_
  unfold c__law_tasks_judged
  refine wS_seq (wS_for1 (wA_cons (wE_c (wA_nil ⟨5, rfl, by decide, ?_⟩))))
  refine wL_rg (fun i env st' => (∃ l : Sl.Env, l.length = 10 ∧ env = some (.o s) :: some (.d (tbL T)) :: some (.d (tbL N)) :: l) ∧ ∃ a b, st' = st.set s (srcO a b))
    ⟨⟨_, rfl, rfl⟩, a0, b0, e0.symm⟩ (fun i env st' hi hI => ?_) (fun env st' hI => ?_)
  · obtain ⟨⟨l, hl, rfl⟩, a, b, rfl⟩ := hI
    match l, hl with
    | [x3, x4, x5, x6, x7, x8, x9, x10, x11, x12], _ =>
    refine ⟨_, rfl, wS_cut ?_⟩
    unfold c__law_tasks_judged_B7
    repeat' wp_step
    refine l_order_wp hT (hs.set a b) fun o ho hor a2 b2 => ?_
    rw [List.set_set]
    repeat' wp_step
    refine ⟨natD o, .inl rfl, ?_⟩
    rw [natD_map]
    refine compW (fun i acc st' => ∃ ls : List Nat, ∃ a b, acc = ls.map vN ∧ ls.length ≤ i ∧ st' = st.set s (srcO a b)) (size_le (by omega)) ⟨[], a2, b2, rfl, Nat.le_refl _, rfl⟩ (fun i x acc st' hx hI => ?_) (fun ys st' hI => ?_)
    · obtain ⟨ls, a3, b3, rfl, hll, rfl⟩ := hI
      refine ⟨_, rfl, ?_⟩
      unfold c__law_tasks_judged_T5
      repeat' wp_step
      refine draw_0 hs (by decide) (by decide) fun r a4 b4 _ _ => ?_
      repeat' wp_step
      · unfold c__law_tasks_judged_E6
        repeat' wp_step
        exact ⟨ls ++ [x], a4, b4, by rw [List.map_append]; rfl, by rw [List.length_append, List.length_singleton]; omega, rfl⟩
      · exact ⟨ls, a4, b4, rfl, by omega, rfl⟩
    · obtain ⟨ls, a3, b3, rfl, hll, rfl⟩ := hI
      rw [← natD_vN]
      repeat' wp_step
      rw [hA a3 b3]
      refine ⟨natD o, .inl rfl, ?_⟩
      rw [natD_map]
      refine wL_ix (v := fun (x : Nat) => VL.d (.int (x : Int))) (fun i env st' => (∃ u3 u7 u8 u9 u10 u11 u12, env = [some (.o s), some (.d (tbL T)), some (.d (tbL N)), u3, some (.d (.list (natD o))), some (.d (.list (natD ls))), some (.o st.length), u7, u8, u9, u10, u11, u12]) ∧ ∃ ap : List Nat, ∃ a b, ap.length ≤ i ∧ st' = st.set s (srcO a b) ++ [.lst (ap.map vN)])
        ⟨⟨_, _, _, _, _, _, _, rfl⟩, [], a3, b3, Nat.zero_le _, rfl⟩ (fun i2 x env st' hx hI => ?_) (fun env st' hI => ?_)
      · obtain ⟨⟨u3, u7, u8, u9, u10, u11, u12, rfl⟩, ap, a4, b4, hal, rfl⟩ := hI
        have hAl := hA a4 b4
        have hi2 := (List.getElem?_eq_some_iff.mp hx).1
        have hxT := hor x (List.mem_of_getElem? hx)
        refine ⟨_, rfl, ?_⟩
        unfold c__law_tasks_judged_B4
        refine wS_if (wE_and (wE_op (wE_cb (wA_cons (wE_compO (wE_var rfl ⟨rfl, getA0 hAl, _, _, compO_pure (v := vN) (fun y => decide ((y : Int) ∈ at_ N (x : Int))) vN (getA0 hAl) (size_le (by omega)) (fun y hy => ?_), ?_⟩))))))
        · refine ⟨_, rfl, ?_, fun _ => ?_⟩
          · unfold c__law_tasks_judged_T2 vN
            repeat' wp_step
            refine isTb_ix (.inr rfl) (Int.natCast_nonneg x) (by omega) fun z hz => ?_
            refine isRw_in0 hz ?_
            exact ⟨rfl, rfl⟩
          · unfold c__law_tasks_judged_E3
            repeat' wp_step
            exact rfl
        · refine wM_D (allD_vN _) ?_
          repeat' wp_step
          · refine draw_at hs (by decide) (by decide) fun r a5 b5 _ _ => ?_
            have hAl5 := hA a5 b5
            repeat' wp_step
            · exact size_lt (by rw [List.length_map]; omega)
            · rw [setA0 hAl5]
              exact ⟨⟨_, _, _, _, _, _, _, rfl⟩, ap ++ [x], a5, b5, by rw [List.length_append, List.length_singleton]; omega, by rw [List.map_append]; rfl⟩
            · exact ⟨⟨_, _, _, _, _, _, _, rfl⟩, ap, a5, b5, by omega, rfl⟩
          · exact ⟨⟨_, _, _, _, _, _, _, rfl⟩, ap, a4, b4, by omega, rfl⟩
      · obtain ⟨⟨u3, u7, u8, u9, u10, u11, u12, rfl⟩, ap, a4, b4, hal, rfl⟩ := hI
        have hAl := hA a4 b4
        repeat' wp_step
        refine wC_sorted rfl ?_
        repeat' wp_step
        refine wZ_o (getA0 hAl) (allD_vN _) ?_
        rw [setA0 hAl]
        repeat' wp_step
        refine wC_sorted rfl ?_
        repeat' wp_step
        refine wZ_fr (getA0 hAl) ?_
        repeat' wp_step
        refine wZ_fr (getA0 hAl) ?_
        repeat' wp_step
        refine wC_sorted rfl ?_
        repeat' wp_step
        refine lenT ?_
        repeat' wp_step
        refine l_bent_wp (ps := [sortI (zO ap)]) ((hs.set a4 b4).app _) ⟨by simp, fun r hr => ?_⟩ hlen fun y hy a5 b5 => ?_
        · rw [List.mem_singleton] at hr
          subst hr
          rw [sortI_len, zO_len]
          omega
        · rw [set_lo (by rw [hAl]; exact hs.lt), List.set_set]
          have hAl5 := hA a5 b5
          repeat' wp_step
          have hall : ∀ d ∈ [PyData.list (natD ls), .list ((sortI (zO ls)).map .int), .list ((sortI (zO ap)).map .int), .list (natD ap), y], PaperOk d := by
            intro d hd
            simp only [List.mem_cons, List.not_mem_nil, or_false] at hd
            rcases hd with rfl | rfl | rfl | rfl | rfl
            · exact paper_nat (by omega)
            · exact paper_ints (by rw [sortI_len, zO_len]; omega)
            · exact paper_ints (by rw [sortI_len, zO_len]; omega)
            · exact paper_nat (by omega)
            · exact hy
          refine ⟨_, .inl rfl, ?_⟩
          refine wL_ix (v := VL.d) (fun i env st' => (∃ u3 u7 u8 u9 u10 u11 u12, env = [some (.o s), some (.d (tbL T)), some (.d (tbL N)), u3, some (.d (.list (natD o))), some (.d (.list (natD ls))), some (.o st.length), u7, u8, u9, u10, u11, u12]) ∧ st' = st.set s (srcO a5 b5) ++ [.fr (.list (natD ap))])
            ⟨⟨_, _, _, _, _, _, _, rfl⟩, rfl⟩ (fun i3 x env st' hx hI => ?_) (fun env st' hI => ?_)
          · obtain ⟨⟨u3, u7, u8, u9, u10, u11, u12, rfl⟩, rfl⟩ := hI
            have hxp := hall x (List.mem_of_getElem? hx)
            refine ⟨_, rfl, ?_⟩
            unfold c__law_tasks_judged_B1
            repeat' wp_step
            refine j_chain H hxp fun b1 hb1 => ?_
            repeat' wp_step
            refine l_chain_wp (.inr rfl) hxp.lt fun b2 hb2 => ?_
            repeat' wp_step
            refine says_same hb1 hb2 ?_
            repeat' wp_step
            refine j_ind H fun b1 hb1 => ?_
            repeat' wp_step
            refine l_apart_wp (.inr rfl) hxp.lt fun b2 hb2 => ?_
            repeat' wp_step
            refine says_same hb1 hb2 ?_
            repeat' wp_step
            exact ⟨⟨_, _, _, _, _, _, _, rfl⟩, rfl⟩
          · obtain ⟨⟨u3, u7, u8, u9, u10, u11, u12, rfl⟩, rfl⟩ := hI
            repeat' wp_step
            have e1 : (st.set s (srcO a5 b5) ++ [Ob.fr (.list (natD ap))]).length = st.length + 1 := by rw [List.length_append, hAl5]; rfl
            rw [e1]
            refine ⟨natD o, .inl rfl, ?_⟩
            rw [natD_map]
            refine wL_ix (v := fun (x : Nat) => VL.d (.int (x : Int))) (fun i env st' => (∃ u3 u7 u8 u10 u11 u12, env = [some (.o s), some (.d (tbL T)), some (.d (tbL N)), u3, some (.d (.list (natD o))), some (.d (.list (natD ls))), some (.o st.length), u7, u8, some (.o (st.length + 1)), u10, u11, u12]) ∧ ∃ ch : List Nat, ch.length ≤ i ∧ st' = st.set s (srcO a5 b5) ++ [.fr (.list (natD ap)), .lst (ch.map vN)])
              ⟨⟨_, _, _, _, _, _, rfl⟩, [], Nat.zero_le _, by rw [List.append_assoc]; rfl⟩ (fun i2 x env st' hx hI => ?_) (fun env st' hI => ?_)
            · obtain ⟨⟨u3, u7, u8, u10, u11, u12, rfl⟩, ch, hcl, rfl⟩ := hI
              have hi2 := (List.getElem?_eq_some_iff.mp hx).1
              have hxT := hor x (List.mem_of_getElem? hx)
              have push : ∀ {u7 : Option VL}, u7 = some (.d (.int (x : Int))) → wS (sDrop (eAppend (eVar 9) (eVar 7))) [some (.o s), some (.d (tbL T)), some (.d (tbL N)), u3, some (.d (.list (natD o))), some (.d (.list (natD ls))), some (.o st.length), u7, u8, some (.o (st.length + 1)), u10, u11, u12]
                  (st.set s (srcO a5 b5) ++ [.fr (.list (natD ap)), .lst (ch.map vN)]) (turnTo (fun env st' => (∃ u3 u7 u8 u10 u11 u12, env = [some (.o s), some (.d (tbL T)), some (.d (tbL N)), u3, some (.d (.list (natD o))), some (.d (.list (natD ls))), some (.o st.length), u7, u8, some (.o (st.length + 1)), u10, u11, u12]) ∧ ∃ ch : List Nat, ch.length ≤ i2 + 1 ∧ st' = st.set s (srcO a5 b5) ++ [.fr (.list (natD ap)), .lst (ch.map vN)]) fun _ => False) := fun e => by
                subst e
                repeat' wp_step
                · exact size_lt (by rw [List.length_map]; omega)
                · rw [setA1 hAl5]
                  exact ⟨⟨_, _, _, _, _, _, rfl⟩, ch ++ [x], by rw [List.length_append, List.length_singleton]; omega, by rw [List.map_append]; rfl⟩
              have push2 := fun (R : Fl → Prop) => (push rfl).mono (R' := turnTo (fun env st' => (∃ u3 u7 u8 u10 u11 u12, env = [some (.o s), some (.d (tbL T)), some (.d (tbL N)), u3, some (.d (.list (natD o))), some (.d (.list (natD ls))), some (.o st.length), u7, u8, some (.o (st.length + 1)), u10, u11, u12]) ∧ ∃ ch : List Nat, ch.length ≤ i2 + 1 ∧ st' = st.set s (srcO a5 b5) ++ [.fr (.list (natD ap)), .lst (ch.map vN)]) R) fun o ho => by
                cases o with
                | nx e s => exact ho
                | ct e s => exact ho
                | bk e s => exact ho.elim
                | rt e s => exact ho.elim
                | ex c fs s => exact ho.elim
              refine ⟨_, rfl, ?_⟩
              unfold c__law_tasks_judged_B0
              refine wS_if (wE_or (wE_op (wE_cb (wA_cons (wE_var rfl (wA_nil (wC_lenO (getA1 hAl5) (wE_c (wO_eqI (wB_dec (fun h0 => ?_) (fun h0 => ?_)))))))))))
              · exact wB_t (push2 _)
              · rw [List.length_map] at h0
                have hne : ch ≠ [] := fun e => h0 (by rw [e]; rfl)
                repeat' wp_step
                refine wO_ix1 (asSeq_o (getA1 hAl5)) (z := .d (.int ((ch.getLast hne : Nat) : Int))) ?_ ?_
                · rw [List.getLast?_map, List.getLast?_eq_some_getLast hne]
                  rfl
                · repeat' wp_step
                  refine isTb_ix (.inr rfl) (Int.natCast_nonneg x) (by omega) fun z hz => ?_
                  refine isRw_in0 hz ?_
                  refine wB_dec (fun _ => push2 _) (fun _ => ?_)
                  repeat' wp_step
                  exact ⟨⟨_, _, _, _, _, _, rfl⟩, ch, by omega, rfl⟩
            · obtain ⟨⟨u3, u7, u8, u10, u11, u12, rfl⟩, ch, hcl, rfl⟩ := hI
              repeat' wp_step
              refine lenT ?_
              repeat' wp_step
              refine draw_at hs (by omega) (by omega) fun num a6 b6 _ _ => ?_
              have hAl6 := hA a6 b6
              repeat' wp_step
              have elong : ch.map vN ++ [VL.d (.int (num - 1))] = ((zO ch ++ [num - 1]).map PyData.int).map VL.d := by
                rw [← natD_vN, List.map_append, List.map_append]
                rfl
              refine wO_addL (xs := ch.map vN) (ys := [.d (.int (num - 1))]) (fun _ h => by cases h) (fun _ h => by cases h) (asSeq_o (getA1 hAl6)) rfl (size_le (by rw [List.length_map]; simp; omega)) ?_
              rw [elong]
              repeat' wp_step
              refine wZ_o (getA1 hAl6) (allD_vN _) ?_
              rw [setA1 hAl6]
              repeat' wp_step
              refine wC_tuple (k := false) (xs := (natD ch).map .d) (by rfl) ?_
              repeat' wp_step
              refine j_chain H (paper_tup (paper_nat (by omega))) fun b1 hb1 => ?_
              repeat' wp_step
              refine wZ_fr (getA1 hAl6) ?_
              repeat' wp_step
              refine l_chain_wp (.inr rfl) (paper_nat (by omega)).lt fun b2 hb2 => ?_
              repeat' wp_step
              refine says_same (P := ChOk N (.list (natD ch))) hb1 hb2 ?_
              repeat' wp_step
              have hlp : PaperOk (.list ((zO ch ++ [num - 1]).map .int)) := paper_ints (by rw [List.length_append, zO_len]; simp; omega)
              refine j_chain H hlp fun b1 hb1 => ?_
              repeat' wp_step
              refine l_chain_wp (.inr rfl) hlp.lt fun b2 hb2 => ?_
              repeat' wp_step
              refine says_same hb1 hb2 ?_
              repeat' wp_step
              have hF : Flt (st.set s (srcO a b)) (st.set s (srcO a6 b6)) := by
                have := (Flt.refl (st.set s (srcO a b))).set (n := s) (srcO_flat a6 b6)
                rwa [List.set_set] at this
              refine cutQ_nx (cutOk_flt hF) ?_
              rw [take_flt hF]
              refine ⟨⟨[cutV (st.set s (srcO a b)).length u3, some (.d (.list (natD o))), some (.d (.list (natD ls))), cutV (st.set s (srcO a b)).length (some (.o st.length)), cutV (st.set s (srcO a b)).length u7, cutV (st.set s (srcO a b)).length u8, cutV (st.set s (srcO a b)).length (some (.o (st.length + 1))),
                some (.d (.int (num - 1))), some (.d (.list ((zO ch ++ [num - 1]).map .int))), cutV (st.set s (srcO a b)).length u12], rfl, ?_⟩, a6, b6, rfl⟩
              show cutE (st.set s (srcO a b)).length [some (.o s), some (.d (tbL T)), some (.d (tbL N)), u3, some (.d (.list (natD o))), some (.d (.list (natD ls))), some (.o st.length), u7, u8, some (.o (st.length + 1)), some (.d (.int (num - 1))), some (.d (.list ((zO ch ++ [num - 1]).map .int))), u12] = _
              simp only [cutE, List.map_cons, List.map_nil]
              rw [cutV_o (m := s) (by rw [hA a b]; exact hs.lt)]
              rfl
  · obtain ⟨⟨l, hl, rfl⟩, a, b, rfl⟩ := hI
    repeat' wp_step
    exact q a b
end K75
set_option Elab.async false
set_option linter.all false
set_option autoImplicit false
set_option maxRecDepth 100000
set_option maxHeartbeats 2000000
namespace K75
open PySem PySem.Spec PyProof.Rows L2 Sl
local macro_rules | `(tactic| wp_step) => `(tactic| first
  | with_reducible refine wS_seq ?_
  | with_reducible refine seqK_nx ?_
  | with_reducible refine seqK_rt ?_
  | with_reducible refine seqK_bk ?_
  | with_reducible refine seqK_ct ?_
  | with_reducible refine fnQ_nx ?_
  | with_reducible refine fnQ_rt ?_
  | with_reducible refine turn_nx ?_
  | with_reducible refine turn_ct ?_
  | with_reducible refine turn_bk ?_
  | with_reducible refine turn_rt ?_
  | with_reducible refine wS_if ?_
  | with_reducible refine wS_set ?_
  | with_reducible refine wS_asg ?_
  | with_reducible refine wS_ret ?_
  | with_reducible refine wS_drop ?_
  | with_reducible refine wS_nx ?_
  | with_reducible refine wS_bk ?_
  | with_reducible refine wS_ct ?_
  | with_reducible refine wS_forS ?_
  | with_reducible refine wS_for1 ?_
  | with_reducible refine wS_setL ?_
  | with_reducible refine wS_dputK ?_
  | with_reducible refine wE_op ?_
  | with_reducible refine wE_c ?_
  | ((with_reducible apply wE_var); rfl)
  | with_reducible refine wE_call ?_
  | with_reducible refine wE_cb ?_
  | with_reducible refine wE_and ?_
  | with_reducible refine wE_or ?_
  | with_reducible refine wE_not ?_
  | with_reducible refine wE_if ?_
  | with_reducible refine wE_isi ?_
  | with_reducible refine wE_chain ?_
  | with_reducible refine wE_neg ?_
  | with_reducible refine wE_lst ?_
  | with_reducible refine wE_tup ?_
  | with_reducible refine wE_frz ?_
  | with_reducible refine wE_append ?_
  | with_reducible refine wE_sl ?_
  | with_reducible refine wE_rev ?_
  | with_reducible refine wE_dnew ?_
  | with_reducible refine wZ_d ?_
  | ((with_reducible apply isO_o); (first | assumption | exact app_get0 | exact app_get1 | exact app_get2 | exact List.getElem?_set_self (by assumption) | exact List.getElem?_set_self (by rw [List.length_set]; assumption) | (rw [List.getElem?_append_right (Nat.le_refl _), Nat.sub_self]; rfl) | exact getA0 (by assumption) | exact getA1 (by assumption)))
  | ((with_reducible apply wApp_o); (first | assumption | exact app_get0 | exact app_get1 | exact app_get2 | exact List.getElem?_set_self (by assumption) | exact List.getElem?_set_self (by rw [List.length_set]; assumption) | (rw [List.getElem?_append_right (Nat.le_refl _), Nat.sub_self]; rfl) | exact getA0 (by assumption) | exact getA1 (by assumption)))
  | ((with_reducible apply wD_o); (first | assumption | exact app_get0 | exact app_get1 | exact app_get2 | exact List.getElem?_set_self (by assumption) | exact List.getElem?_set_self (by rw [List.length_set]; assumption) | (rw [List.getElem?_append_right (Nat.le_refl _), Nat.sub_self]; rfl) | exact getA0 (by assumption) | exact getA1 (by assumption)))
  | ((with_reducible apply wZ_o); (first | assumption | exact app_get0 | exact app_get1 | exact app_get2 | exact List.getElem?_set_self (by assumption) | exact List.getElem?_set_self (by rw [List.length_set]; assumption) | (rw [List.getElem?_append_right (Nat.le_refl _), Nat.sub_self]; rfl) | exact getA0 (by assumption) | exact getA1 (by assumption)); exact allD_map' _)
  | with_reducible refine wE_rep ?_
  | with_reducible refine wE_sortSet ?_
  | with_reducible refine wE_lenSet ?_
  | with_reducible refine wE_comp1 ?_
  | with_reducible refine wE_compS ?_
  | with_reducible refine wP_none ?_
  | with_reducible refine wP_some ?_
  | with_reducible refine wA_nil ?_
  | with_reducible refine wA_cons ?_
  | with_reducible refine wA_app ?_
  | with_reducible refine wB_t ?_
  | with_reducible refine wB_f ?_
  | with_reducible refine wB_nt ?_
  | with_reducible refine wB_nf ?_
  | with_reducible refine wB_dec (fun _ => ?_) (fun _ => ?_)
  | with_reducible refine wB_not (fun _ => ?_) (fun _ => ?_)
  | with_reducible refine wB_nb (fun _ => ?_) (fun _ => ?_)
  | with_reducible refine wB_b (fun _ => ?_) (fun _ => ?_)
  | with_reducible refine wO_sub ?_
  | ((with_reducible apply wO_inS0); rfl)
  | ((with_reducible apply wO_inS1); rfl)
  | ((with_reducible apply wO_inD0); (first | assumption | exact app_get0 | exact app_get1 | exact app_get2 | exact List.getElem?_set_self (by assumption) | exact List.getElem?_set_self (by rw [List.length_set]; assumption) | (rw [List.getElem?_append_right (Nat.le_refl _), Nat.sub_self]; rfl) | exact getA0 (by assumption) | exact getA1 (by assumption)))
  | ((with_reducible apply wO_inD1); (first | assumption | exact app_get0 | exact app_get1 | exact app_get2 | exact List.getElem?_set_self (by assumption) | exact List.getElem?_set_self (by rw [List.length_set]; assumption) | (rw [List.getElem?_append_right (Nat.le_refl _), Nat.sub_self]; rfl) | exact getA0 (by assumption) | exact getA1 (by assumption)))
  | with_reducible refine wO_lt ?_
  | with_reducible refine wO_le ?_
  | with_reducible refine wO_gt ?_
  | with_reducible refine wO_ge ?_
  | with_reducible refine wO_add ?_
  | with_reducible refine wO_eqI ?_
  | with_reducible refine wO_neI ?_
  | with_reducible refine wO_isN ?_
  | with_reducible refine wO_notN ?_
  | with_reducible refine wC_lenL ?_
  | with_reducible refine wC_lenT ?_
  | with_reducible refine wC_int ?_
  | ((with_reducible apply wC_lenD); (first | assumption | exact app_get0 | exact app_get1 | exact app_get2 | exact List.getElem?_set_self (by assumption) | exact List.getElem?_set_self (by rw [List.length_set]; assumption) | (rw [List.getElem?_append_right (Nat.le_refl _), Nat.sub_self]; rfl) | exact getA0 (by assumption) | exact getA1 (by assumption)))
  | with_reducible refine wC_abs ?_
  | with_reducible refine wM_N ?_
  | with_reducible refine wM_Dm ?_
  | with_reducible refine wM_Tm ?_
  | ((with_reducible apply wM_T); rfl)
  | ((with_reducible apply wM_D); rfl)
  | (with_reducible refine Exists.intro _ (And.intro rfl ?_))
  | (with_reducible refine And.intro rfl ?_)
  | ((with_reducible refine And.intro (size_small ?_) ?_); rfl)
  | with_reducible refine wO_pow6 ?_
  | ((with_reducible refine wO_mulR ?_ ?_); decide)
  | ((with_reducible refine wO_mulL ?_ ?_); decide)
  | ((with_reducible refine wO_mod ?_ ?_); omega)
  | ((with_reducible refine wO_div ?_ ?_ ?_); omega; omega)
  | ((with_reducible apply wU_o); (first | assumption | exact app_get0 | exact app_get1 | exact app_get2 | exact List.getElem?_set_self (by assumption) | exact List.getElem?_set_self (by rw [List.length_set]; assumption) | (rw [List.getElem?_append_right (Nat.le_refl _), Nat.sub_self]; rfl) | exact getA0 (by assumption) | exact getA1 (by assumption)); rfl)
  | ((with_reducible apply wO_ixZ); (apply asSeq_o; (first | assumption | exact app_get0 | exact app_get1 | exact app_get2 | exact List.getElem?_set_self (by assumption) | exact List.getElem?_set_self (by rw [List.length_set]; assumption) | (rw [List.getElem?_append_right (Nat.le_refl _), Nat.sub_self]; rfl) | exact getA0 (by assumption) | exact getA1 (by assumption))); rfl))
/-! ### the judged slots -/
theorem ixRm {R : List Int} {st : Sto} {i : Int} (h0 : 0 ≤ i) (h : i < R.length) {Q : VL → Sto → Prop} (q : ∀ z : Int, z ∈ R → Q (.d (.int z)) st) : wO oIx st (.d (.list (R.map .int))) (.d (.int i)) Q := by
  have hi : i.toNat < R.length := by omega
  refine wO_ixZ (k := false) (xs := (R.map PyData.int).map .d) rfl (z := .d (.int R[i.toNat])) ?_ (q _ (List.getElem_mem hi))
  rw [atI_int _ h0, List.getElem?_map, List.getElem?_map, List.getElem?_eq_getElem hi]
  rfl
theorem slO {n : Nat} {ds : List PyData} {st : Sto} (hx : st[n]? = some (.lst (ds.map .d))) {l h : Option Int} {Q : VL → Sto → Prop} (q : Q (.d (.list (cutG ds l h))) st) :
    ∃ k xs, asSeq st (.o n) = some (k, xs) ∧ (k = false → wM mkD (cutL xs l h) st Q) ∧ (k = true → wM mkT (cutL xs l h) st Q) :=
  ⟨false, ds.map .d, asSeq_o hx, fun _ => by rw [cutL_map]; exact wM_Dm q, fun e => by cases e⟩
def sE (s : Nat) (P R : List Int) (g : Int) (u4 : Option VL) (sl : Int) (j : Nat) (u7 : Option VL) (p kind : Int) (u10 : Option VL) : Sl.Env :=
  [some (.o s), some (.d (rowL P)), some (.d (rowL R)), some (.d (.int g)), u4, some (.d (.int sl)), some (.o j), u7, some (.d (.int p)), some (.d (.int kind)), u10]
theorem skipEq {env : Sl.Env} {st : Sto} {R : Fl → Prop} {X : SS} {c kind : Int} (h : env[9]? = some (some (.d (.int kind)))) (hne : kind ≠ c) (w : R (.nx env st)) : wS (sIf (eOp oEq (eVar 9) (eC (.int c))) X sNx) env st R :=
  wS_if (wE_op (wE_var h (wE_c (wO_eqI (wB_dec (fun e => absurd e hne) (fun _ => wS_nx w))))))
theorem goEq {env : Sl.Env} {st : Sto} {R : Fl → Prop} {X : SS} {c kind : Int} (h : env[9]? = some (some (.d (.int kind)))) (he : kind = c) (w : wS X env st R) : wS (sIf (eOp oEq (eVar 9) (eC (.int c))) X sNx) env st R :=
  wS_if (wE_op (wE_var h (wE_c (wO_eqI (wB_dec (fun _ => w) (fun e => absurd he e))))))
theorem skipLt {env : Sl.Env} {st : Sto} {R : Fl → Prop} {X : SS} {c kind : Int} (h : env[9]? = some (some (.d (.int kind)))) (hne : ¬ kind < c) (w : R (.nx env st)) : wS (sIf (eOp oLt (eVar 9) (eC (.int c))) X sNx) env st R :=
  wS_if (wE_op (wE_var h (wE_c (wO_lt (wB_dec (fun e => absurd e hne) (fun _ => wS_nx w))))))
theorem goLt {env : Sl.Env} {st : Sto} {R : Fl → Prop} {X : SS} {c kind : Int} (h : env[9]? = some (some (.d (.int kind)))) (he : kind < c) (w : wS X env st R) : wS (sIf (eOp oLt (eVar 9) (eC (.int c))) X sNx) env st R :=
  wS_if (wE_op (wE_var h (wE_c (wO_lt (wB_dec (fun _ => w) (fun e => absurd he e))))))
noncomputable def sF : SS := (sIf (eNot (eCall (nFn 2 m__law_says) (aCons (eCall (nFn 3 m_are_slots) (aCons (eVar 2) (aCons (eVar 3) (aCons (eFrz (eVar 6)) aNil)))) (aCons (eCall (nFn 3 m__law_slots_right) (aCons (eVar 2) (aCons (eVar 3) (aCons (eFrz (eVar 6)) aNil)))) aNil)))) (sRet (eC (.bool false))) sNx)
theorem slots_fin {A : Sto} {s : Nat} {P R : List Int} {g : Int} (h1 : 1 ≤ R.length) (h2 : R.length ≤ 10) (hr : ∀ t ∈ R, 0 ≤ t ∧ t ≤ 99) (hg1 : 1 ≤ g) (hg8 : g ≤ 8) {u4 u7 u10 : Option VL} {sl p kind : Int} {l : Sto} {k n : Nat} (hn : A.length = n) {D : List PyData} (hk : l[k]? = some (.lst (D.map .d))) {R' : Fl → Prop}
    (y : ∀ l', R' (.nx (sE s P R g u4 sl (n + k) u7 p kind u10) (A ++ l'))) : wS sF (sE s P R g u4 sl (n + k) u7 p kind u10) (A ++ l) R' := by
  have hkl := (List.getElem?_eq_some_iff.mp hk).1
  have get : ∀ {l : Sto} {o : Ob}, l[k]? = some o → (A ++ l)[n + k]? = some o := fun {l o} h => by
    rw [← hn, List.getElem?_append_right (Nat.le_add_right _ _), Nat.add_sub_cancel_left]
    exact h
  have set : ∀ {l : Sto} {o : Ob}, (A ++ l).set (n + k) o = A ++ l.set k o := fun {l o} => by
    rw [← hn, List.set_append_right _ _ (Nat.le_add_right _ _), Nat.add_sub_cancel_left]
  unfold sF
  repeat' wp_step
  refine wZ_o (get hk) (allD_map' _) ?_
  rw [set]
  repeat' wp_step
  refine are_slots_wp h1 (by omega) hr hg1 (by omega) fun b1 hb1 => ?_
  repeat' wp_step
  refine wZ_fr (get (List.getElem?_set_self hkl)) ?_
  repeat' wp_step
  refine l_slots_right_wp h1 (by omega) hg1 fun b2 hb2 => ?_
  repeat' wp_step
  refine says_same hb1 hb2 ?_
  repeat' wp_step
  exact y _
theorem l_slots_judged_wp {st : Sto} {s : Nat} (hs : Src st s) {Q : VL → Sto → Prop} (q : ∀ a b, Q (.d (.bool true)) (st.set s (srcO a b))) : wF m__law_slots_judged [.o s] st Q := by
  have hA : ∀ a b, (st.set s (srcO a b)).length = st.length := fun a b => List.length_set
  refine wF_run ?_
  unfold c__law_slots_judged
  repeat' wp_step
  refine l_draw_wp hs (by decide) (by decide) fun r a b r0 r1 => ?_
  repeat' wp_step
  obtain ⟨m, hm⟩ := Int.eq_ofNat_of_zero_le (by omega : 0 ≤ 1 + r)
  rw [hm]
  refine ⟨m, rfl, by omega, ?_⟩
  refine compW (v := fun (i : Nat) => VL.d (.int (i : Int))) (fun i acc st' => ∃ ls : List Int, ∃ a b, acc = (ls.map .int).map .d ∧ ls.length = i ∧ (∀ t ∈ ls, 0 ≤ t ∧ t ≤ 99) ∧ st' = st.set s (srcO a b)) (by rw [List.length_range]; exact size_le (by omega)) ⟨[], a, b, rfl, rfl, (fun t ht => by cases ht), rfl⟩ (fun i x acc st' hx hI => ?_) (fun ys st' hI => ?_)
  · obtain ⟨ls, a, b, rfl, hll, hlr, rfl⟩ := hI
    refine ⟨_, rfl, wE_c (wB_t ?_)⟩
    unfold c__law_slots_judged_E3
    repeat' wp_step
    refine draw_0 hs (by decide) (by decide) fun r a b k0 k1 => ?_
    refine ⟨ls ++ [r], a, b, by rw [List.map_append, List.map_append]; rfl, by rw [List.length_append, List.length_singleton]; omega, fun t ht => ?_, rfl⟩
    rcases List.mem_append.mp ht with ht | ht
    · exact hlr t ht
    · rw [List.mem_singleton] at ht
      omega
  obtain ⟨P, a, b, rfl, hPl, hPr, rfl⟩ := hI
  rw [List.length_range] at hPl
  repeat' wp_step
  refine draw_0 hs (by decide) (by decide) fun r2 a b r20 r21 => ?_
  repeat' wp_step
  obtain ⟨m2, hm2⟩ := Int.eq_ofNat_of_zero_le (by omega : 0 ≤ 1 + r2)
  rw [hm2]
  refine ⟨m2, rfl, by omega, ?_⟩
  refine compW (v := fun (i : Nat) => VL.d (.int (i : Int))) (fun i acc st' => ∃ ls : List Int, ∃ a b, acc = (ls.map .int).map .d ∧ ls.length = i ∧ (∀ t ∈ ls, 0 ≤ t ∧ t ≤ 99) ∧ st' = st.set s (srcO a b)) (by rw [List.length_range]; exact size_le (by omega)) ⟨[], a, b, rfl, rfl, (fun t ht => by cases ht), rfl⟩ (fun i x acc st' hx hI => ?_) (fun ys st' hI => ?_)
  · obtain ⟨ls, a, b, rfl, hll, hlr, rfl⟩ := hI
    refine ⟨_, rfl, wE_c (wB_t ?_)⟩
    unfold c__law_slots_judged_E2
    repeat' wp_step
    rw [List.length_map]
    refine draw_0 hs (by omega) (by omega) fun r a b k0 k1 => ?_
    refine ixRm k0 k1 fun z hz => ?_
    refine ⟨ls ++ [z], a, b, by rw [List.map_append, List.map_append]; rfl, by rw [List.length_append, List.length_singleton]; omega, fun t ht => ?_, rfl⟩
    rcases List.mem_append.mp ht with ht | ht
    · exact hlr t ht
    · rw [List.mem_singleton] at ht
      subst ht
      exact hPr t hz
  obtain ⟨R, a, b, rfl, hRl, hRr, rfl⟩ := hI
  rw [List.length_range] at hRl
  have hR1 : 1 ≤ R.length := by omega
  have hR10 : R.length ≤ 10 := by omega
  repeat' wp_step
  refine draw_0 hs (by decide) (by decide) fun g0 a b g00 g01 => ?_
  refine wO_add ?_
  generalize hg : 1 + g0 = g
  have hg1 : 1 ≤ g := by omega
  have hg8 : g ≤ 8 := by omega
  refine seqK_nx (wS_seq (wS_for1 (wA_cons (wE_c (wA_nil ⟨6, rfl, by decide, ?_⟩)))))
  refine wL_rg (fun i env st' => (∃ l : Sl.Env, l.length = 7 ∧ env = some (.o s) :: some (.d (rowL P)) :: some (.d (rowL R)) :: some (.d (.int g)) :: l) ∧ ∃ a b, st' = st.set s (srcO a b))
    ⟨⟨_, rfl, rfl⟩, a, b, rfl⟩ (fun i env st' hi hI => ?_) (fun env st' hI => ?_)
  · obtain ⟨⟨l, hl, rfl⟩, a, b, rfl⟩ := hI
    match l, hl with
    | [x4, x5, x6, x7, x8, x9, x10], _ =>
    refine ⟨_, rfl, wS_cut ?_⟩
    unfold c__law_slots_judged_B1
    repeat' wp_step
    refine draw_0 hs (by decide) (by decide) fun f a1 b1 f0 f1 => ?_
    have hof : ∃ w : Int, atI [VL.d (.int 0), VL.d (.int 0), VL.d (.int 0), VL.d (.int 1)] f = some (.d (.int w)) := by
      rw [atI_int _ f0]
      have : f.toNat < 4 := by omega
      match h : f.toNat, this with
      | 0, _ => exact ⟨0, rfl⟩
      | 1, _ => exact ⟨0, rfl⟩
      | 2, _ => exact ⟨0, rfl⟩
      | 3, _ => exact ⟨1, rfl⟩
    obtain ⟨w, hw⟩ := hof
    refine wO_ixZ (k := false) rfl hw ?_
    repeat' wp_step
    rw [hA a1 b1]
    refine walk_ints (r := R) rfl (wL_ix (v := fun t => VL.d (.int t)) (fun i env st' => (∃ u4 u7 u8 u9 u10, ∃ sl : Int, env = [some (.o s), some (.d (rowL P)), some (.d (rowL R)), some (.d (.int g)), u4, some (.d (.int sl)), some (.o st.length), u7, u8, u9, u10]) ∧ ∃ xs : List Int, ∃ a b, xs.length = i ∧ st' = st.set s (srcO a b) ++ [.lst ((xs.map .int).map .d)])
      ⟨⟨_, _, _, _, _, w, rfl⟩, [], a1, b1, rfl, rfl⟩ (fun j t env st' ht hI => ?_) (fun env st' hI => ?_))
    · obtain ⟨⟨u4, u7, u8, u9, u10, sl, rfl⟩, xs, a2, b2, hxl, rfl⟩ := hI
      have hAl := hA a2 b2
      have hj := (List.getElem?_eq_some_iff.mp ht).1
      refine ⟨_, rfl, ?_⟩
      unfold c__law_slots_judged_B0
      repeat' wp_step
      · exact size_lt (by rw [List.length_map, List.length_map]; omega)
      · rw [setA0 hAl]
        refine draw_at hs (by decide) (by decide) fun r3 a3 b3 _ _ => ?_
        repeat' wp_step
        exact ⟨⟨_, _, _, _, _, _, rfl⟩, xs ++ [sl], a3, b3, by rw [List.length_append, List.length_singleton]; omega, by rw [List.map_append, List.map_append]; rfl⟩
    · obtain ⟨⟨u4, u7, u8, u9, u10, sl, rfl⟩, xs, a2, b2, hxl, rfl⟩ := hI
      have hAl := hA a2 b2
      repeat' wp_step
      refine wC_lenO (getA0 hAl) ?_
      rw [List.length_map, List.length_map, hxl]
      repeat' wp_step
      refine draw_at hs (by omega) (by omega) fun p a3 b3 p0 p1 => ?_
      repeat' wp_step
      refine draw_at hs (by decide) (by decide) fun kind a4 b4 _ _ => ?_
      have hAl4 := hA a4 b4
      -- what the rest of the turn needs
      have done : ∀ (a5 b5 : Int) (l' : Sto) (v4 v7 v10 : Option VL) (sl j p' kind' : Int) (jj : Nat), cutQ (st.set s (srcO a b)) (turnTo (fun env st' => (∃ l : Sl.Env, l.length = 7 ∧ env = some (.o s) :: some (.d (rowL P)) :: some (.d (rowL R)) :: some (.d (.int g)) :: l) ∧ ∃ a b, st' = st.set s (srcO a b))
          (seqK (sRet (eC (.bool true))) (fnQ Q))) (.nx (sE s P R g v4 sl jj v7 p' kind' v10) (st.set s (srcO a5 b5) ++ l')) := fun a5 b5 l' v4 v7 v10 sl j p' kind' jj => by
        have hF : Flt (st.set s (srcO a b)) (st.set s (srcO a5 b5)) := by
          have := (Flt.refl (st.set s (srcO a b))).set (n := s) (srcO_flat a5 b5)
          rwa [List.set_set] at this
        refine cutQ_nx (cutOk_flt hF) ?_
        rw [take_flt hF]
        refine turn_nx ⟨⟨[cutV (st.set s (srcO a b)).length v4, some (.d (.int sl)), cutV (st.set s (srcO a b)).length (some (.o jj)), cutV (st.set s (srcO a b)).length v7, some (.d (.int p')), some (.d (.int kind')), cutV (st.set s (srcO a b)).length v10], rfl, ?_⟩, a5, b5, rfl⟩
        simp only [cutE, sE, List.map_cons, List.map_nil]
        rw [cutV_o (m := s) (by rw [hA a b]; exact hs.lt)]
        rfl
      have hxk : p.toNat < xs.length := by omega
      have hpe : ((p.toNat : Nat) : Int) = p := Int.toNat_of_nonneg p0
      have hix : ixN ((xs.map PyData.int).map VL.d).length p = some p.toNat := ixN_int p0 (by rw [List.length_map, List.length_map, hxl]; exact p1)
      have hDl : (xs.map PyData.int).length = R.length := by rw [List.length_map, hxl]
      have fin : ∀ (a5 b5 : Int) (l : Sto) (k : Nat) (D : List PyData), l[k]? = some (.lst (D.map .d)) → _ := fun a5 b5 l k D hk => slots_fin (A := st.set s (srcO a5 b5)) (s := s) (P := P) (R := R) (g := g) hR1 hR10 hRr hg1 hg8 (u4 := u4) (u7 := u7) (u10 := u10) (sl := sl) (p := p) (kind := kind) (l := l) (k := k) (n := st.length) (hA a5 b5) (D := D) hk (fun l' => done a5 b5 l' u4 u7 u10 sl 0 p kind (st.length + k))
      generalize hDe : xs.map PyData.int = D at *
      have e1 : ∀ x y : Ob, (st.set s (srcO a4 b4) ++ [x]).length = st.length + 1 := fun x y => by rw [List.length_append, hAl4]; rfl
      have e2 : ∀ x y : Ob, st.set s (srcO a4 b4) ++ [x] ++ [y] = st.set s (srcO a4 b4) ++ [x, y] := fun x y => by rw [List.append_assoc]; rfl
      refine seqK_nx ?_
      show wS _ (sE s P R g u4 sl st.length u7 p kind u10) _ _
      by_cases k5 : kind < 5
      · refine wS_seq (goLt rfl k5 ?_)
        repeat' wp_step
        have hz : ∃ z : Int, atI (D.map VL.d) p = some (.d (.int z)) := by
          rw [← hDe, atI_int _ p0, List.getElem?_map, List.getElem?_map, List.getElem?_eq_getElem hxk]
          exact ⟨_, rfl⟩
        obtain ⟨z, hz⟩ := hz
        refine wO_ixZ (asSeq_o (getA0 hAl4)) hz ?_
        repeat' wp_step
        have hw2 : ∃ z2 : Int, atI [VL.d (.int 0), VL.d (.int 0), VL.d (.int 1), VL.d (.int g), VL.d (.int (2 * g))] kind = some (.d (.int z2)) := by
          rw [atI_int _ (by assumption)]
          have : kind.toNat < 5 := by omega
          match h : kind.toNat, this with
          | 0, _ => exact ⟨0, rfl⟩
          | 1, _ => exact ⟨0, rfl⟩
          | 2, _ => exact ⟨1, rfl⟩
          | 3, _ => exact ⟨g, rfl⟩
          | 4, _ => exact ⟨2 * g, rfl⟩
        obtain ⟨z2, hz2⟩ := hw2
        refine wO_ixZ (k := false) rfl hz2 ?_
        repeat' wp_step
        refine wU_o (getA0 hAl4) hix ?_
        rw [setA0 hAl4, ← List.map_set]
        refine seqK_nx ?_
        refine wS_seq (skipEq rfl (by omega) (seqK_nx ?_))
        refine wS_seq (skipEq rfl (by omega) (seqK_nx ?_))
        refine wS_seq (skipEq rfl (by omega) (seqK_nx ?_))
        exact fin a4 b4 [_] 0 _ rfl
      · refine wS_seq (skipLt rfl k5 (seqK_nx ?_))
        by_cases e5 : kind = 5
        · refine wS_seq (goEq rfl e5 ?_)
          repeat' wp_step
          refine slO (getA0 hAl4) ?_
          repeat' wp_step
          refine slO (getA0 hAl4) ?_
          have d1 := cutG_len D none (some p)
          have d2 := cutG_len D (some (p + 1)) none
          refine wO_addL (fun _ h => by cases h) (fun _ h => by cases h) rfl rfl (size_le (by rw [List.length_map, List.length_map]; omega)) ?_
          rw [← List.map_append]
          refine wM_N ?_
          rw [e1 _ (.lst []), e2]
          refine seqK_nx ?_
          show wS _ (sE s P R g u4 sl (st.length + 1) u7 p kind u10) _ _
          refine wS_seq (skipEq rfl (by omega) (seqK_nx ?_))
          refine wS_seq (skipEq rfl (by omega) (seqK_nx ?_))
          exact fin a4 b4 [_, _] 1 _ rfl
        · refine wS_seq (skipEq rfl e5 (seqK_nx ?_))
          by_cases e6 : kind = 6
          · refine wS_seq (goEq rfl e6 ?_)
            repeat' wp_step
            refine wO_addL (fun _ h => by cases h) (fun _ h => by cases h) (asSeq_o (getA0 hAl4)) rfl (size_le (by rw [List.length_map]; simp; omega)) ?_
            rw [← List.map_append]
            refine wM_N ?_
            rw [e1 _ (.lst []), e2]
            refine seqK_nx ?_
            show wS _ (sE s P R g u4 sl (st.length + 1) u7 p kind u10) _ _
            refine wS_seq (skipEq rfl (by omega) (seqK_nx ?_))
            exact fin a4 b4 [_, _] 1 _ rfl
          · refine wS_seq (skipEq rfl e6 (seqK_nx ?_))
            by_cases e7 : kind = 7
            · refine wS_seq (goEq rfl e7 ?_)
              repeat' wp_step
              refine draw_at hs (by decide) (by decide) fun r5 a5 b5 r50 r51 => ?_
              have hAl5 := hA a5 b5
              have hw3 : ∃ z3 : PyData, atI [VL.d (.bool true), VL.d (.bool false), VL.d .none, VL.d (.int (-1)), VL.d (.int 10000), VL.d (.str (Str.ofString "0"))] r5 = some (.d z3) := by
                rw [atI_int _ r50]
                have : r5.toNat < 6 := by omega
                match h : r5.toNat, this with
                | 0, _ => exact ⟨_, rfl⟩
                | 1, _ => exact ⟨_, rfl⟩
                | 2, _ => exact ⟨_, rfl⟩
                | 3, _ => exact ⟨_, rfl⟩
                | 4, _ => exact ⟨_, rfl⟩
                | 5, _ => exact ⟨_, rfl⟩
              obtain ⟨z3, hz3⟩ := hw3
              refine wO_ixZ (k := false) rfl hz3 ?_
              repeat' wp_step
              refine wU_o (getA0 hAl5) hix ?_
              rw [setA0 hAl5, ← List.map_set]
              refine seqK_nx ?_
              exact fin a5 b5 [_] 0 _ rfl
            · refine wS_seq (skipEq rfl e7 (seqK_nx ?_))
              exact fin a4 b4 [_] 0 D rfl
  · obtain ⟨⟨l, hl, rfl⟩, a, b, rfl⟩ := hI
    repeat' wp_step
    exact q a b
end K75
set_option Elab.async false
set_option linter.all false
set_option autoImplicit false
set_option maxRecDepth 100000
set_option maxHeartbeats 2000000
namespace K75
open PySem PySem.Spec PyProof.Rows L2 Sl
local macro_rules | `(tactic| wp_step) => `(tactic| first
  | with_reducible refine wS_seq ?_
  | with_reducible refine seqK_nx ?_
  | with_reducible refine seqK_rt ?_
  | with_reducible refine seqK_bk ?_
  | with_reducible refine seqK_ct ?_
  | with_reducible refine fnQ_nx ?_
  | with_reducible refine fnQ_rt ?_
  | with_reducible refine turn_nx ?_
  | with_reducible refine turn_ct ?_
  | with_reducible refine turn_bk ?_
  | with_reducible refine turn_rt ?_
  | with_reducible refine wS_if ?_
  | with_reducible refine wS_set ?_
  | with_reducible refine wS_asg ?_
  | with_reducible refine wS_ret ?_
  | with_reducible refine wS_drop ?_
  | with_reducible refine wS_nx ?_
  | with_reducible refine wS_bk ?_
  | with_reducible refine wS_ct ?_
  | with_reducible refine wS_forS ?_
  | with_reducible refine wS_for1 ?_
  | with_reducible refine wS_setL ?_
  | with_reducible refine wS_dputK ?_
  | with_reducible refine wE_op ?_
  | with_reducible refine wE_c ?_
  | ((with_reducible apply wE_var); rfl)
  | with_reducible refine wE_call ?_
  | with_reducible refine wE_cb ?_
  | with_reducible refine wE_and ?_
  | with_reducible refine wE_or ?_
  | with_reducible refine wE_not ?_
  | with_reducible refine wE_if ?_
  | with_reducible refine wE_isi ?_
  | with_reducible refine wE_chain ?_
  | with_reducible refine wE_neg ?_
  | with_reducible refine wE_lst ?_
  | with_reducible refine wE_tup ?_
  | with_reducible refine wE_frz ?_
  | with_reducible refine wE_append ?_
  | with_reducible refine wE_sl ?_
  | with_reducible refine wE_rev ?_
  | with_reducible refine wE_dnew ?_
  | with_reducible refine wZ_d ?_
  | ((with_reducible apply isO_o); (first | assumption | exact app_get0 | exact app_get1 | exact app_get2 | exact List.getElem?_set_self (by assumption) | exact List.getElem?_set_self (by rw [List.length_set]; assumption) | (rw [List.getElem?_append_right (Nat.le_refl _), Nat.sub_self]; rfl) | exact getA0 (by assumption) | exact getA1 (by assumption)))
  | ((with_reducible apply wApp_o); (first | assumption | exact app_get0 | exact app_get1 | exact app_get2 | exact List.getElem?_set_self (by assumption) | exact List.getElem?_set_self (by rw [List.length_set]; assumption) | (rw [List.getElem?_append_right (Nat.le_refl _), Nat.sub_self]; rfl) | exact getA0 (by assumption) | exact getA1 (by assumption)))
  | ((with_reducible apply wD_o); (first | assumption | exact app_get0 | exact app_get1 | exact app_get2 | exact List.getElem?_set_self (by assumption) | exact List.getElem?_set_self (by rw [List.length_set]; assumption) | (rw [List.getElem?_append_right (Nat.le_refl _), Nat.sub_self]; rfl) | exact getA0 (by assumption) | exact getA1 (by assumption)))
  | ((with_reducible apply wZ_o); (first | assumption | exact app_get0 | exact app_get1 | exact app_get2 | exact List.getElem?_set_self (by assumption) | exact List.getElem?_set_self (by rw [List.length_set]; assumption) | (rw [List.getElem?_append_right (Nat.le_refl _), Nat.sub_self]; rfl) | exact getA0 (by assumption) | exact getA1 (by assumption)); exact allD_map' _)
  | with_reducible refine wE_rep ?_
  | with_reducible refine wE_sortSet ?_
  | with_reducible refine wE_lenSet ?_
  | with_reducible refine wE_comp1 ?_
  | with_reducible refine wE_compS ?_
  | with_reducible refine wP_none ?_
  | with_reducible refine wP_some ?_
  | with_reducible refine wA_nil ?_
  | with_reducible refine wA_cons ?_
  | with_reducible refine wA_app ?_
  | with_reducible refine wB_t ?_
  | with_reducible refine wB_f ?_
  | with_reducible refine wB_nt ?_
  | with_reducible refine wB_nf ?_
  | with_reducible refine wB_dec (fun _ => ?_) (fun _ => ?_)
  | with_reducible refine wB_not (fun _ => ?_) (fun _ => ?_)
  | with_reducible refine wB_nb (fun _ => ?_) (fun _ => ?_)
  | with_reducible refine wB_b (fun _ => ?_) (fun _ => ?_)
  | with_reducible refine wO_sub ?_
  | ((with_reducible apply wO_inS0); rfl)
  | ((with_reducible apply wO_inS1); rfl)
  | ((with_reducible apply wO_inD0); (first | assumption | exact app_get0 | exact app_get1 | exact app_get2 | exact List.getElem?_set_self (by assumption) | exact List.getElem?_set_self (by rw [List.length_set]; assumption) | (rw [List.getElem?_append_right (Nat.le_refl _), Nat.sub_self]; rfl) | exact getA0 (by assumption) | exact getA1 (by assumption)))
  | ((with_reducible apply wO_inD1); (first | assumption | exact app_get0 | exact app_get1 | exact app_get2 | exact List.getElem?_set_self (by assumption) | exact List.getElem?_set_self (by rw [List.length_set]; assumption) | (rw [List.getElem?_append_right (Nat.le_refl _), Nat.sub_self]; rfl) | exact getA0 (by assumption) | exact getA1 (by assumption)))
  | with_reducible refine wO_lt ?_
  | with_reducible refine wO_le ?_
  | with_reducible refine wO_gt ?_
  | with_reducible refine wO_ge ?_
  | with_reducible refine wO_add ?_
  | with_reducible refine wO_eqI ?_
  | with_reducible refine wO_neI ?_
  | with_reducible refine wO_isN ?_
  | with_reducible refine wO_notN ?_
  | with_reducible refine wC_lenL ?_
  | with_reducible refine wC_lenT ?_
  | with_reducible refine wC_int ?_
  | ((with_reducible apply wC_lenD); (first | assumption | exact app_get0 | exact app_get1 | exact app_get2 | exact List.getElem?_set_self (by assumption) | exact List.getElem?_set_self (by rw [List.length_set]; assumption) | (rw [List.getElem?_append_right (Nat.le_refl _), Nat.sub_self]; rfl) | exact getA0 (by assumption) | exact getA1 (by assumption)))
  | with_reducible refine wC_abs ?_
  | with_reducible refine wM_N ?_
  | with_reducible refine wM_Dm ?_
  | with_reducible refine wM_Tm ?_
  | ((with_reducible apply wM_T); rfl)
  | ((with_reducible apply wM_D); rfl)
  | (with_reducible refine Exists.intro _ (And.intro rfl ?_))
  | (with_reducible refine And.intro rfl ?_)
  | ((with_reducible refine And.intro (size_small ?_) ?_); rfl)
  | with_reducible refine wO_pow6 ?_
  | ((with_reducible refine wO_mulR ?_ ?_); decide)
  | ((with_reducible refine wO_mulL ?_ ?_); decide)
  | ((with_reducible refine wO_mod ?_ ?_); omega)
  | ((with_reducible refine wO_div ?_ ?_ ?_); omega; omega)
  | ((with_reducible apply wU_o); (first | assumption | exact app_get0 | exact app_get1 | exact app_get2 | exact List.getElem?_set_self (by assumption) | exact List.getElem?_set_self (by rw [List.length_set]; assumption) | (rw [List.getElem?_append_right (Nat.le_refl _), Nat.sub_self]; rfl) | exact getA0 (by assumption) | exact getA1 (by assumption)); rfl)
  | ((with_reducible apply wO_ixZ); (apply asSeq_o; (first | assumption | exact app_get0 | exact app_get1 | exact app_get2 | exact List.getElem?_set_self (by assumption) | exact List.getElem?_set_self (by rw [List.length_set]; assumption) | (rw [List.getElem?_append_right (Nat.le_refl _), Nat.sub_self]; rfl) | exact getA0 (by assumption) | exact getA1 (by assumption))); rfl))
/-! ### the law -/
theorem law_wp {ns : List Int} {st : Sto} {Q : VL → Sto → Prop} (q : ∀ st', Q (.d (.bool true)) st') : wF m_law [.d (.list (ns.map .int))] st Q := by
  refine wF_run ?_
  unfold c_law
  repeat' wp_step
  refine l_table_wp fun T hT => ?_
  have hlen := hT.len
  repeat' wp_step
  refine comp_rows ⟨_, _, comp_pure (v := fun r => VL.d (rowL r)) (fun _ => true) (fun r => VL.d (rowL r)) (size_le (by omega)) (fun r hr => ?_), ?_⟩
  · refine ⟨_, rfl, ?_, fun _ => ?_⟩
    · repeat' wp_step
      exact rfl
    · unfold c_law_E0
      repeat' wp_step
      refine wC_list (k := false) (xs := (r.map PyData.int).map .d) (by rfl) ?_
      repeat' wp_step
      exact rfl
  · rw [filt_true, ← map_map']
    repeat' wp_step
    refine l_needed_wp hT fun N hN => ?_
    have H : Two T N := ⟨hT, hN⟩
    have sB : ∀ {A : Sto} {a b : Int}, Src (A ++ [srcO a b]) A.length := fun {A a b} => ⟨a, b, app_get0⟩
    repeat' wp_step
    refine l_source_wp (by decide) fun a b => ?_
    repeat' wp_step
    refine l_draw_wp sB (by decide) (by decide) fun r a1 b1 _ _ => ?_
    rw [app_set0]
    repeat' wp_step
    refine l_parts_judged_wp H sB fun a2 b2 => ?_
    rw [app_set0]
    repeat' wp_step
    refine l_source_wp (by decide) fun a3 b3 => ?_
    repeat' wp_step
    refine l_tasks_judged_wp H sB fun a4 b4 => ?_
    rw [app_set0]
    repeat' wp_step
    refine l_source_wp (by decide) fun a5 b5 => ?_
    repeat' wp_step
    refine l_slots_judged_wp sB fun a6 b6 => ?_
    repeat' wp_step
    refine wO_eqTab (A := T) (B := T) rfl rfl ?_
    rw [decide_eq_true rfl]
    repeat' wp_step
    exact q _
theorem law_end {P : Program} {w : World} {K : PySem.W.Frag} {mg : Str → Option Value} (W : Wd K mg) : ∃ sp : Sp, (∀ (H : Hp) (a : Addr) (ns : List Int), ns.length ≤ 63 → Only H → SqL K H a (ns.map V.int) → sp [.ref a] H (fun v _ => v = .bl true) fun _ _ _ => False) ∧
    ∀ base : Heap, FnOk P w K mg base CX0 8 (He.ga K "law") W.d_law.choose ["script"] sp := by
  refine ⟨spF K ⟨fun _ => 0, fun _ _ _ _ _ => False⟩ 1 m_law, fun H a ns _ _ hS => ?_, fun base => ok_law W⟩
  obtain ⟨r, st', h1, h2⟩ := law_wp (ns := ns) (st := []) (Q := fun r _ => r = .d (.bool true)) fun _ => rfl
  subst h2
  have hd : ∀ ns : List Int, DqAll K H (ns.map V.int) (ns.map .int) := fun ns => by
    induction ns with
    | nil => exact .nil
    | cons x ns ih => exact .cons (.int x) ih
  refine ⟨[], H, [], [.d (.list (ns.map .int))], _, ⟨rfl, List.nodup_nil, fun _ _ e => e, fun _ h => (nomatch h), fun i a b h => (nomatch h)⟩, .cons (.lst hS (hd ns)) .nil, rfl, h1, ?_⟩
  intro v ρ' F' H' _ _ hv
  exact vr_bool hv
end K75
set_option Elab.async false
set_option linter.all false
set_option maxRecDepth 100000
set_option maxHeartbeats 0
namespace K75
open PySem PySem.Spec PyProof.Rows L2 Sl
def dd_is_whole : He.DefD := ⟨("is_whole", none), "is_whole", "is_whole", defArgs s_is_whole, defBody s_is_whole, defScope s_is_whole, [], []⟩
def dd_is_row : He.DefD := ⟨("is_row", none), "is_row", "is_row", defArgs s_is_row, defBody s_is_row, defScope s_is_row, [], []⟩
def dd_is_between : He.DefD := ⟨("is_between", none), "is_between", "is_between", defArgs s_is_between, defBody s_is_between, defScope s_is_between, [], []⟩
def dd_is_rising : He.DefD := ⟨("is_rising", none), "is_rising", "is_rising", defArgs s_is_rising, defBody s_is_rising, defScope s_is_rising, [], []⟩
def dd_union : He.DefD := ⟨("union", none), "union", "union", defArgs s_union, defBody s_union, defScope s_union, [], []⟩
def dd_is_needs_row : He.DefD := ⟨("is_needs_row", none), "is_needs_row", "is_needs_row", defArgs s_is_needs_row, defBody s_is_needs_row, defScope s_is_needs_row, [], []⟩
def dd_is_ready : He.DefD := ⟨("is_ready", none), "is_ready", "is_ready", defArgs s_is_ready, defBody s_is_ready, defScope s_is_ready, [], []⟩
def dd_order_of : He.DefD := ⟨("order_of", none), "order_of", "order_of", defArgs s_order_of, defBody s_order_of, defScope s_order_of, [], []⟩
def dd_check_table : He.DefD := ⟨("check_table", none), "check_table", "check_table", defArgs s_check_table, defBody s_check_table, defScope s_check_table, [], []⟩
def dd_all_needs : He.DefD := ⟨("all_needs", none), "all_needs", "all_needs", defArgs s_all_needs, defBody s_all_needs, defScope s_all_needs, [], []⟩
def dd_chain_in : He.DefD := ⟨("chain_in", none), "chain_in", "chain_in", defArgs s_chain_in, defBody s_chain_in, defScope s_chain_in, [], []⟩
def dd_is_chain : He.DefD := ⟨("is_chain", none), "is_chain", "is_chain", defArgs s_is_chain, defBody s_is_chain, defScope s_is_chain, [], []⟩
def dd_fits_slot : He.DefD := ⟨("fits_slot", none), "fits_slot", "fits_slot", defArgs s_fits_slot, defBody s_fits_slot, defScope s_fits_slot, [], []⟩
def dd_is_schedule : He.DefD := ⟨("is_schedule", none), "is_schedule", "is_schedule", defArgs s_is_schedule, defBody s_is_schedule, defScope s_is_schedule, [], [("members", .int 2)]⟩
def dd_needs_all : He.DefD := ⟨("needs_all", none), "needs_all", "needs_all", defArgs s_needs_all, defBody s_needs_all, defScope s_needs_all, [], []⟩
def dd_are_blocks : He.DefD := ⟨("are_blocks", none), "are_blocks", "are_blocks", defArgs s_are_blocks, defBody s_are_blocks, defScope s_are_blocks, [], []⟩
def dd_check_route : He.DefD := ⟨("check_route", none), "check_route", "check_route", defArgs s_check_route, defBody s_check_route, defScope s_check_route, [], []⟩
def dd_wrong_slot : He.DefD := ⟨("wrong_slot", none), "wrong_slot", "wrong_slot", defArgs s_wrong_slot, defBody s_wrong_slot, defScope s_wrong_slot, [], []⟩
def dd_check_gap : He.DefD := ⟨("check_gap", none), "check_gap", "check_gap", defArgs s_check_gap, defBody s_check_gap, defScope s_check_gap, [], []⟩
def dd_meeting : He.DefD := ⟨("meeting", none), "meeting", "meeting", defArgs s_meeting, defBody s_meeting, defScope s_meeting, [], []⟩
def dd_are_slots : He.DefD := ⟨("are_slots", none), "are_slots", "are_slots", defArgs s_are_slots, defBody s_are_slots, defScope s_are_slots, [], []⟩
def dd_are_independent : He.DefD := ⟨("are_independent", none), "are_independent", "are_independent", defArgs s_are_independent, defBody s_are_independent, defScope s_are_independent, [], []⟩
def dd_are_rows : He.DefD := ⟨("are_rows", none), "are_rows", "are_rows", defArgs s_are_rows, defBody s_are_rows, defScope s_are_rows, [], []⟩
def dd__law_source : He.DefD := ⟨("_law_source", none), "_law_source", "_law_source", defArgs s__law_source, defBody s__law_source, defScope s__law_source, [], []⟩
def dd__law_draw : He.DefD := ⟨("_law_draw", none), "_law_draw", "_law_draw", defArgs s__law_draw, defBody s__law_draw, defScope s__law_draw, [], []⟩
def dd__law_is_integer : He.DefD := ⟨("_law_is_integer", none), "_law_is_integer", "_law_is_integer", defArgs s__law_is_integer, defBody s__law_is_integer, defScope s__law_is_integer, [], []⟩
def dd__law_table : He.DefD := ⟨("_law_table", none), "_law_table", "_law_table", defArgs s__law_table, defBody s__law_table, defScope s__law_table, [], []⟩
def dd__law_needed : He.DefD := ⟨("_law_needed", none), "_law_needed", "_law_needed", defArgs s__law_needed, defBody s__law_needed, defScope s__law_needed, [], []⟩
def dd__law_is_row : He.DefD := ⟨("_law_is_row", none), "_law_is_row", "_law_is_row", defArgs s__law_is_row, defBody s__law_is_row, defScope s__law_is_row, [], []⟩
def dd__law_rising : He.DefD := ⟨("_law_rising", none), "_law_rising", "_law_rising", defArgs s__law_rising, defBody s__law_rising, defScope s__law_rising, [], []⟩
def dd__law_schedule : He.DefD := ⟨("_law_schedule", none), "_law_schedule", "_law_schedule", defArgs s__law_schedule, defBody s__law_schedule, defScope s__law_schedule, [], []⟩
def dd__law_blocks : He.DefD := ⟨("_law_blocks", none), "_law_blocks", "_law_blocks", defArgs s__law_blocks, defBody s__law_blocks, defScope s__law_blocks, [], []⟩
def dd__law_chain : He.DefD := ⟨("_law_chain", none), "_law_chain", "_law_chain", defArgs s__law_chain, defBody s__law_chain, defScope s__law_chain, [], []⟩
def dd__law_cover : He.DefD := ⟨("_law_cover", none), "_law_cover", "_law_cover", defArgs s__law_cover, defBody s__law_cover, defScope s__law_cover, [], []⟩
def dd__law_apart : He.DefD := ⟨("_law_apart", none), "_law_apart", "_law_apart", defArgs s__law_apart, defBody s__law_apart, defScope s__law_apart, [], []⟩
def dd__law_order : He.DefD := ⟨("_law_order", none), "_law_order", "_law_order", defArgs s__law_order, defBody s__law_order, defScope s__law_order, [], []⟩
def dd__law_parts : He.DefD := ⟨("_law_parts", none), "_law_parts", "_law_parts", defArgs s__law_parts, defBody s__law_parts, defScope s__law_parts, [], []⟩
def dd__law_runs : He.DefD := ⟨("_law_runs", none), "_law_runs", "_law_runs", defArgs s__law_runs, defBody s__law_runs, defScope s__law_runs, [], []⟩
def dd__law_bent : He.DefD := ⟨("_law_bent", none), "_law_bent", "_law_bent", defArgs s__law_bent, defBody s__law_bent, defScope s__law_bent, [], []⟩
def dd__law_as_tuples : He.DefD := ⟨("_law_as_tuples", none), "_law_as_tuples", "_law_as_tuples", defArgs s__law_as_tuples, defBody s__law_as_tuples, defScope s__law_as_tuples, [], []⟩
def dd__law_says : He.DefD := ⟨("_law_says", none), "_law_says", "_law_says", defArgs s__law_says, defBody s__law_says, defScope s__law_says, [], []⟩
def dd__law_parts_judged : He.DefD := ⟨("_law_parts_judged", none), "_law_parts_judged", "_law_parts_judged", defArgs s__law_parts_judged, defBody s__law_parts_judged, defScope s__law_parts_judged, [], []⟩
def dd__law_tasks_judged : He.DefD := ⟨("_law_tasks_judged", none), "_law_tasks_judged", "_law_tasks_judged", defArgs s__law_tasks_judged, defBody s__law_tasks_judged, defScope s__law_tasks_judged, [], []⟩
def dd__law_slots_right : He.DefD := ⟨("_law_slots_right", none), "_law_slots_right", "_law_slots_right", defArgs s__law_slots_right, defBody s__law_slots_right, defScope s__law_slots_right, [], []⟩
def dd__law_slots_judged : He.DefD := ⟨("_law_slots_judged", none), "_law_slots_judged", "_law_slots_judged", defArgs s__law_slots_judged, defBody s__law_slots_judged, defScope s__law_slots_judged, [], []⟩
def dd_law : He.DefD := ⟨("law", none), "law", "law", defArgs s_law, defBody s_law, defScope s_law, [], []⟩
def hFn0 : List He.DefD := [dd_is_whole, dd_is_row, dd_is_between, dd_is_rising, dd_union, dd_is_needs_row, dd_is_ready, dd_order_of, dd_check_table, dd_all_needs, dd_chain_in, dd_is_chain, dd_fits_slot, dd_is_schedule, dd_needs_all, dd_are_blocks, dd_check_route, dd_wrong_slot, dd_check_gap, dd_meeting, dd_are_slots, dd_are_independent, dd_are_rows, dd__law_source, dd__law_draw, dd__law_is_integer, dd__law_table, dd__law_needed, dd__law_is_row, dd__law_rising]
def hFn1 : List He.DefD := [dd__law_schedule, dd__law_blocks, dd__law_chain, dd__law_cover, dd__law_apart, dd__law_order, dd__law_parts, dd__law_runs, dd__law_bent, dd__law_as_tuples, dd__law_says, dd__law_parts_judged, dd__law_tasks_judged, dd__law_slots_right, dd__law_slots_judged, dd_law]
def hFn : List He.DefD := hFn0 ++ hFn1
def hFa0 : List He.Fa := [.glo "is_whole", .glo "is_row", .glo "is_between", .glo "is_rising", .glo "union", .glo "is_needs_row", .glo "is_ready", .glo "order_of", .glo "check_table", .glo "all_needs", .glo "chain_in", .glo "is_chain", .glo "fits_slot", .glo "is_schedule", .glo "needs_all", .glo "are_blocks", .glo "check_route", .glo "wrong_slot", .glo "check_gap", .glo "meeting", .glo "are_slots", .glo "are_independent", .glo "are_rows", .glo "_law_source", .glo "_law_draw", .glo "_law_is_integer", .glo "_law_table", .glo "_law_needed", .glo "_law_is_row", .glo "_law_rising"]
def hFa1 : List He.Fa := [.glo "_law_schedule", .glo "_law_blocks", .glo "_law_chain", .glo "_law_cover", .glo "_law_apart", .glo "_law_order", .glo "_law_parts", .glo "_law_runs", .glo "_law_bent", .glo "_law_as_tuples", .glo "_law_says", .glo "_law_parts_judged", .glo "_law_tasks_judged", .glo "_law_slots_right", .glo "_law_slots_judged", .glo "law", .free "abs", .free "bool", .free "int", .free "isinstance", .free "len", .free "list", .free "range", .free "set", .free "sorted", .free "tuple", .int "LAST_ROOM" 99, .int "LAST_SLOT" 9999, .int "MOST_GAP" 10000, .int "MOST_STEPS" 60]
def hFa2 : List He.Fa := [.int "MOST_TASKS" 40]
def hFa : List He.Fa := hFa0 ++ hFa1 ++ hFa2
def hLo0 : List PySem.Str := ["is_whole", "is_row", "is_between", "is_rising", "union", "RiddleError", "TooMany", "BadTable", "Cyclic", "BadRoute", "TooTight", "MOST_TASKS", "is_needs_row", "is_ready", "order_of", "check_table", "all_needs", "chain_in", "is_chain", "fits_slot", "is_schedule", "needs_all", "are_blocks", "MOST_STEPS", "MOST_GAP", "LAST_ROOM", "LAST_SLOT", "check_route", "wrong_slot", "check_gap"]
def hLo1 : List PySem.Str := ["meeting", "are_slots", "are_independent", "are_rows", "_law_source", "_law_draw", "_law_is_integer", "_law_table", "_law_needed", "_law_is_row", "_law_rising", "_law_schedule", "_law_blocks", "_law_chain", "_law_cover", "_law_apart", "_law_order", "_law_parts", "_law_runs", "_law_bent", "_law_as_tuples", "_law_says", "_law_parts_judged", "_law_tasks_judged", "_law_slots_right", "_law_slots_judged"]
def hLo : List PySem.Str := hLo0 ++ hLo1
theorem wd_of {K : PySem.W.Frag} {h : Heap} {mg : Str → Option Value} (X : K.In h) (G : h.Ns mainGlobals mg) (c : He.SaysD hFa hFn K) : Wd K mg where
  g_is_whole := He.glo_ok X G (c.fact 0 (f := .glo "is_whole") rfl)
  g_is_row := He.glo_ok X G (c.fact 1 (f := .glo "is_row") rfl)
  g_is_between := He.glo_ok X G (c.fact 2 (f := .glo "is_between") rfl)
  g_is_rising := He.glo_ok X G (c.fact 3 (f := .glo "is_rising") rfl)
  g_union := He.glo_ok X G (c.fact 4 (f := .glo "union") rfl)
  g_is_needs_row := He.glo_ok X G (c.fact 5 (f := .glo "is_needs_row") rfl)
  g_is_ready := He.glo_ok X G (c.fact 6 (f := .glo "is_ready") rfl)
  g_order_of := He.glo_ok X G (c.fact 7 (f := .glo "order_of") rfl)
  g_check_table := He.glo_ok X G (c.fact 8 (f := .glo "check_table") rfl)
  g_all_needs := He.glo_ok X G (c.fact 9 (f := .glo "all_needs") rfl)
  g_chain_in := He.glo_ok X G (c.fact 10 (f := .glo "chain_in") rfl)
  g_is_chain := He.glo_ok X G (c.fact 11 (f := .glo "is_chain") rfl)
  g_fits_slot := He.glo_ok X G (c.fact 12 (f := .glo "fits_slot") rfl)
  g_is_schedule := He.glo_ok X G (c.fact 13 (f := .glo "is_schedule") rfl)
  g_needs_all := He.glo_ok X G (c.fact 14 (f := .glo "needs_all") rfl)
  g_are_blocks := He.glo_ok X G (c.fact 15 (f := .glo "are_blocks") rfl)
  g_check_route := He.glo_ok X G (c.fact 16 (f := .glo "check_route") rfl)
  g_wrong_slot := He.glo_ok X G (c.fact 17 (f := .glo "wrong_slot") rfl)
  g_check_gap := He.glo_ok X G (c.fact 18 (f := .glo "check_gap") rfl)
  g_meeting := He.glo_ok X G (c.fact 19 (f := .glo "meeting") rfl)
  g_are_slots := He.glo_ok X G (c.fact 20 (f := .glo "are_slots") rfl)
  g_are_independent := He.glo_ok X G (c.fact 21 (f := .glo "are_independent") rfl)
  g_are_rows := He.glo_ok X G (c.fact 22 (f := .glo "are_rows") rfl)
  g__law_source := He.glo_ok X G (c.fact 23 (f := .glo "_law_source") rfl)
  g__law_draw := He.glo_ok X G (c.fact 24 (f := .glo "_law_draw") rfl)
  g__law_is_integer := He.glo_ok X G (c.fact 25 (f := .glo "_law_is_integer") rfl)
  g__law_table := He.glo_ok X G (c.fact 26 (f := .glo "_law_table") rfl)
  g__law_needed := He.glo_ok X G (c.fact 27 (f := .glo "_law_needed") rfl)
  g__law_is_row := He.glo_ok X G (c.fact 28 (f := .glo "_law_is_row") rfl)
  g__law_rising := He.glo_ok X G (c.fact 29 (f := .glo "_law_rising") rfl)
  g__law_schedule := He.glo_ok X G (c.fact 30 (f := .glo "_law_schedule") rfl)
  g__law_blocks := He.glo_ok X G (c.fact 31 (f := .glo "_law_blocks") rfl)
  g__law_chain := He.glo_ok X G (c.fact 32 (f := .glo "_law_chain") rfl)
  g__law_cover := He.glo_ok X G (c.fact 33 (f := .glo "_law_cover") rfl)
  g__law_apart := He.glo_ok X G (c.fact 34 (f := .glo "_law_apart") rfl)
  g__law_order := He.glo_ok X G (c.fact 35 (f := .glo "_law_order") rfl)
  g__law_parts := He.glo_ok X G (c.fact 36 (f := .glo "_law_parts") rfl)
  g__law_runs := He.glo_ok X G (c.fact 37 (f := .glo "_law_runs") rfl)
  g__law_bent := He.glo_ok X G (c.fact 38 (f := .glo "_law_bent") rfl)
  g__law_as_tuples := He.glo_ok X G (c.fact 39 (f := .glo "_law_as_tuples") rfl)
  g__law_says := He.glo_ok X G (c.fact 40 (f := .glo "_law_says") rfl)
  g__law_parts_judged := He.glo_ok X G (c.fact 41 (f := .glo "_law_parts_judged") rfl)
  g__law_tasks_judged := He.glo_ok X G (c.fact 42 (f := .glo "_law_tasks_judged") rfl)
  g__law_slots_right := He.glo_ok X G (c.fact 43 (f := .glo "_law_slots_right") rfl)
  g__law_slots_judged := He.glo_ok X G (c.fact 44 (f := .glo "_law_slots_judged") rfl)
  g_law := He.glo_ok X G (c.fact 45 (f := .glo "law") rfl)
  b_abs := He.free_ok X G (c.fact 46 (f := .free "abs") rfl)
  b_bool := He.free_ok X G (c.fact 47 (f := .free "bool") rfl)
  b_int := He.free_ok X G (c.fact 48 (f := .free "int") rfl)
  b_isinstance := He.free_ok X G (c.fact 49 (f := .free "isinstance") rfl)
  b_len := He.free_ok X G (c.fact 50 (f := .free "len") rfl)
  b_list := He.free_ok X G (c.fact 51 (f := .free "list") rfl)
  b_range := He.free_ok X G (c.fact 52 (f := .free "range") rfl)
  b_set := He.free_ok X G (c.fact 53 (f := .free "set") rfl)
  b_sorted := He.free_ok X G (c.fact 54 (f := .free "sorted") rfl)
  b_tuple := He.free_ok X G (c.fact 55 (f := .free "tuple") rfl)
  i_LAST_ROOM := He.int_ok X G (c.fact 56 (f := .int "LAST_ROOM" 99) rfl)
  i_LAST_SLOT := He.int_ok X G (c.fact 57 (f := .int "LAST_SLOT" 9999) rfl)
  i_MOST_GAP := He.int_ok X G (c.fact 58 (f := .int "MOST_GAP" 10000) rfl)
  i_MOST_STEPS := He.int_ok X G (c.fact 59 (f := .int "MOST_STEPS" 60) rfl)
  i_MOST_TASKS := He.int_ok X G (c.fact 60 (f := .int "MOST_TASKS" 40) rfl)
  d_is_whole := c.def_ 0 (d := dd_is_whole) rfl
  d_is_row := c.def_ 1 (d := dd_is_row) rfl
  d_is_between := c.def_ 2 (d := dd_is_between) rfl
  d_is_rising := c.def_ 3 (d := dd_is_rising) rfl
  d_union := c.def_ 4 (d := dd_union) rfl
  d_is_needs_row := c.def_ 5 (d := dd_is_needs_row) rfl
  d_is_ready := c.def_ 6 (d := dd_is_ready) rfl
  d_order_of := c.def_ 7 (d := dd_order_of) rfl
  d_check_table := c.def_ 8 (d := dd_check_table) rfl
  d_all_needs := c.def_ 9 (d := dd_all_needs) rfl
  d_chain_in := c.def_ 10 (d := dd_chain_in) rfl
  d_is_chain := c.def_ 11 (d := dd_is_chain) rfl
  d_fits_slot := c.def_ 12 (d := dd_fits_slot) rfl
  d_is_schedule := c.def_ 13 (d := dd_is_schedule) rfl
  d_needs_all := c.def_ 14 (d := dd_needs_all) rfl
  d_are_blocks := c.def_ 15 (d := dd_are_blocks) rfl
  d_check_route := c.def_ 16 (d := dd_check_route) rfl
  d_wrong_slot := c.def_ 17 (d := dd_wrong_slot) rfl
  d_check_gap := c.def_ 18 (d := dd_check_gap) rfl
  d_meeting := c.def_ 19 (d := dd_meeting) rfl
  d_are_slots := c.def_ 20 (d := dd_are_slots) rfl
  d_are_independent := c.def_ 21 (d := dd_are_independent) rfl
  d_are_rows := c.def_ 22 (d := dd_are_rows) rfl
  d__law_source := c.def_ 23 (d := dd__law_source) rfl
  d__law_draw := c.def_ 24 (d := dd__law_draw) rfl
  d__law_is_integer := c.def_ 25 (d := dd__law_is_integer) rfl
  d__law_table := c.def_ 26 (d := dd__law_table) rfl
  d__law_needed := c.def_ 27 (d := dd__law_needed) rfl
  d__law_is_row := c.def_ 28 (d := dd__law_is_row) rfl
  d__law_rising := c.def_ 29 (d := dd__law_rising) rfl
  d__law_schedule := c.def_ 30 (d := dd__law_schedule) rfl
  d__law_blocks := c.def_ 31 (d := dd__law_blocks) rfl
  d__law_chain := c.def_ 32 (d := dd__law_chain) rfl
  d__law_cover := c.def_ 33 (d := dd__law_cover) rfl
  d__law_apart := c.def_ 34 (d := dd__law_apart) rfl
  d__law_order := c.def_ 35 (d := dd__law_order) rfl
  d__law_parts := c.def_ 36 (d := dd__law_parts) rfl
  d__law_runs := c.def_ 37 (d := dd__law_runs) rfl
  d__law_bent := c.def_ 38 (d := dd__law_bent) rfl
  d__law_as_tuples := c.def_ 39 (d := dd__law_as_tuples) rfl
  d__law_says := c.def_ 40 (d := dd__law_says) rfl
  d__law_parts_judged := c.def_ 41 (d := dd__law_parts_judged) rfl
  d__law_tasks_judged := c.def_ 42 (d := dd__law_tasks_judged) rfl
  d__law_slots_right := c.def_ 43 (d := dd__law_slots_right) rfl
  d__law_slots_judged := c.def_ 44 (d := dd__law_slots_judged) rfl
  d_law := c.def_ 45 (d := dd_law) rfl
abbrev R_ : PySem.W.OpenRow := PySem.W.OpenLaw.row PySem.Challenge.rw_lastdoor_k75_judges_of_tables_and_slots
abbrev hk_ : PySem.W.Hook := He.hookD 3 hFa hFn
def ob_ (s : PySem.W.SharedT) : He.AlD := He.obsDG 3 hFa hFn (HandSHeadRun.getT s)
theorem ob_eq (s : PySem.W.SharedT) : ob_ s = hk_.obs s.abs := He.obsDG_eq (HandSHeadRun.getT_eq s)
theorem run_ (w : World) : HandSHeadRun.RunEq R_ (PySem.W.view R_.prog [64]) hk_ ob_ 12000 hLo w := by
  intro os
  kernel_rfl
end K75
open PySem PySem.W PySem.Calls PyProof.Rows
theorem PySem.Challenge.cw_lastdoor_k75_judges_of_tables_and_slots_holds : PySem.Challenge.rw_lastdoor_k75_judges_of_tables_and_slots.Holds := by
  w_on; o_law
  refine HandSHeadRun.head_any (r := OpenLaw.row PySem.Challenge.rw_lastdoor_k75_judges_of_tables_and_slots) (q := view (OpenLaw.row PySem.Challenge.rw_lastdoor_k75_judges_of_tables_and_slots).prog [64]) (H := K75.hk_) (ob := K75.ob_) (M := 12000) (loose := K75.hLo) (d := HandSHeadRun.topDef (OpenLaw.row PySem.Challenge.rw_lastdoor_k75_judges_of_tables_and_slots).prog 64) (kwd := []) K75.ob_eq
    (by kernel_rfl) (fun s => by kernel_rfl) K75.run_ (by kernel_rfl) (by kernel_rfl) (by kernel_rfl) (by rfl) (by first | assumption | decide +kernel) (by decide +kernel) ⟨rfl, rfl, rfl, rfl, rfl, by decide +kernel⟩ ?hw ?hc
  case hw => w_witness2
  case hc =>
    refine L2.walk_ofE (l := PySem.Challenge.rw_lastdoor_k75_judges_of_tables_and_slots) (n := 63) (k := 8) (x := "script") (CX := L2.CX0) rfl (by decide) (by kernel_rfl) ⟨rfl, by decide, by decide⟩ ?F (fun _ _ _ _ z => z)
    intro w mg fa h Y G hmg0
    obtain ⟨K, KX, c⟩ := Y
    have hmg : mg ("law" : PySem.Str) = some (.ref fa) := by
      have e : (HandSHeadRun.topDef (OpenLaw.row PySem.Challenge.rw_lastdoor_k75_judges_of_tables_and_slots).prog 64).name = ("law" : PySem.Str) := by kernel_rfl
      rw [← e]
      exact hmg0
    have W := K75.wd_of KX G c
    have e := hmg.symm.trans W.g_law
    cases e
    obtain ⟨sp, hsp, hF⟩ := K75.law_end (P := (PySem.Challenge.rw_lastdoor_k75_judges_of_tables_and_slots).prog) (w := w) W
    have hb := L2.FunD.bindsA (ps := ["script"]) W.d_law.choose_spec fun _ _ _ _ _ _ us hl => match us, hl with | [_], _ => rfl
    exact ⟨K, W.d_law.choose, sp, KX, fun s v => hb s [v] rfl, hsp, fun base _ _ => hF base⟩
