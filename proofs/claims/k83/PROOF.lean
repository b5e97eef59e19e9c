import PyProof.Rows.All
import Wide.All
import OpenK.AllK
import Wide.FinOn
import HandS.ForMost
import HandS.Evl
import HandS.Defaults
import HandS.IsInst
import HandS.ExcInit
import HandS.HeadHook1
import HandS.TupAny
import HandS.TupLe
import HandS.SortInts
import HandS.Wide
import HandS.NoneIn
import HandS.WordsDict
import HandS.TupLen
import HandS.Style
import HandS.SetFor
import HandS.Strs
import HandS.MakeKwOnly
import HandS.SortRule
import KE.LtSeq
import HandS.TupMul
import PyProof.ReprReads
import HandS.Ends
import HandS.HeadEnd
import HandS.HeadHook2
import KE.KExcSuper
import HandS.Nested
import KE.KExcIs
import HandS.ExcField
import HandS.ExcIs
import HandS.Words
import HandS.Comp
import HandS.Head0
import HandS.Head1
import HandS.Head2
import PySem.Challenge.RW_lastdoor_k83_errors_made
set_option Elab.async false
set_option linter.all false
set_option autoImplicit false
set_option maxRecDepth 100000
set_option maxHeartbeats 4000000
/-! The store layer: a small semantics of Python over data and a store of numbered objects, and its soundness over HandS. -/
namespace Sl
open PySem PySem.Spec PyProof.Rows L2

abbrev Kf := PySem.W.Frag
/-- a value: data that never changes, or the object with a number -/
inductive VL where
  | d (x : PyData)
  | o (n : Nat)
/-- an object of the store -/
inductive Ob where
  | lst (xs : List VL)
  | dk (kvs : List (Key × VL))
  | dt (kvs : List (List Key × VL))
  | ins (c : Nat) (fs : List (Str × VL))
  | fr (x : PyData)
  | ex (c : Str) (fs : List (Str × PyData))
abbrev Sto := List Ob
abbrev Env := List (Option VL)
/-- which class stands where; how an exception lies -/
structure Par where
  cl : Nat → Addr
  exr : Nat → List PyData → Hp → Option Addr → Hp → Prop

/-! ### relations -/
mutual
/-- data at a value: tuples stand in F, lists may be any list -/
inductive Dq (K : Kf) (F : Hp) : V → PyData → Prop
  | non : Dq K F .non .none
  | bl (b : Bool) : Dq K F (.bl b) (.bool b)
  | int (i : Int) : Dq K F (.int i) (.int i)
  | str (x : Str) : Dq K F (.str x) (.str x)
  | lst {a : Addr} {xs : List V} {ds : List PyData} : SqL K F a xs → DqAll K F xs ds → Dq K F (.ref a) (.list ds)
  | tup {a : Addr} {xs : List V} {ds : List PyData} : F a = some (.tup xs) → DqAll K F xs ds → Dq K F (.ref a) (.tuple ds)
inductive DqAll (K : Kf) (F : Hp) : List V → List PyData → Prop
  | nil : DqAll K F [] []
  | cons {v : V} {vs : List V} {d : PyData} {ds : List PyData} : Dq K F v d → DqAll K F vs ds → DqAll K F (v :: vs) (d :: ds)
end
section
variable {K : Kf} {F F' H : Hp}
mutual
theorem dq_mono (e : Evl.Ex F F') : ∀ {v : V} {d : PyData}, Dq K F v d → Dq K F' v d
  | _, _, .non => .non
  | _, _, .bl b => .bl b
  | _, _, .int i => .int i
  | _, _, .str x => .str x
  | _, _, .lst h t => .lst (Evl.ex_l e h) (dqa_mono e t)
  | _, _, .tup h t => .tup (e _ _ h) (dqa_mono e t)
theorem dqa_mono (e : Evl.Ex F F') : ∀ {vs : List V} {ds : List PyData}, DqAll K F vs ds → DqAll K F' vs ds
  | _, _, .nil => .nil
  | _, _, .cons h t => .cons (dq_mono e h) (dqa_mono e t)
end
mutual
theorem dq_dp (e : Evl.Ex F F') : ∀ {v : V} {d : PyData}, Dq K F v d → Dp K F' v d
  | _, _, .non => .non
  | _, _, .bl b => .bl b
  | _, _, .int i => .int i
  | _, _, .str x => .str x
  | _, _, .lst h t => .lst (Evl.ex_l e h) (dqa_dp e t)
  | _, _, .tup h t => .tup (SqT.of (e _ _ h)) (dqa_dp e t)
theorem dqa_dp (e : Evl.Ex F F') : ∀ {vs : List V} {ds : List PyData}, DqAll K F vs ds → DpAll K F' vs ds
  | _, _, .nil => .nil
  | _, _, .cons h t => .cons (dq_dp e h) (dqa_dp e t)
end
end
def VR (K : Kf) (ρ : List Addr) (F : Hp) (v : V) : VL → Prop
  | .d x => Dq K F v x
  | .o n => ∃ a, v = .ref a ∧ ρ[n]? = some a
abbrev VRs (K : Kf) (ρ : List Addr) (F : Hp) : List V → List VL → Prop := Paired (VR K ρ F)
def KVR {κ : Type} (K : Kf) (ρ : List Addr) (F : Hp) : List (κ × V) → List (κ × VL) → Prop := Paired fun p q => p.1 = q.1 ∧ VR K ρ F p.2 q.2
/-- an own exception in hand, of the class with the name c: it stands in F, with its dict, and never changes -/
def ExR (K : Kf) (F : Hp) (a : Addr) (c : Str) (fs : List (Str × PyData)) : Prop :=
  (fs = [] ∧ F a = some (exo a (He.ga K c) none)) ∨ ∃ (dx : Addr) (ns : List Str) (xs : List V) (ds : List PyData), F a = some (exo a (He.ga K c) (some dx)) ∧ F dx = some (exd dx (ns.zip xs)) ∧ xs.length = ns.length ∧ DqAll K F xs ds ∧ fs = ns.zip ds
theorem ExR.mono {K : Kf} {F F' : Hp} {a : Addr} {c : Str} {fs : List (Str × PyData)} (e : Evl.Ex F F') (h : ExR K F a c fs) : ExR K F' a c fs := by
  rcases h with ⟨h1, h2⟩ | ⟨dx, ns, xs, ds, h1, h2, h3, h4, h5⟩
  · exact .inl ⟨h1, e _ _ h2⟩
  · exact .inr ⟨dx, ns, xs, ds, e _ _ h1, e _ _ h2, h3, dqa_mono e h4, h5⟩
def ObR (K : Kf) (P : Par) (ρ : List Addr) (F H : Hp) (a : Addr) : Ob → Prop
  | .fr x => Dq K F (.ref a) x
  | .ex c fs => ExR K F a c fs
  | .lst xs => F a = none ∧ ∃ vs, H a = some (.lst vs) ∧ VRs K ρ F vs xs
  | .dk kvs => F a = none ∧ ∃ kws, H a = some (.dK kws) ∧ KVR K ρ F kws kvs
  | .dt kvs => F a = none ∧ ∃ kws, H a = some (.dT kws) ∧ KVR K ρ F kws kvs
  | .ins c fs => F a = none ∧ ∃ dx fvs, H a = some (.ins (P.cl c) dx fvs) ∧ KVR K ρ F fvs fs
structure Im (K : Kf) (P : Par) (ρ : List Addr) (F H : Hp) (st : Sto) : Prop where
  len : ρ.length = st.length
  nd : ρ.Nodup
  ex : Evl.Ex F H
  dom : ∀ a, a ∈ ρ → H a ≠ none
  ob : ∀ (i : Nat) (a : Addr) (b : Ob), ρ[i]? = some a → st[i]? = some b → ObR K P ρ F H a b
structure Tr (ρ : List Addr) (F H : Hp) (ρ' : List Addr) (F' H' : Hp) : Prop where
  pre : ∃ new, ρ' = ρ ++ new
  fresh : ∀ a, a ∈ ρ' → a ∈ ρ ∨ H a = none
  exF : Evl.Ex F F'
  keep : ∀ b o, H b = some o → b ∉ ρ → H' b = some o
  stay : ∀ b, H b ≠ none → H' b ≠ none
  newF : ∀ b, F' b ≠ none → F b ≠ none ∨ H b = none ∨ b ∈ ρ
theorem Tr.refl (ρ : List Addr) (F H : Hp) : Tr ρ F H ρ F H := ⟨⟨[], (List.append_nil _).symm⟩, fun _ h => .inl h, Evl.Ex.refl F, fun _ _ h _ => h, fun _ h => h, fun _ h => .inl h⟩
theorem Tr.trans {ρ ρ1 ρ2 : List Addr} {F F1 F2 H H1 H2 : Hp} (a : Tr ρ F H ρ1 F1 H1) (b : Tr ρ1 F1 H1 ρ2 F2 H2) : Tr ρ F H ρ2 F2 H2 := by
  have h0 : ∀ c, H1 c = none → H c = none := fun c h => Classical.byContradiction fun g => a.stay c g h
  refine ⟨?_, fun c h => ?_, a.exF.trans b.exF, fun c o h hn => ?_, fun c h => b.stay c (a.stay c h), fun c h => ?_⟩
  · obtain ⟨n1, rfl⟩ := a.pre
    obtain ⟨n2, rfl⟩ := b.pre
    exact ⟨n1 ++ n2, List.append_assoc ..⟩
  · rcases b.fresh c h with h | h
    · exact a.fresh c h
    · exact .inr (h0 c h)
  · refine b.keep c o (a.keep c o h hn) fun h1 => ?_
    rcases a.fresh c h1 with h2 | h2
    · exact hn h2
    · rw [h] at h2
      cases h2
  · rcases b.newF c h with h | h | h
    · exact a.newF c h
    · exact .inr (.inl (h0 c h))
    · rcases a.fresh c h with h | h
      · exact .inr (.inr h)
      · exact .inr (.inl h)
theorem Tr.get {ρ ρ' : List Addr} {F F' H H' : Hp} (t : Tr ρ F H ρ' F' H') {n : Nat} {a : Addr} (h : ρ[n]? = some a) : ρ'[n]? = some a := by
  obtain ⟨m, rfl⟩ := t.pre
  obtain ⟨hl, _⟩ := List.getElem?_eq_some_iff.mp h
  rw [List.getElem?_append_left hl]
  exact h
theorem VR.mono {K : Kf} {ρ ρ' : List Addr} {F F' H H' : Hp} (t : Tr ρ F H ρ' F' H') : ∀ {v : V} {x : VL}, VR K ρ F v x → VR K ρ' F' v x
  | _, .d _, h => dq_mono t.exF h
  | _, .o _, ⟨a, e, h⟩ => ⟨a, e, t.get h⟩
theorem VRs.mono {K : Kf} {ρ ρ' : List Addr} {F F' H H' : Hp} (t : Tr ρ F H ρ' F' H') {vs : List V} {xs : List VL} (h : VRs K ρ F vs xs) : VRs K ρ' F' vs xs := Paired.mapP h fun _ _ h => h.mono t
theorem KVR.mono {κ : Type} {K : Kf} {ρ ρ' : List Addr} {F F' H H' : Hp} (t : Tr ρ F H ρ' F' H') {vs : List (κ × V)} {xs : List (κ × VL)} (h : KVR K ρ F vs xs) : KVR K ρ' F' vs xs := Paired.mapP h fun _ _ h => ⟨h.1, h.2.mono t⟩
section
variable {K : Kf} {P : Par} {ρ ρ' : List Addr} {F F' H H' : Hp}
theorem VR.up (e : Evl.Ex F F') : ∀ {v : V} {x : VL}, VR K ρ F v x → VR K ρ F' v x
  | _, .d _, h => dq_mono e h
  | _, .o _, h => h
theorem VRs.up (e : Evl.Ex F F') {vs : List V} {xs : List VL} (h : VRs K ρ F vs xs) : VRs K ρ F' vs xs := Paired.mapP h fun _ _ h => h.up e
theorem KVR.up {κ : Type} (e : Evl.Ex F F') {vs : List (κ × V)} {xs : List (κ × VL)} (h : KVR K ρ F vs xs) : KVR K ρ F' vs xs := Paired.mapP h fun _ _ h => ⟨h.1, h.2.up e⟩
theorem VR.more {D : Addr} : ∀ {v : V} {x : VL}, VR K ρ F v x → VR K (ρ ++ [D]) F v x
  | _, .d _, h => h
  | _, .o n, ⟨a, e, h⟩ => ⟨a, e, by
    rw [List.getElem?_append_left (List.getElem?_eq_some_iff.mp h).1]
    exact h⟩
theorem VRs.more {D : Addr} {vs : List V} {xs : List VL} (h : VRs K ρ F vs xs) : VRs K (ρ ++ [D]) F vs xs := Paired.mapP h fun _ _ h => h.more
theorem KVR.more {κ : Type} {D : Addr} {vs : List (κ × V)} {xs : List (κ × VL)} (h : KVR K ρ F vs xs) : KVR K (ρ ++ [D]) F vs xs := Paired.mapP h fun _ _ h => ⟨h.1, h.2.more⟩
/-- an object's picture over more data, a heap that is the same there -/
theorem ObR.up (e : Evl.Ex F F') {a : Addr} (hn : F a = none → F' a = none) (hH : H' a = H a) : ∀ {b : Ob}, ObR K P ρ F H a b → ObR K P ρ F' H' a b
  | .fr _, h => dq_mono e h
  | .ex _ _, h => ExR.mono e h
  | .lst _, ⟨h1, vs, h2, h3⟩ => ⟨hn h1, vs, hH.trans h2, h3.up e⟩
  | .dk _, ⟨h1, vs, h2, h3⟩ => ⟨hn h1, vs, hH.trans h2, h3.up e⟩
  | .dt _, ⟨h1, vs, h2, h3⟩ => ⟨hn h1, vs, hH.trans h2, h3.up e⟩
  | .ins _ _, ⟨h1, dx, vs, h2, h3⟩ => ⟨hn h1, dx, vs, hH.trans h2, h3.up e⟩
theorem ObR.more {D a : Addr} : ∀ {b : Ob}, ObR K P ρ F H a b → ObR K P (ρ ++ [D]) F H a b
  | .fr _, h => h
  | .ex _ _, h => h
  | .lst _, ⟨h1, vs, h2, h3⟩ => ⟨h1, vs, h2, h3.more⟩
  | .dk _, ⟨h1, vs, h2, h3⟩ => ⟨h1, vs, h2, h3.more⟩
  | .dt _, ⟨h1, vs, h2, h3⟩ => ⟨h1, vs, h2, h3.more⟩
  | .ins _ _, ⟨h1, dx, vs, h2, h3⟩ => ⟨h1, dx, vs, h2, h3.more⟩
end
/-- the slots -/
structure EnvR (K : Kf) (ρ : List Addr) (F : Hp) (σ : L2.St) (env : Env) : Prop where
  len : env.length = σ.length
  at_ : ∀ (i : Nat) (x : VL), env[i]? = some (some x) → ∃ v, σ[i]? = some (some v) ∧ VR K ρ F v x
theorem EnvR.mono {K : Kf} {ρ ρ' : List Addr} {F F' H H' : Hp} {σ : L2.St} {env : Env} (t : Tr ρ F H ρ' F' H') (h : EnvR K ρ F σ env) : EnvR K ρ' F' σ env :=
  ⟨h.len, fun i x e => let ⟨v, h1, h2⟩ := h.at_ i x e; ⟨v, h1, h2.mono t⟩⟩
theorem EnvR.set {K : Kf} {ρ : List Addr} {F : Hp} {σ : L2.St} {env : Env} (h : EnvR K ρ F σ env) {i : Nat} {v : V} {x : VL} (r : VR K ρ F v x) : EnvR K ρ F (σ.set i (some v)) (env.set i (some x)) := by
  refine ⟨by simp [h.len], fun j y e => ?_⟩
  by_cases hj : i = j
  · subst hj
    by_cases hl : i < env.length
    · rw [List.getElem?_set_self hl] at e
      cases e
      exact ⟨v, List.getElem?_set_self (by rw [← h.len]; exact hl), r⟩
    · rw [List.getElem?_eq_none (by rw [List.length_set]; omega)] at e
      cases e
  · rw [List.getElem?_set_ne hj] at e
    rw [List.getElem?_set_ne hj]
    exact h.at_ j y e

/-- what stays: the store's picture over a heap that differs elsewhere alone -/
theorem Im.over {K : Kf} {P : Par} {ρ : List Addr} {F H F' H' : Hp} {st : Sto} (I : Im K P ρ F H st) (t : Tr ρ F H ρ F' H') (ex : Evl.Ex F' H') (same : ∀ a, a ∈ ρ → H' a = H a) (none_ : ∀ a, a ∈ ρ → F a = none → F' a = none) : Im K P ρ F' H' st := by
  refine ⟨I.len, I.nd, ex, fun a h => t.stay a (I.dom a h), fun i a b h1 h2 => ?_⟩
  have o := I.ob i a b h1 h2
  have hm : a ∈ ρ := List.mem_of_getElem? h1
  cases b with
  | fr x => exact dq_mono t.exF o
  | ex c fs => exact ExR.mono t.exF o
  | lst xs =>
    obtain ⟨h3, vs, h4, h5⟩ := o
    exact ⟨none_ a hm h3, vs, (same a hm).trans h4, VRs.mono t h5⟩
  | dk kvs =>
    obtain ⟨h3, vs, h4, h5⟩ := o
    exact ⟨none_ a hm h3, vs, (same a hm).trans h4, KVR.mono t h5⟩
  | dt kvs =>
    obtain ⟨h3, vs, h4, h5⟩ := o
    exact ⟨none_ a hm h3, vs, (same a hm).trans h4, KVR.mono t h5⟩
  | ins c fs =>
    obtain ⟨h3, dx, vs, h4, h5⟩ := o
    exact ⟨none_ a hm h3, dx, vs, (same a hm).trans h4, KVR.mono t h5⟩
/-- a new object that is data -/
theorem Im.data {K : Kf} {P : Par} {ρ : List Addr} {F H : Hp} {st : Sto} (I : Im K P ρ F H st) {p : Addr} (hp : H p = none) (o : HO) : Tr ρ F H ρ (upd F p o) (upd H p o) ∧ Im K P ρ (upd F p o) (upd H p o) st := by
  have hF : F p = none := by
    cases q : F p with
    | none => rfl
    | some u =>
      rw [I.ex p u q] at hp
      cases hp
  have hne : ∀ b, H b ≠ none → b ≠ p := fun b h e => h (by rw [e]; exact hp)
  have t : Tr ρ F H ρ (upd F p o) (upd H p o) := by
    refine ⟨⟨[], (List.append_nil _).symm⟩, fun _ h => .inl h, Evl.Ex.new hF, fun b u h _ => ?_, fun b h => ?_, fun b h => ?_⟩
    · rw [upd_ne (hne b (by rw [h]; exact fun z => nomatch z))]
      exact h
    · rw [upd_ne (hne b h)]
      exact h
    · by_cases e : b = p
      · subst e
        exact .inr (.inl hp)
      · rw [upd_ne e] at h
        exact .inl h
  refine ⟨t, I.over t (fun b u h => ?_) (fun b h => upd_ne (hne b (I.dom b h))) (fun b h h1 => ?_)⟩
  · by_cases e : b = p
    · subst e
      rw [upd_same] at h ⊢
      exact h
    · rw [upd_ne e] at h ⊢
      exact I.ex b u h
  · rw [upd_ne (hne b (I.dom b h))]
    exact h1
/-- a new object of the store -/
theorem Im.alloc {K : Kf} {P : Par} {ρ : List Addr} {F H : Hp} {st : Sto} (I : Im K P ρ F H st) {p : Addr} (hp : H p = none) {o : HO} {b : Ob} (hb : ∀ ρ' H', Tr ρ F H ρ' F H' → F p = none → H' p = some o → ρ' = ρ ++ [p] → ObR K P ρ' F H' p b) :
    Tr ρ F H (ρ ++ [p]) F (upd H p o) ∧ Im K P (ρ ++ [p]) F (upd H p o) (st ++ [b]) := by
  have hF : F p = none := by
    cases q : F p with
    | none => rfl
    | some u =>
      rw [I.ex p u q] at hp
      cases hp
  have hne : ∀ b, H b ≠ none → b ≠ p := fun b h e => h (by rw [e]; exact hp)
  have t : Tr ρ F H (ρ ++ [p]) F (upd H p o) := by
    refine ⟨⟨[p], rfl⟩, fun a h => ?_, Evl.Ex.refl F, fun b u h _ => ?_, fun b h => ?_, fun b h => .inl h⟩
    · rcases List.mem_append.mp h with h | h
      · exact .inl h
      · rw [List.mem_singleton.mp h]
        exact .inr hp
    · rw [upd_ne (hne b (by rw [h]; exact fun z => nomatch z))]
      exact h
    · rw [upd_ne (hne b h)]
      exact h
  have t0 : Tr ρ F H ρ F (upd H p o) := ⟨⟨[], (List.append_nil _).symm⟩, fun _ h => .inl h, t.exF, t.keep, t.stay, t.newF⟩
  have ex : Evl.Ex F (upd H p o) := fun b u h => by
    rw [upd_ne (hne b (by rw [I.ex b u h]; exact fun z => nomatch z))]
    exact I.ex b u h
  refine ⟨t, ⟨by simp [I.len], ?_, ex, fun a h => ?_, fun i a c h1 h2 => ?_⟩⟩
  · refine List.nodup_append.mpr ⟨I.nd, by simp, fun a h b h1 e => ?_⟩
    rw [List.mem_singleton.mp h1] at e
    subst e
    exact I.dom _ h hp
  · rcases List.mem_append.mp h with h | h
    · exact t.stay a (I.dom a h)
    · rw [List.mem_singleton.mp h, upd_same]
      exact fun z => nomatch z
  · by_cases hi : i < ρ.length
    · rw [List.getElem?_append_left hi] at h1
      rw [List.getElem?_append_left (by rw [← I.len]; exact hi)] at h2
      have o1 := I.ob i a c h1 h2
      have hm : a ∈ ρ := List.mem_of_getElem? h1
      have ea : upd H p o a = H a := upd_ne (hne a (I.dom a hm))
      cases c with
      | fr x => exact o1
      | ex c fs => exact o1
      | lst xs =>
        obtain ⟨h3, vs, h4, h5⟩ := o1
        exact ⟨h3, vs, ea.trans h4, VRs.mono t h5⟩
      | dk kvs =>
        obtain ⟨h3, vs, h4, h5⟩ := o1
        exact ⟨h3, vs, ea.trans h4, KVR.mono t h5⟩
      | dt kvs =>
        obtain ⟨h3, vs, h4, h5⟩ := o1
        exact ⟨h3, vs, ea.trans h4, KVR.mono t h5⟩
      | ins c fs =>
        obtain ⟨h3, dx, vs, h4, h5⟩ := o1
        exact ⟨h3, dx, vs, ea.trans h4, KVR.mono t h5⟩
    · have hi2 : i = ρ.length := by
        have := (List.getElem?_eq_some_iff.mp h1).1
        simp at this
        omega
      subst hi2
      rw [List.getElem?_append_right (Nat.le_refl _), Nat.sub_self] at h1
      rw [List.getElem?_append_right (by rw [I.len]; exact Nat.le_refl _), I.len, Nat.sub_self] at h2
      cases h1
      cases h2
      exact hb _ _ t hF upd_same rfl
/-- an object of the store is changed -/
theorem Im.store {K : Kf} {P : Par} {ρ : List Addr} {F H : Hp} {st : Sto} (I : Im K P ρ F H st) {n : Nat} {a : Addr} (hn : ρ[n]? = some a) (hF : F a = none) {o : HO} {b : Ob} (hb : ObR K P ρ F (upd H a o) a b) :
    Tr ρ F H ρ F (upd H a o) ∧ Im K P ρ F (upd H a o) (st.set n b) := by
  have ha : a ∈ ρ := List.mem_of_getElem? hn
  have t : Tr ρ F H ρ F (upd H a o) := by
    refine ⟨⟨[], (List.append_nil _).symm⟩, fun _ h => .inl h, Evl.Ex.refl F, fun b u h hr => ?_, fun b h => ?_, fun b h => .inl h⟩
    · rw [upd_ne (fun e => hr (by rw [e]; exact ha))]
      exact h
    · by_cases e : b = a
      · subst e
        rw [upd_same]
        exact fun z => nomatch z
      · rw [upd_ne e]
        exact h
  have ex : Evl.Ex F (upd H a o) := fun b u h => by
    rw [upd_ne (fun e => by rw [e, hF] at h; cases h)]
    exact I.ex b u h
  refine ⟨t, ⟨by simp [I.len], I.nd, ex, fun c h => t.stay c (I.dom c h), fun i c d h1 h2 => ?_⟩⟩
  by_cases hi : n = i
  · subst hi
    rw [hn] at h1
    cases h1
    have hl : n < st.length := by
      rw [← I.len]
      exact (List.getElem?_eq_some_iff.mp hn).1
    rw [List.getElem?_set_self hl] at h2
    cases h2
    exact hb
  · rw [List.getElem?_set_ne hi] at h2
    have hne : c ≠ a := fun e => by
      subst e
      obtain ⟨l1, e1⟩ := List.getElem?_eq_some_iff.mp hn
      obtain ⟨l2, e2⟩ := List.getElem?_eq_some_iff.mp h1
      exact hi ((List.getElem_inj I.nd).mp (e1.trans e2.symm))
    have o1 := I.ob i c d h1 h2
    have ea : upd H a o c = H c := upd_ne hne
    cases d with
    | fr x => exact o1
    | ex c fs => exact o1
    | lst xs =>
      obtain ⟨h3, vs, h4, h5⟩ := o1
      exact ⟨h3, vs, ea.trans h4, h5⟩
    | dk kvs =>
      obtain ⟨h3, vs, h4, h5⟩ := o1
      exact ⟨h3, vs, ea.trans h4, h5⟩
    | dt kvs =>
      obtain ⟨h3, vs, h4, h5⟩ := o1
      exact ⟨h3, vs, ea.trans h4, h5⟩
    | ins c fs =>
      obtain ⟨h3, dx, vs, h4, h5⟩ := o1
      exact ⟨h3, dx, vs, ea.trans h4, h5⟩
end Sl
set_option Elab.async false
set_option linter.all false
set_option autoImplicit false
set_option maxRecDepth 100000
set_option maxHeartbeats 4000000
namespace Sl
open PySem PySem.Spec PyProof.Rows L2

/-! ### ends -/
inductive Out where
  | ok (r : VL) (st : Sto)
  | ex (c : Nat) (fs : List PyData) (st : Sto)
inductive OutL where
  | ok (rs : List VL) (st : Sto)
  | ex (c : Nat) (fs : List PyData) (st : Sto)
inductive Fl where
  | nx (env : Env) (st : Sto)
  | rt (r : VL) (st : Sto)
  | bk (env : Env) (st : Sto)
  | ct (env : Env) (st : Sto)
  | ex (c : Nat) (fs : List PyData) (st : Sto)
abbrev SE := Env → Sto → Option Out
abbrev SL := Env → Sto → Option OutL
abbrev SS := Env → Sto → Option Fl
def obind (x : Option Out) (k : VL → Sto → Option Out) : Option Out := match x with
  | none => none
  | some (.ok r st) => k r st
  | some (.ex c fs st) => some (.ex c fs st)
def obindL (x : Option OutL) (k : List VL → Sto → Option Out) : Option Out := match x with
  | none => none
  | some (.ok r st) => k r st
  | some (.ex c fs st) => some (.ex c fs st)
def fbind (x : Option Out) (k : VL → Sto → Option Fl) : Option Fl := match x with
  | none => none
  | some (.ok r st) => k r st
  | some (.ex c fs st) => some (.ex c fs st)

section
variable (K : Kf) (P : Par)
def PostX (ρ : List Addr) (F H : Hp) (E : XK) (c : Nat) (fs : List PyData) (st : Sto) : Prop :=
  ∀ dx ρ' F' H', Tr ρ F H ρ' F' H' → Im K P ρ' F' H' st → P.exr c fs F' dx H' → E (.ref (P.cl c)) dx H'
def Post (ρ : List Addr) (F H : Hp) (Q : VK) (E : XK) : Out → Prop
  | .ok r st => ∀ v ρ' F' H', Tr ρ F H ρ' F' H' → Im K P ρ' F' H' st → VR K ρ' F' v r → Q v H'
  | .ex c fs st => PostX K P ρ F H E c fs st
def PostL (ρ : List Addr) (F H : Hp) (Q : List V → Hp → Prop) (E : XK) : OutL → Prop
  | .ok rs st => ∀ vs ρ' F' H', Tr ρ F H ρ' F' H' → Im K P ρ' F' H' st → VRs K ρ' F' vs rs → Q vs H'
  | .ex c fs st => PostX K P ρ F H E c fs st
def PostT (ρ : List Addr) (F H : Hp) (Q : Bool → Hp → Prop) (E : XK) : Out → Prop
  | .ok r st => ∃ b, r = .d (.bool b) ∧ ∀ ρ' F' H', Tr ρ F H ρ' F' H' → Im K P ρ' F' H' st → Q b H'
  | .ex c fs st => PostX K P ρ F H E c fs st
def PostS (ρ : List Addr) (F H : Hp) (D : Ends) (E : XK) : Fl → Prop
  | .nx env st => ∀ σ' ρ' F' H', Tr ρ F H ρ' F' H' → Im K P ρ' F' H' st → EnvR K ρ' F' σ' env → D.nx σ' H'
  | .rt r st => ∀ v ρ' F' H', Tr ρ F H ρ' F' H' → Im K P ρ' F' H' st → VR K ρ' F' v r → D.rt v H'
  | .bk env st => ∀ σ' ρ' F' H', Tr ρ F H ρ' F' H' → Im K P ρ' F' H' st → EnvR K ρ' F' σ' env → D.bk σ' H'
  | .ct env st => ∀ σ' ρ' F' H', Tr ρ F H ρ' F' H' → Im K P ρ' F' H' st → EnvR K ρ' F' σ' env → D.ct σ' H'
  | .ex c fs st => PostX K P ρ F H E c fs st
/-- the readings -/
def rdE (E : XK) (c : SE) : TE := fun σ H Q => ∃ ρ F st env o, Im K P ρ F H st ∧ EnvR K ρ F σ env ∧ c env st = some o ∧ Post K P ρ F H Q E o
def rdT (E : XK) (c : SE) : TT := fun σ H Q => ∃ ρ F st env o, Im K P ρ F H st ∧ EnvR K ρ F σ env ∧ c env st = some o ∧ PostT K P ρ F H Q E o
def rdL (E : XK) (c : SL) : TA := fun σ H Q => ∃ ρ F st env o, Im K P ρ F H st ∧ EnvR K ρ F σ env ∧ c env st = some o ∧ PostL K P ρ F H Q E o
def rdS (E : XK) (c : SS) : TS := fun D σ H => ∃ ρ F st env o, Im K P ρ F H st ∧ EnvR K ρ F σ env ∧ c env st = some o ∧ PostS K P ρ F H D E o
end
section
variable {K : Kf} {P : Par} {ρ ρ1 : List Addr} {F F1 H H1 : Hp} {E : XK}
theorem PostX.mono {c : Nat} {fs : List PyData} {st : Sto} (t : Tr ρ F H ρ1 F1 H1) (h : PostX K P ρ F H E c fs st) : PostX K P ρ1 F1 H1 E c fs st := fun dx ρ' F' H' t' => h dx ρ' F' H' (t.trans t')
theorem Post.mono {Q : VK} (t : Tr ρ F H ρ1 F1 H1) : ∀ {o : Out}, Post K P ρ F H Q E o → Post K P ρ1 F1 H1 Q E o
  | .ok _ _, h => fun v ρ' F' H' t' => h v ρ' F' H' (t.trans t')
  | .ex _ _ _, h => PostX.mono t h
theorem PostL.mono {Q : List V → Hp → Prop} (t : Tr ρ F H ρ1 F1 H1) : ∀ {o : OutL}, PostL K P ρ F H Q E o → PostL K P ρ1 F1 H1 Q E o
  | .ok _ _, h => fun v ρ' F' H' t' => h v ρ' F' H' (t.trans t')
  | .ex _ _ _, h => PostX.mono t h
theorem PostT.mono {Q : Bool → Hp → Prop} (t : Tr ρ F H ρ1 F1 H1) : ∀ {o : Out}, PostT K P ρ F H Q E o → PostT K P ρ1 F1 H1 Q E o
  | .ok _ _, ⟨b, e, h⟩ => ⟨b, e, fun ρ' F' H' t' => h ρ' F' H' (t.trans t')⟩
  | .ex _ _ _, h => PostX.mono t h
theorem PostS.mono {D : Ends} (t : Tr ρ F H ρ1 F1 H1) : ∀ {o : Fl}, PostS K P ρ F H D E o → PostS K P ρ1 F1 H1 D E o
  | .nx _ _, h => fun v ρ' F' H' t' => h v ρ' F' H' (t.trans t')
  | .rt _ _, h => fun v ρ' F' H' t' => h v ρ' F' H' (t.trans t')
  | .bk _ _, h => fun v ρ' F' H' t' => h v ρ' F' H' (t.trans t')
  | .ct _ _, h => fun v ρ' F' H' t' => h v ρ' F' H' (t.trans t')
  | .ex _ _ _, h => PostX.mono t h

/-! ### binds -/
/-- an expression inside an expression -/
theorem rdE_bind {c : SE} {k : VL → Sto → Option Out} {σ : L2.St} {env : Env} {st : Sto} {o : Out} {Q Q' : VK} (I : Im K P ρ F H st) (R : EnvR K ρ F σ env) (h : obind (c env st) k = some o) (p : Post K P ρ F H Q' E o)
    (g : ∀ v ρ1 F1 H1 x st1, Tr ρ F H ρ1 F1 H1 → Im K P ρ1 F1 H1 st1 → EnvR K ρ1 F1 σ env → VR K ρ1 F1 v x → k x st1 = some o → Post K P ρ1 F1 H1 Q' E o → Q v H1) : rdE K P E c σ H Q := by
  cases hc : c env st with
  | none =>
    rw [hc] at h
    cases h
  | some o1 =>
    rw [hc] at h
    refine ⟨ρ, F, st, env, o1, I, R, hc, ?_⟩
    cases o1 with
    | ok r st1 => exact fun v ρ1 F1 H1 t I1 r1 => g v ρ1 F1 H1 r st1 t I1 (R.mono t) r1 h (p.mono t)
    | ex c fs st1 =>
      cases h
      exact p
theorem rdE_bindT {c : SE} {k : VL → Sto → Option Out} {σ : L2.St} {env : Env} {st : Sto} {o : Out} {Q : VK} {Q' : Bool → Hp → Prop} (I : Im K P ρ F H st) (R : EnvR K ρ F σ env) (h : obind (c env st) k = some o) (p : PostT K P ρ F H Q' E o)
    (g : ∀ v ρ1 F1 H1 x st1, Tr ρ F H ρ1 F1 H1 → Im K P ρ1 F1 H1 st1 → EnvR K ρ1 F1 σ env → VR K ρ1 F1 v x → k x st1 = some o → PostT K P ρ1 F1 H1 Q' E o → Q v H1) : rdE K P E c σ H Q := by
  cases hc : c env st with
  | none =>
    rw [hc] at h
    cases h
  | some o1 =>
    rw [hc] at h
    refine ⟨ρ, F, st, env, o1, I, R, hc, ?_⟩
    cases o1 with
    | ok r st1 => exact fun v ρ1 F1 H1 t I1 r1 => g v ρ1 F1 H1 r st1 t I1 (R.mono t) r1 h (p.mono t)
    | ex c fs st1 =>
      cases h
      exact p
/-- an expression inside a statement -/
theorem rdE_bindS {c : SE} {k : VL → Sto → Option Fl} {σ : L2.St} {env : Env} {st : Sto} {o : Fl} {Q : VK} {D : Ends} (I : Im K P ρ F H st) (R : EnvR K ρ F σ env) (h : fbind (c env st) k = some o) (p : PostS K P ρ F H D E o)
    (g : ∀ v ρ1 F1 H1 x st1, Tr ρ F H ρ1 F1 H1 → Im K P ρ1 F1 H1 st1 → EnvR K ρ1 F1 σ env → VR K ρ1 F1 v x → k x st1 = some o → PostS K P ρ1 F1 H1 D E o → Q v H1) : rdE K P E c σ H Q := by
  cases hc : c env st with
  | none =>
    rw [hc] at h
    cases h
  | some o1 =>
    rw [hc] at h
    refine ⟨ρ, F, st, env, o1, I, R, hc, ?_⟩
    cases o1 with
    | ok r st1 => exact fun v ρ1 F1 H1 t I1 r1 => g v ρ1 F1 H1 r st1 t I1 (R.mono t) r1 h (p.mono t)
    | ex c fs st1 =>
      cases h
      exact p
/-- a test inside a test, an expression, a statement: k is asked of a bool alone -/
def tst (x : VL) : Option Bool := match x with
  | .d (.bool b) => some b
  | _ => none
theorem rdT_bindT {c : SE} {k : Bool → Sto → Option Out} {σ : L2.St} {env : Env} {st : Sto} {o : Out} {Q Q' : Bool → Hp → Prop} (I : Im K P ρ F H st) (R : EnvR K ρ F σ env) (h : (obind (c env st) fun x st1 => (tst x).bind fun b => k b st1) = some o) (p : PostT K P ρ F H Q' E o)
    (g : ∀ ρ1 F1 H1 b st1, Tr ρ F H ρ1 F1 H1 → Im K P ρ1 F1 H1 st1 → EnvR K ρ1 F1 σ env → k b st1 = some o → PostT K P ρ1 F1 H1 Q' E o → Q b H1) : rdT K P E c σ H Q := by
  cases hc : c env st with
  | none =>
    rw [hc] at h
    cases h
  | some o1 =>
    rw [hc] at h
    refine ⟨ρ, F, st, env, o1, I, R, hc, ?_⟩
    cases o1 with
    | ok r st1 =>
      obtain ⟨b, hb, hk⟩ := Option.bind_eq_some_iff.mp (show ((tst r).bind fun b => k b st1) = some o from h)
      have er : r = .d (.bool b) := by
        cases r with
        | o n => cases hb
        | d x =>
          cases x with
          | bool b' => cases hb; rfl
          | _ => cases hb
      exact ⟨b, er, fun ρ1 F1 H1 t I1 => g ρ1 F1 H1 b st1 t I1 (R.mono t) hk (p.mono t)⟩
    | ex c fs st1 =>
      cases h
      exact p
theorem rdT_bindE {c : SE} {k : Bool → Sto → Option Out} {σ : L2.St} {env : Env} {st : Sto} {o : Out} {Q : Bool → Hp → Prop} {Q' : VK} (I : Im K P ρ F H st) (R : EnvR K ρ F σ env) (h : (obind (c env st) fun x st1 => (tst x).bind fun b => k b st1) = some o) (p : Post K P ρ F H Q' E o)
    (g : ∀ ρ1 F1 H1 b st1, Tr ρ F H ρ1 F1 H1 → Im K P ρ1 F1 H1 st1 → EnvR K ρ1 F1 σ env → k b st1 = some o → Post K P ρ1 F1 H1 Q' E o → Q b H1) : rdT K P E c σ H Q := by
  cases hc : c env st with
  | none =>
    rw [hc] at h
    cases h
  | some o1 =>
    rw [hc] at h
    refine ⟨ρ, F, st, env, o1, I, R, hc, ?_⟩
    cases o1 with
    | ok r st1 =>
      obtain ⟨b, hb, hk⟩ := Option.bind_eq_some_iff.mp (show ((tst r).bind fun b => k b st1) = some o from h)
      have er : r = .d (.bool b) := by
        cases r with
        | o n => cases hb
        | d x =>
          cases x with
          | bool b' => cases hb; rfl
          | _ => cases hb
      exact ⟨b, er, fun ρ1 F1 H1 t I1 => g ρ1 F1 H1 b st1 t I1 (R.mono t) hk (p.mono t)⟩
    | ex c fs st1 =>
      cases h
      exact p
theorem rdT_bindS {c : SE} {k : Bool → Sto → Option Fl} {σ : L2.St} {env : Env} {st : Sto} {o : Fl} {Q : Bool → Hp → Prop} {D : Ends} (I : Im K P ρ F H st) (R : EnvR K ρ F σ env) (h : (fbind (c env st) fun x st1 => (tst x).bind fun b => k b st1) = some o) (p : PostS K P ρ F H D E o)
    (g : ∀ ρ1 F1 H1 b st1, Tr ρ F H ρ1 F1 H1 → Im K P ρ1 F1 H1 st1 → EnvR K ρ1 F1 σ env → k b st1 = some o → PostS K P ρ1 F1 H1 D E o → Q b H1) : rdT K P E c σ H Q := by
  cases hc : c env st with
  | none =>
    rw [hc] at h
    cases h
  | some o1 =>
    rw [hc] at h
    refine ⟨ρ, F, st, env, o1, I, R, hc, ?_⟩
    cases o1 with
    | ok r st1 =>
      obtain ⟨b, hb, hk⟩ := Option.bind_eq_some_iff.mp (show ((tst r).bind fun b => k b st1) = some o from h)
      have er : r = .d (.bool b) := by
        cases r with
        | o n => cases hb
        | d x =>
          cases x with
          | bool b' => cases hb; rfl
          | _ => cases hb
      exact ⟨b, er, fun ρ1 F1 H1 t I1 => g ρ1 F1 H1 b st1 t I1 (R.mono t) hk (p.mono t)⟩
    | ex c fs st1 =>
      cases h
      exact p
theorem rdL_bind {c : SL} {k : List VL → Sto → Option Out} {σ : L2.St} {env : Env} {st : Sto} {o : Out} {Q : List V → Hp → Prop} {Q' : VK} (I : Im K P ρ F H st) (R : EnvR K ρ F σ env) (h : obindL (c env st) k = some o) (p : Post K P ρ F H Q' E o)
    (g : ∀ vs ρ1 F1 H1 xs st1, Tr ρ F H ρ1 F1 H1 → Im K P ρ1 F1 H1 st1 → EnvR K ρ1 F1 σ env → VRs K ρ1 F1 vs xs → k xs st1 = some o → Post K P ρ1 F1 H1 Q' E o → Q vs H1) : rdL K P E c σ H Q := by
  cases hc : c env st with
  | none =>
    rw [hc] at h
    cases h
  | some o1 =>
    rw [hc] at h
    refine ⟨ρ, F, st, env, o1, I, R, hc, ?_⟩
    cases o1 with
    | ok r st1 => exact fun v ρ1 F1 H1 t I1 r1 => g v ρ1 F1 H1 r st1 t I1 (R.mono t) r1 h (p.mono t)
    | ex c fs st1 =>
      cases h
      exact p
end
/-! ### weakening -/
section
variable {X : Cx}
theorem pe_weak {e : Expr} {t t' : TE} (h : PE X e t) (w : ∀ σ H Q, t' σ H Q → t σ H Q) : PE X e t' := ⟨fun pins s σ H Q I q => h.run pins s σ H Q I (w σ H Q q)⟩
theorem pt_weak {e : Expr} {t t' : TT} (h : PT X e t) (w : ∀ σ H Q, t' σ H Q → t σ H Q) : PT X e t' := ⟨fun pins s σ H Q I q => h.run pins s σ H Q I (w σ H Q q)⟩
theorem pw_weak {e : Expr} {t t' : TT} (h : PW X e t) (w : ∀ σ H Q, t' σ H Q → t σ H Q) : PW X e t' := ⟨fun wh pins s σ H Q I q => h.run wh pins s σ H Q I (w σ H Q q)⟩
theorem pa_weak {e : List Expr} {t t' : TA} (h : PA X e t) (w : ∀ σ H Q, t' σ H Q → t σ H Q) : PA X e t' := ⟨fun po pins s σ H Q I q => h.run po pins s σ H Q I (w σ H Q q)⟩
theorem ps_weak {e : Stmt} {t t' : TS} (h : PS X e t) (w : ∀ D σ H, t' D σ H → t D σ H) : PS X e t' := ⟨fun pins s σ H D I q => h.run pins s σ H D I (w D σ H q)⟩
theorem pss_weak {e : List Stmt} {t t' : TS} (h : PSs X e t) (w : ∀ D σ H, t' D σ H → t D σ H) : PSs X e t' := ⟨fun pins s σ H D I q => h.run pins s σ H D I (w D σ H q)⟩
end

/-! ### names, constants -/
def eVar (i : Nat) : SE := fun env st => match env[i]? with
  | some (some x) => some (.ok x st)
  | _ => none
def eC (x : PyData) : SE := fun _ st => some (.ok (.d x) st)
section
variable {X : Cx} {P : Par} {E : XK}
theorem e_var (i : Nat) {x : Str} {pos : Pos} (hN : X.N[i]? = some x := by rfl) (hv : Vis X.env.scope x := by first | exact Or.inl rfl | exact Or.inr (Or.inl rfl) | exact Or.inr (Or.inr rfl)) (hd : (x == ("__debug__" : Str)) = false := by decide)
    (hcd : (x == ("__classdict__" : Str)) = false := by decide) : PE X (.Name x pos) (rdE X.K P E (eVar i)) :=
  pe_weak (pe_var hN hv hd hcd) fun σ H Q ⟨ρ, F, st, env, o, I, R, h, p⟩ => by
    unfold eVar at h
    cases he : env[i]? with
    | none =>
      rw [he] at h
      cases h
    | some y =>
      cases y with
      | none =>
        rw [he] at h
        cases h
      | some y =>
        rw [he] at h
        cases h
        obtain ⟨v, h1, h2⟩ := R.at_ i y he
        exact ⟨v, h1, p v ρ F H (Tr.refl ..) I h2⟩
theorem e_c {e : Expr} {v : V} {x : PyData} (h : PE X e (tC v)) (r : ∀ F, Dq X.K F v x) : PE X e (rdE X.K P E (eC x)) :=
  pe_weak h fun σ H Q ⟨ρ, F, st, env, o, I, R, h, p⟩ => by
    cases h
    exact p v ρ F H (Tr.refl ..) I (r F)
theorem e_int {i j pos} : PE X (.Constant (.int i) j pos) (rdE X.K P E (eC (.int i))) := e_c pe_int fun _ => .int i
theorem e_bl {i j pos} : PE X (.Constant (.bool i) j pos) (rdE X.K P E (eC (.bool i))) := e_c pe_bl fun _ => .bl i
theorem e_non {j pos} : PE X (.Constant .none j pos) (rdE X.K P E (eC .none)) := e_c pe_non fun _ => .non
theorem e_str {x j pos} : PE X (.Constant (.str x) j pos) (rdE X.K P E (eC (.str x))) := e_c pe_str fun _ => .str x
theorem e_globI {x : Str} {i : Int} {pos : Pos} (hg : Gl X x) (hm : ∃ t, X.mg x = some (.int i t)) (hd : (x == ("__debug__" : Str)) = false := by decide) : PE X (.Name x pos) (rdE X.K P E (eC (.int i))) := by
  obtain ⟨t, hm⟩ := hm
  exact e_c (pe_glob (v := .int i) hg hm ⟨t, rfl⟩ hd) fun _ => .int i
theorem e_globS {x y : Str} {pos : Pos} (hg : Gl X x) (hm : ∃ t, X.mg x = some (.str y t)) (hd : (x == ("__debug__" : Str)) = false := by decide) : PE X (.Name x pos) (rdE X.K P E (eC (.str y))) := by
  obtain ⟨t, hm⟩ := hm
  exact e_c (pe_glob (v := .str y) hg hm ⟨t, rfl⟩ hd) fun _ => .str y
end

/-! ### two-place operations by values -/
abbrev Op2 := Sto → VL → VL → Option (VL × Sto)
def eOp (f : Op2) (a b : SE) : SE := fun env st => obind (a env st) fun x st1 => obind (b env st1) fun y st2 => (f st2 x y).map fun z => .ok z.1 z.2
structure Pr2 (K : Kf) (r : R2) (f : Op2) : Prop where
  run : ∀ {P : Par} {ρ : List Addr} {F H : Hp} {st st' : Sto} {v w : V} {x y z : VL} {Q : VK}, Im K P ρ F H st → VR K ρ F v x → VR K ρ F w y → f st x y = some (z, st') →
    (∀ u ρ' F' H', Tr ρ F H ρ' F' H' → Im K P ρ' F' H' st' → VR K ρ' F' u z → Q u H') → r v w H Q
section
variable {K : Kf} {P : Par} {E : XK}
theorem op_rd {r : R2} {f : Op2} (hr : Pr2 K r f) {a b : SE} {σ : L2.St} {H : Hp} {Q : VK} (h : rdE K P E (eOp f a b) σ H Q) : tOp r (rdE K P E a) (rdE K P E b) σ H Q := by
  obtain ⟨ρ, F, st, env, o, I, R, h, p⟩ := h
  refine rdE_bind I R h p fun v ρ1 F1 H1 x st1 t1 I1 R1 r1 h1 p1 => ?_
  refine rdE_bind I1 R1 h1 p1 fun w ρ2 F2 H2 y st2 t2 I2 R2 r2 h2 p2 => ?_
  obtain ⟨z, hz, hk⟩ := Option.map_eq_some_iff.mp h2
  subst hk
  exact hr.run I2 (r1.mono t2) r2 hz p2
theorem op_rdT {r : R2} {f : Op2} (hr : Pr2 K r f) {a b : SE} {σ : L2.St} {H : Hp} {Q : Bool → Hp → Prop} (h : rdT K P E (eOp f a b) σ H Q) (hb : ∀ {ρ F v b}, VR K ρ F v (.d (.bool b)) → v = .bl b) : tTest (tOp r (rdE K P E a) (rdE K P E b)) σ H Q := by
  obtain ⟨ρ, F, st, env, o, I, R, h, p⟩ := h
  refine rdE_bindT I R h p fun v ρ1 F1 H1 x st1 t1 I1 R1 r1 h1 p1 => ?_
  refine rdE_bindT I1 R1 h1 p1 fun w ρ2 F2 H2 y st2 t2 I2 R2 r2 h2 p2 => ?_
  obtain ⟨z, hz, hk⟩ := Option.map_eq_some_iff.mp h2
  subst hk
  obtain ⟨b, hb1, p3⟩ := p2
  refine hr.run I2 (r1.mono t2) r2 hz fun u ρ' F' H' t I' ru => ?_
  rw [hb1] at ru
  exact ⟨b, hb ru, p3 ρ' F' H' t I'⟩
theorem vr_bool {ρ : List Addr} {F : Hp} {v : V} {b : Bool} (h : VR K ρ F v (.d (.bool b))) : v = .bl b := by
  cases (show Dq K F v (.bool b) from h)
  rfl
theorem vr_int {ρ : List Addr} {F : Hp} {v : V} {b : Int} (h : VR K ρ F v (.d (.int b))) : v = .int b := by
  cases (show Dq K F v (.int b) from h)
  rfl
theorem vr_str {ρ : List Addr} {F : Hp} {v : V} {b : Str} (h : VR K ρ F v (.d (.str b))) : v = .str b := by
  cases (show Dq K F v (.str b) from h)
  rfl
theorem vr_none {ρ : List Addr} {F : Hp} {v : V} (h : VR K ρ F v (.d .none)) : v = .non := by
  cases (show Dq K F v .none from h)
  rfl
end
section
variable {X : Cx} {P : Par} {E : XK} {a b : Expr} {ca cb : SE} {pos : Pos}
theorem e_bin {op : Operator} {r : R2} {f : Op2} (ho : OpR X (binaryOp op) r) (hr : Pr2 X.K r f) (ha : PE X a (rdE X.K P E ca)) (hb : PE X b (rdE X.K P E cb)) : PE X (.BinOp a op b pos) (rdE X.K P E (eOp f ca cb)) :=
  pe_weak (pe_op ho ha hb) fun _ _ _ h => op_rd hr h
theorem e_cmp {op : CmpOp} {r : R2} {f : Op2} (ho : OpR X (compareOp op) r) (hr : Pr2 X.K r f) (ha : PE X a (rdE X.K P E ca)) (hb : PE X b (rdE X.K P E cb)) (hm : behindInMarks op b = false) : PE X (.Compare a [op] [b] pos) (rdE X.K P E (eOp f ca cb)) :=
  pe_weak (pe_cmpR ho ha hb hm) fun _ _ _ h => op_rd hr h
theorem t_cmp {op : CmpOp} {r : R2} {f : Op2} (ho : OpR X (compareOp op) r) (hr : Pr2 X.K r f) (ha : PE X a (rdE X.K P E ca)) (hb : PE X b (rdE X.K P E cb)) (hm : behindInMarks op b = false) : PT X (.Compare a [op] [b] pos) (rdT X.K P E (eOp f ca cb)) :=
  pt_weak (pt_cmpR ho ha hb hm) fun _ _ _ h => op_rdT hr h vr_bool
theorem e_ix {r : R2} {f : Op2} (hr' : IxR X r) (hr : Pr2 X.K r f) (ha : PE X a (rdE X.K P E ca)) (hb : PE X b (rdE X.K P E cb)) (hs : PlainIx b) : PE X (.Subscript a b pos) (rdE X.K P E (eOp f ca cb)) :=
  pe_weak (pe_ix hr' ha hb hs) fun _ _ _ h => op_rd hr h
end
/-! ### tests -/
def eAnd (a b : SE) : SE := fun env st => obind (a env st) fun x st1 => (tst x).bind fun c => if c then b env st1 else some (.ok (.d (.bool false)) st1)
def eOr (a b : SE) : SE := fun env st => obind (a env st) fun x st1 => (tst x).bind fun c => if c then some (.ok (.d (.bool true)) st1) else b env st1
def eNot (a : SE) : SE := fun env st => obind (a env st) fun x st1 => (tst x).bind fun c => some (.ok (.d (.bool (!c))) st1)
def eIf (t a b : SE) : SE := fun env st => obind (t env st) fun x st1 => (tst x).bind fun c => if c then a env st1 else b env st1
section
variable {X : Cx} {P : Par} {E : XK} {a b e c : Expr} {ca cb ce cc : SE} {pos : Pos} {rest : List Expr}
theorem t_val (h : PE X e (rdE X.K P E ce)) (he : ∀ whole, isTrue e X.env whole = (do let v ← whole; standAt e.pos; holding [v] (truthy v)) := by intro _; rfl) : PT X e (rdT X.K P E ce) :=
  pt_weak (pt_val h he) fun σ H Q ⟨ρ, F, st, env, o, I, R, h, p⟩ => by
    refine ⟨ρ, F, st, env, o, I, R, h, ?_⟩
    cases o with
    | ok r st1 =>
      obtain ⟨b, e, q⟩ := p
      subst e
      exact fun v ρ' F' H' t I' r => ⟨b, vr_bool r, q ρ' F' H' t I'⟩
    | ex c fs st1 => exact p
theorem tand_rd {t u : SE} {σ : L2.St} {H : Hp} {Q : Bool → Hp → Prop} {K : Kf} (h : rdT K P E (eAnd t u) σ H Q) : tAnd (rdT K P E t) (rdT K P E u) σ H Q := by
  obtain ⟨ρ, F, st, env, o, I, R, h, p⟩ := h
  refine rdT_bindT (k := fun c st1 => if c then u env st1 else some (.ok (.d (.bool false)) st1)) I R h p fun ρ1 F1 H1 b st1 t1 I1 R1 h1 p1 => ?_
  cases b with
  | true => exact ⟨ρ1, F1, st1, env, o, I1, R1, h1, p1⟩
  | false =>
    cases h1
    obtain ⟨b, e, q⟩ := p1
    cases e
    exact q ρ1 F1 H1 (Tr.refl ..) I1
theorem tor_rd {t u : SE} {σ : L2.St} {H : Hp} {Q : Bool → Hp → Prop} {K : Kf} (h : rdT K P E (eOr t u) σ H Q) : tOr (rdT K P E t) (rdT K P E u) σ H Q := by
  obtain ⟨ρ, F, st, env, o, I, R, h, p⟩ := h
  refine rdT_bindT (k := fun c st1 => if c then some (.ok (.d (.bool true)) st1) else u env st1) I R h p fun ρ1 F1 H1 b st1 t1 I1 R1 h1 p1 => ?_
  cases b with
  | false => exact ⟨ρ1, F1, st1, env, o, I1, R1, h1, p1⟩
  | true =>
    cases h1
    obtain ⟨b, e, q⟩ := p1
    cases e
    exact q ρ1 F1 H1 (Tr.refl ..) I1
theorem w_and1 (ha : PT X a (rdT X.K P E ca)) : PW X (.BoolOp .And [a] pos) (rdT X.K P E ca) := pw_and1 ha
theorem w_or1 (ha : PT X a (rdT X.K P E ca)) : PW X (.BoolOp .Or [a] pos) (rdT X.K P E ca) := pw_or1 ha
theorem w_and (ha : PT X a (rdT X.K P E ca)) (hb : PW X (.BoolOp .And (b :: rest) pos) (rdT X.K P E cb)) : PW X (.BoolOp .And (a :: b :: rest) pos) (rdT X.K P E (eAnd ca cb)) := pw_weak (pw_and ha hb) fun _ _ _ h => tand_rd h
theorem w_or (ha : PT X a (rdT X.K P E ca)) (hb : PW X (.BoolOp .Or (b :: rest) pos) (rdT X.K P E cb)) : PW X (.BoolOp .Or (a :: b :: rest) pos) (rdT X.K P E (eOr ca cb)) := pw_weak (pw_or ha hb) fun _ _ _ h => tor_rd h
theorem t_w (h : PW X e (rdT X.K P E ce)) : PT X e (rdT X.K P E ce) := h.pt
theorem t_not (ha : PT X a (rdT X.K P E ca)) : PT X (.UnaryOp .Not a pos) (rdT X.K P E (eNot ca)) :=
  pt_weak (pt_not ha) fun σ H Q ⟨ρ, F, st, env, o, I, R, h, p⟩ => by
    refine rdT_bindT (k := fun c st1 => some (.ok (.d (.bool (!c))) st1)) I R h p fun ρ1 F1 H1 b st1 t1 I1 R1 h1 p1 => ?_
    cases h1
    obtain ⟨b, e, q⟩ := p1
    cases e
    exact q ρ1 F1 H1 (Tr.refl ..) I1
theorem e_not (ha : PE X a (rdE X.K P E ca)) : PE X (.UnaryOp .Not a pos) (rdE X.K P E (eNot ca)) :=
  pe_weak (pe_not ha) fun σ H Q ⟨ρ, F, st, env, o, I, R, h, p⟩ => by
    refine rdE_bind I R h p fun v ρ1 F1 H1 x st1 t1 I1 R1 r1 h1 p1 => ?_
    obtain ⟨b, hb, hk⟩ := Option.bind_eq_some_iff.mp h1
    cases x with
    | o n => cases hb
    | d y =>
      cases y with
      | bool c =>
        cases hb
        cases hk
        exact ⟨b, vr_bool r1, p1 _ ρ1 F1 H1 (Tr.refl ..) I1 (.bl _)⟩
      | _ => cases hb
theorem e_one {op} (ha : PE X a (rdE X.K P E ca)) : PE X (.BoolOp op [a] pos) (rdE X.K P E ca) := pe_one ha
theorem e_and (ha : PE X a (rdE X.K P E ca)) (hb : PE X (.BoolOp .And (b :: rest) pos) (rdE X.K P E cb)) : PE X (.BoolOp .And (a :: b :: rest) pos) (rdE X.K P E (eAnd ca cb)) :=
  pe_weak (pe_and ha hb) fun σ H Q ⟨ρ, F, st, env, o, I, R, h, p⟩ => by
    refine rdE_bind I R h p fun v ρ1 F1 H1 x st1 t1 I1 R1 r1 h1 p1 => ?_
    obtain ⟨b, hb, hk⟩ := Option.bind_eq_some_iff.mp h1
    cases x with
    | o n => cases hb
    | d y =>
      cases y with
      | bool c =>
        cases hb
        refine ⟨b, vr_bool r1, ?_⟩
        cases b with
        | true => exact ⟨ρ1, F1, st1, env, o, I1, R1, hk, p1⟩
        | false =>
          cases hk
          exact p1 _ ρ1 F1 H1 (Tr.refl ..) I1 (.bl _)
      | _ => cases hb
theorem e_or (ha : PE X a (rdE X.K P E ca)) (hb : PE X (.BoolOp .Or (b :: rest) pos) (rdE X.K P E cb)) : PE X (.BoolOp .Or (a :: b :: rest) pos) (rdE X.K P E (eOr ca cb)) :=
  pe_weak (pe_or ha hb) fun σ H Q ⟨ρ, F, st, env, o, I, R, h, p⟩ => by
    refine rdE_bind I R h p fun v ρ1 F1 H1 x st1 t1 I1 R1 r1 h1 p1 => ?_
    obtain ⟨b, hb, hk⟩ := Option.bind_eq_some_iff.mp h1
    cases x with
    | o n => cases hb
    | d y =>
      cases y with
      | bool c =>
        cases hb
        refine ⟨b, vr_bool r1, ?_⟩
        cases b with
        | false => exact ⟨ρ1, F1, st1, env, o, I1, R1, hk, p1⟩
        | true =>
          cases hk
          exact p1 _ ρ1 F1 H1 (Tr.refl ..) I1 (.bl _)
      | _ => cases hb
theorem e_if (hc : PT X c (rdT X.K P E cc)) (ha : PE X a (rdE X.K P E ca)) (hb : PE X b (rdE X.K P E cb)) : PE X (.IfExp c a b pos) (rdE X.K P E (eIf cc ca cb)) :=
  pe_weak (pe_ifExp hc ha hb) fun σ H Q ⟨ρ, F, st, env, o, I, R, h, p⟩ => by
    refine rdT_bindE (k := fun c st1 => if c then ca env st1 else cb env st1) I R h p fun ρ1 F1 H1 b st1 t1 I1 R1 h1 p1 => ?_
    cases b with
    | true => exact ⟨ρ1, F1, st1, env, o, I1, R1, h1, p1⟩
    | false => exact ⟨ρ1, F1, st1, env, o, I1, R1, h1, p1⟩
end
/-! ### argument lists -/
def aNil : SL := fun _ st => some (.ok [] st)
def aCons (c : SE) (cs : SL) : SL := fun env st => match c env st with
  | none => none
  | some (.ex k fs st1) => some (.ex k fs st1)
  | some (.ok r st1) => match cs env st1 with
    | none => none
    | some (.ex k fs st2) => some (.ex k fs st2)
    | some (.ok rs st2) => some (.ok (r :: rs) st2)
section
variable {X : Cx} {P : Par} {E : XK} {e : Expr} {es : List Expr} {ce : SE} {cs : SL} {pos : Pos}
theorem a_nil : PA X [] (rdL X.K P E aNil) := pa_weak pa_nil fun σ H Q ⟨ρ, F, st, env, o, I, R, h, p⟩ => by
  cases h
  exact p [] ρ F H (Tr.refl ..) I .nil
theorem a_cons (he : PE X e (rdE X.K P E ce)) (hs : PA X es (rdL X.K P E cs)) (hst : starEach (e :: es) X.env = (false, eval e X.env) :: starEach es X.env := by rfl) : PA X (e :: es) (rdL X.K P E (aCons ce cs)) :=
  pa_weak (pa_cons he hs hst) fun σ H Q ⟨ρ, F, st, env, o, I, R, h, p⟩ => by
    unfold aCons at h
    cases hc : ce env st with
    | none =>
      rw [hc] at h
      cases h
    | some o1 =>
      rw [hc] at h
      refine ⟨ρ, F, st, env, o1, I, R, hc, ?_⟩
      cases o1 with
      | ex k fs st1 =>
        cases h
        exact p
      | ok r st1 =>
        intro v ρ1 F1 H1 t1 I1 r1
        cases hd : cs env st1 with
        | none =>
          simp only [hd] at h
          cases h
        | some o2 =>
          simp only [hd] at h
          refine ⟨ρ1, F1, st1, env, o2, I1, R.mono t1, hd, ?_⟩
          cases o2 with
          | ex k fs st2 =>
            cases h
            exact PostX.mono t1 p
          | ok rs st2 =>
            cases h
            exact fun vs ρ2 F2 H2 t2 I2 r2 => p (v :: vs) ρ2 F2 H2 (t1.trans t2) I2 (.cons (r1.mono t2) r2)
end
end Sl
set_option Elab.async false
set_option linter.all false
set_option autoImplicit false
set_option maxRecDepth 100000
set_option maxHeartbeats 4000000
namespace Sl
open PySem PySem.Spec PyProof.Rows L2

/-! ### values of the store as data, as sequences -/
def allD : List VL → Option (List PyData)
  | [] => some []
  | .d x :: r => (allD r).map (x :: ·)
  | .o _ :: _ => none
def seqOf : PyData → Option (Bool × List VL)
  | .list ds => some (false, ds.map .d)
  | .tuple ds => some (true, ds.map .d)
  | _ => none
def asSeq (st : Sto) : VL → Option (Bool × List VL)
  | .d x => seqOf x
  | .o n => match st[n]? with
    | some (.lst xs) => some (false, xs)
    | some (.fr x) => seqOf x
    | _ => none
def asD (st : Sto) : VL → Option PyData
  | .d x => some x
  | .o n => match st[n]? with
    | some (.lst xs) => (allD xs).map .list
    | some (.fr x) => some x
    | _ => none
section
variable {K : Kf} {P : Par} {ρ : List Addr} {F H : Hp} {st : Sto}
theorem vrs_of : ∀ {vs : List V} {ds : List PyData}, DqAll K F vs ds → VRs K ρ F vs (ds.map .d)
  | _, _, .nil => .nil
  | _, _, .cons h t => .cons h (vrs_of t)
theorem dqa_of : ∀ {vs : List V} {xs : List VL} {ds : List PyData}, VRs K ρ F vs xs → allD xs = some ds → DqAll K F vs ds
  | _, _, _, .nil, e => by
    cases e
    exact .nil
  | _, .d x :: r, _, .cons h t, e => by
    obtain ⟨ds, h1, h2⟩ := Option.map_eq_some_iff.mp (show (allD r).map (x :: ·) = some _ from e)
    subst h2
    exact .cons h (dqa_of t h1)
  | _, .o n :: r, _, .cons h t, e => by cases e
/-- what a sequence is -/
structure IsSeq (K : Kf) (ρ : List Addr) (F H : Hp) (v : V) (b : Bool) (xs : List VL) : Prop where
  ex : ∃ a vs, v = .ref a ∧ (b = false → SqL K H a vs) ∧ (b = true → H a = some (.tup vs) ∧ ∃ ds, xs = ds.map .d ∧ Dq K F v (.tuple ds)) ∧ VRs K ρ F vs xs
theorem allD_map : ∀ l : List PyData, allD (l.map VL.d) = some l
  | [] => rfl
  | a :: r => by
    show (allD (r.map VL.d)).map _ = _
    rw [allD_map r]
    rfl
theorem seqOf_ok (e : Evl.Ex F H) {v : V} {x : PyData} {b : Bool} {xs : List VL} (r : Dq K F v x) (h : seqOf x = some (b, xs)) : IsSeq K ρ F H v b xs := by
  cases r with
  | lst hs hd =>
    cases h
    exact ⟨_, _, rfl, fun _ => Evl.ex_l e hs, fun z => Bool.noConfusion z, vrs_of hd⟩
  | tup hs hd =>
    cases h
    exact ⟨_, _, rfl, fun z => Bool.noConfusion z, fun _ => ⟨e _ _ hs, _, rfl, .tup hs hd⟩, vrs_of hd⟩
  | _ => cases h
theorem Im.at_ (I : Im K P ρ F H st) {n : Nat} {b : Ob} {v : V} (r : VR K ρ F v (.o n)) (h : st[n]? = some b) : ∃ a, v = .ref a ∧ ρ[n]? = some a ∧ ObR K P ρ F H a b := by
  obtain ⟨a, rfl, ha⟩ := r
  exact ⟨a, rfl, ha, I.ob n a b ha h⟩
theorem asSeq_ok (I : Im K P ρ F H st) {v : V} {x : VL} {b : Bool} {xs : List VL} (r : VR K ρ F v x) (h : asSeq st x = some (b, xs)) : IsSeq K ρ F H v b xs := by
  cases x with
  | d x => exact seqOf_ok I.ex r h
  | o n =>
    unfold asSeq at h
    cases hs : st[n]? with
    | none => simp [hs] at h
    | some ob =>
      obtain ⟨a, rfl, ha, hb⟩ := I.at_ r hs
      cases ob with
      | lst ys =>
        simp only [hs, Option.some.injEq, Prod.mk.injEq] at h
        obtain ⟨rfl, rfl⟩ := h
        obtain ⟨_, vs, h1, h2⟩ := hb
        exact ⟨a, vs, rfl, fun _ => SqL.of h1, fun z => Bool.noConfusion z, h2⟩
      | fr y =>
        simp only [hs] at h
        exact seqOf_ok I.ex hb h
      | _ => simp [hs] at h
theorem asD_ok (I : Im K P ρ F H st) {v : V} {x : VL} {y : PyData} (r : VR K ρ F v x) (h : asD st x = some y) : Dp K H v y := by
  cases x with
  | d x =>
    cases h
    exact dq_dp I.ex r
  | o n =>
    unfold asD at h
    cases hs : st[n]? with
    | none => simp [hs] at h
    | some ob =>
      obtain ⟨a, rfl, ha, hb⟩ := I.at_ r hs
      cases ob with
      | lst ys =>
        simp only [hs] at h
        obtain ⟨ds, h1, h2⟩ := Option.map_eq_some_iff.mp h
        subst h2
        obtain ⟨_, vs, h3, h4⟩ := hb
        exact .lst (SqL.of h3) (dqa_dp I.ex (dqa_of h4 h1))
      | fr y =>
        simp only [hs, Option.some.injEq] at h
        subst h
        exact dq_dp I.ex hb
      | _ => simp [hs] at h
/-! ### new lists, new tuples -/
abbrev Mk := List VL → Sto → Option (VL × Sto)
theorem junk (I : Im K P ρ F H st) {p : Addr} (hp : H p = none) (o : HO) : Tr ρ F H ρ F (upd H p o) ∧ Im K P ρ F (upd H p o) st := by
  have hne : ∀ b, H b ≠ none → b ≠ p := fun b h e => h (by rw [e]; exact hp)
  have t : Tr ρ F H ρ F (upd H p o) := by
    refine ⟨⟨[], (List.append_nil _).symm⟩, fun _ h => .inl h, Evl.Ex.refl F, fun b u h _ => ?_, fun b h => ?_, fun b h => .inl h⟩
    · rw [upd_ne (hne b (by rw [h]; exact fun z => nomatch z))]
      exact h
    · rw [upd_ne (hne b h)]
      exact h
  exact ⟨t, I.over t (fun b u h => by
    rw [upd_ne (hne b (by rw [I.ex b u h]; exact fun z => nomatch z))]
    exact I.ex b u h) (fun b h => upd_ne (hne b (I.dom b h))) fun b h h1 => h1⟩
/-- a list at D, laid since H0, untold so far, becomes data or an object -/
structure MkOk (K : Kf) (mk : Mk) : Prop where
  fin : ∀ {P : Par} {ρ0 ρ : List Addr} {F0 H0 F H : Hp} {st st' : Sto} {vs : List V} {xs : List VL} {z : VL} {D : Addr}, Tr ρ0 F0 H0 ρ F H → Im K P ρ F H st → H0 D = none → H D = some (.lst vs) → D ∉ ρ → F D = none → VRs K ρ F vs xs → mk xs st = some (z, st') →
    ∃ ρ' F', Tr ρ0 F0 H0 ρ' F' H ∧ Im K P ρ' F' H st' ∧ VR K ρ' F' (.ref D) z
theorem ex_new {F H : Hp} (e : Evl.Ex F H) {D : Addr} {o : HO} (hD : H D = some o) : Evl.Ex (upd F D o) H := fun b u h => by
  by_cases hb : b = D
  · subst hb
    rw [upd_same] at h
    rw [hD]
    exact h
  · rw [upd_ne hb] at h
    exact e b u h
/-- what was laid since H0 is data from now on -/
theorem Im.later {ρ0 : List Addr} {F0 H0 : Hp} (T : Tr ρ0 F0 H0 ρ F H) (I : Im K P ρ F H st) {D : Addr} {o : HO} (h0 : H0 D = none) (hD : H D = some o) (hr : D ∉ ρ) (hF : F D = none) : Tr ρ0 F0 H0 ρ (upd F D o) H ∧ Im K P ρ (upd F D o) H st ∧ Evl.Ex F (upd F D o) := by
  have e1 : Evl.Ex F (upd F D o) := Evl.Ex.new hF
  refine ⟨⟨T.pre, T.fresh, T.exF.trans e1, T.keep, T.stay, fun b h => ?_⟩, ?_, e1⟩
  · by_cases hb : b = D
    · subst hb
      exact .inr (.inl h0)
    · rw [upd_ne hb] at h
      exact T.newF b h
  · refine ⟨I.len, I.nd, ex_new I.ex hD, I.dom, fun i a b h1 h2 => ?_⟩
    have hm : a ∈ ρ := List.mem_of_getElem? h1
    exact ObR.up e1 (fun h => by rw [upd_ne (fun e : a = D => hr (by rw [← e]; exact hm))]; exact h) rfl (I.ob i a b h1 h2)
/-- .. or an object of the store -/
theorem Im.later2 {ρ0 : List Addr} {F0 H0 : Hp} (T : Tr ρ0 F0 H0 ρ F H) (I : Im K P ρ F H st) {D : Addr} {b : Ob} (h0 : H0 D = none) (hD : H D ≠ none) (hr : D ∉ ρ) (hb : ObR K P (ρ ++ [D]) F H D b) :
    Tr ρ0 F0 H0 (ρ ++ [D]) F H ∧ Im K P (ρ ++ [D]) F H (st ++ [b]) := by
  obtain ⟨new, hnew⟩ := T.pre
  refine ⟨⟨⟨new ++ [D], by rw [hnew, List.append_assoc]⟩, fun a h => ?_, T.exF, T.keep, T.stay, T.newF⟩, ⟨by simp [I.len], ?_, I.ex, fun a h => ?_, fun i a c h1 h2 => ?_⟩⟩
  · rcases List.mem_append.mp h with h | h
    · exact T.fresh a h
    · rw [List.mem_singleton.mp h]
      exact .inr h0
  · refine List.nodup_append.mpr ⟨I.nd, by simp, fun a h b h1 e => ?_⟩
    rw [List.mem_singleton.mp h1] at e
    exact hr (e ▸ h)
  · rcases List.mem_append.mp h with h | h
    · exact I.dom a h
    · rw [List.mem_singleton.mp h]
      exact hD
  · by_cases hi : i < ρ.length
    · rw [List.getElem?_append_left hi] at h1
      rw [List.getElem?_append_left (by rw [← I.len]; exact hi)] at h2
      exact ObR.more (I.ob i a c h1 h2)
    · have hi2 : i = ρ.length := by
        have := (List.getElem?_eq_some_iff.mp h1).1
        simp at this
        omega
      subst hi2
      rw [List.getElem?_append_right (Nat.le_refl _), Nat.sub_self] at h1
      rw [List.getElem?_append_right (by rw [I.len]; exact Nat.le_refl _), I.len, Nat.sub_self] at h2
      cases h1
      cases h2
      exact hb
theorem MkOk.run {mk : Mk} (hm : MkOk K mk) {st' : Sto} {vs : List V} {xs : List VL} {z : VL} {p : Addr} (I : Im K P ρ F H st) (hp : H p = none) (r : VRs K ρ F vs xs) (h : mk xs st = some (z, st')) :
    ∃ ρ' F', Tr ρ F H ρ' F' (upd H p (.lst vs)) ∧ Im K P ρ' F' (upd H p (.lst vs)) st' ∧ VR K ρ' F' (.ref p) z := by
  obtain ⟨t, I'⟩ := junk I hp (.lst vs)
  refine hm.fin t I' hp upd_same (fun h => I.dom p h hp) ?_ r h
  cases q : F p with
  | none => rfl
  | some u =>
    rw [I.ex p u q] at hp
    cases hp
def mkD : Mk := fun xs st => (allD xs).map fun ds => (.d (.list ds), st)
def mkN : Mk := fun xs st => some (.o st.length, st ++ [.lst xs])
def mkT : Mk := fun xs st => (allD xs).map fun ds => (.d (.tuple ds), st)
theorem mkD_ok : MkOk K mkD := ⟨fun {P ρ0 ρ F0 H0 F H st st' vs xs z D} T I h0 hD hr hF r h => by
  obtain ⟨ds, h1, h2⟩ := Option.map_eq_some_iff.mp h
  cases h2
  obtain ⟨T', I', e⟩ := I.later T h0 hD hr hF
  exact ⟨ρ, _, T', I', .lst (SqL.of upd_same) (dqa_mono e (dqa_of r h1))⟩⟩
theorem mkN_ok : MkOk K mkN := ⟨fun {P ρ0 ρ F0 H0 F H st st' vs xs z D} T I h0 hD hr hF r h => by
  cases h
  obtain ⟨T', I'⟩ := I.later2 (b := .lst xs) T h0 (by rw [hD]; exact fun z => nomatch z) hr ⟨hF, vs, hD, VRs.more r⟩
  refine ⟨_, F, T', I', D, rfl, ?_⟩
  rw [List.getElem?_append_right (by rw [I.len]; exact Nat.le_refl _), I.len, Nat.sub_self]
  rfl⟩
theorem mkT_ok {st' : Sto} {vs : List V} {xs : List VL} {z : VL} {p : Addr} (I : Im K P ρ F H st) (hp : H p = none) (r : VRs K ρ F vs xs) (h : mkT xs st = some (z, st')) :
    ∃ ρ' F', Tr ρ F H ρ' F' (upd H p (.tup vs)) ∧ Im K P ρ' F' (upd H p (.tup vs)) st' ∧ VR K ρ' F' (.ref p) z := by
  obtain ⟨ds, h1, h2⟩ := Option.map_eq_some_iff.mp h
  cases h2
  obtain ⟨t, I'⟩ := I.data hp (.tup vs)
  exact ⟨ρ, upd F p (.tup vs), t, I', .tup upd_same (dqa_mono t.exF (dqa_of r h1))⟩
end

/-! ### arithmetic -/
def asI : VL → Option Int
  | .d (.int i) => some i
  | _ => none
theorem asI_eq {x : VL} {i : Int} (h : asI x = some i) : x = .d (.int i) := by
  cases x with
  | o n => cases h
  | d y =>
    cases y with
    | int j => cases h; rfl
    | _ => cases h
/-- an operation on two ints -/
def oI (C : Int → Int → Bool) (g : Int → Int → PyData) : Op2 := fun st x y => match asI x, asI y with
  | some i, some j => if C i j then some (.d (g i j), st) else none
  | _, _ => none
theorem oI_some {C : Int → Int → Bool} {g : Int → Int → PyData} {st st' : Sto} {x y z : VL} (h : oI C g st x y = some (z, st')) : ∃ i j, x = .d (.int i) ∧ y = .d (.int j) ∧ C i j = true ∧ z = .d (g i j) ∧ st' = st := by
  unfold oI at h
  cases hx : asI x with
  | none => rw [hx] at h; cases h
  | some i =>
    cases hy : asI y with
    | none => rw [hx, hy] at h; cases h
    | some j =>
      rw [hx, hy] at h
      by_cases c : C i j = true
      · simp only [c, if_true, Option.some.injEq, Prod.mk.injEq] at h
        exact ⟨i, j, asI_eq hx, asI_eq hy, c, h.1.symm, h.2.symm⟩
      · simp only [c] at h
        cases h
theorem pr_I {K : Kf} {C : Int → Int → Bool} {C' : Int → Int → Prop} {g : Int → Int → PyData} {g' : Int → Int → V} (hC : ∀ i j, C i j = true → C' i j) (hg : ∀ F i j, Dq K F (g' i j) (g i j)) : Pr2 K (rI C' g') (oI C g) := ⟨fun {P ρ F H st st' v w x y z Q} I rx ry h q => by
  obtain ⟨i, j, rfl, rfl, c, rfl, rfl⟩ := oI_some h
  exact ⟨i, j, vr_int rx, vr_int ry, hC i j c, q _ ρ F H (Tr.refl ..) I (hg F i j)⟩⟩
theorem pr_I0 {K : Kf} {g : Int → Int → PyData} {g' : Int → Int → V} (hg : ∀ F i j, Dq K F (g' i j) (g i j)) : Pr2 K (rI0 g') (oI (fun _ _ => true) g) := ⟨fun {P ρ F H st st' v w x y z Q} I rx ry h q => by
  obtain ⟨i, j, rfl, rfl, c, rfl, rfl⟩ := oI_some h
  exact ⟨i, j, vr_int rx, vr_int ry, q _ ρ F H (Tr.refl ..) I (hg F i j)⟩⟩
def oSub : Op2 := oI (fun _ _ => true) fun i j => .int (i - j)
def oMul : Op2 := oI (fun i j => (decide (-(2 ^ 64) < i) && decide (i < 2 ^ 64)) || (decide (-(2 ^ 64) < j) && decide (j < 2 ^ 64))) fun i j => .int (i * j)
def oDiv : Op2 := oI (fun _ j => decide (0 < j) && decide (j < 1073741824)) fun i j => .int (i / j)
def oDivW : Op2 := oI (fun _ j => decide (0 < j) && decide (j.natAbs.log2 < 9000)) fun i j => .int (i / j)
def oMod : Op2 := oI (fun _ j => decide (0 < j)) fun i j => .int (i % j)
def oPow : Op2 := oI (fun i j => (decide (0 ≤ j) && decide (j ≤ 1000000)) && decide (i.natAbs < 2 ^ 64)) fun i j => .int (i ^ j.toNat)
def oLt : Op2 := oI (fun _ _ => true) fun i j => .bool (decide (i < j))
def oLe : Op2 := oI (fun _ _ => true) fun i j => .bool (decide (i ≤ j))
def oGt : Op2 := oI (fun _ _ => true) fun i j => .bool (decide (j < i))
def oGe : Op2 := oI (fun _ _ => true) fun i j => .bool (decide (j ≤ i))
section
variable {K : Kf}
theorem pr_sub : Pr2 K (rI0 fun i j => .int (i - j)) oSub := pr_I0 fun _ _ _ => .int _
theorem pr_mul : Pr2 K (rI CMul fun i j => .int (i * j)) oMul := pr_I (fun i j h => by
  simp only [Bool.or_eq_true, Bool.and_eq_true, decide_eq_true_eq] at h
  exact h) fun _ _ _ => .int _
theorem pr_div : Pr2 K (rI CDiv fun i j => .int (i / j)) oDiv := pr_I (fun i j h => by
  simp only [Bool.and_eq_true, decide_eq_true_eq] at h
  exact h) fun _ _ _ => .int _
theorem pr_divW : Pr2 K (rI CDivW fun i j => .int (i / j)) oDivW := pr_I (fun i j h => by
  simp only [Bool.and_eq_true, decide_eq_true_eq] at h
  exact h) fun _ _ _ => .int _
theorem pr_mod : Pr2 K (rI (fun _ j => 0 < j) fun i j => .int (i % j)) oMod := pr_I (fun i j h => by
  simp only [decide_eq_true_eq] at h
  exact h) fun _ _ _ => .int _
theorem pr_pow : Pr2 K (rI CPow fun i j => .int (i ^ j.toNat)) oPow := pr_I (fun i j h => by
  simp only [Bool.and_eq_true, decide_eq_true_eq] at h
  exact ⟨h.1.1, h.1.2, h.2⟩) fun _ _ _ => .int _
theorem pr_lt : Pr2 K (rI0 fun i j => .bl (decide (i < j))) oLt := pr_I0 fun _ _ _ => .bl _
theorem pr_le : Pr2 K (rI0 fun i j => .bl (decide (i ≤ j))) oLe := pr_I0 fun _ _ _ => .bl _
theorem pr_gt : Pr2 K (rI0 fun i j => .bl (decide (j < i))) oGt := pr_I0 fun _ _ _ => .bl _
theorem pr_ge : Pr2 K (rI0 fun i j => .bl (decide (j ≤ i))) oGe := pr_I0 fun _ _ _ => .bl _
end
/-! ### + -/
section
variable {X : Cx}
/-- two lists, wherever they stand -/
def rCatS (K : Kf) : R2 := fun x y H Q => ∃ l b xs zs, x = .ref l ∧ y = .ref b ∧ SqL K H l xs ∧ SqL K H b zs ∧ xs.length + zs.length ≤ sizeLine ∧ ∀ p, H p = none → Q (.ref p) (upd H p (.lst (xs ++ zs)))
theorem op_catS : OpR X (binaryOp .Add) (rCatS X.K) := by
  intro pins s σ H x y v u Q I rx ry h
  obtain ⟨l, b, xs, zs, rfl, rfl, hH, hB, hz, q⟩ := h
  cases rx
  cases ry
  obtain ⟨its, r, p1, z1⟩ := I.list hH
  obtain ⟨its2, r2, p2, z2⟩ := I.list hB
  obtain ⟨⟨cls, dd, data, sl⟩, n, ho, hc, hdd, hd⟩ := p1
  obtain ⟨⟨cls2, dd2, data2, sl2⟩, n2, ho2, hc2, hdd2, hd2⟩ := p2
  simp only at hc hd hc2 hd2
  subst hc hd hc2 hd2
  have e : its.toArray ++ its2.toArray = (its ++ its2).toArray := by simp
  have l1 := r.length
  have l2 := r2.length
  refine concat_meets ⟨_, ho, rfl⟩ ⟨_, ho2, rfl⟩ noFill_list_add seq_list_add PySem.F.slot_list_add PySem.F.entry_list_add (PySem.F.args_list_add_2 _ _) (list_addW l b its.toArray its2.toArray n n2 dd dd2 sl sl2 (by simp only [List.size_toArray]; omega)) ⟨ho, ho2, ?_⟩
  rw [e]
  exact ⟨.ref _, _, I.lnew (t' := s.toks) (r.append r2) (by rw [List.length_append]; omega), rfl, q _ I.fresh⟩
def rAddI : R2 := rI0 fun i j => .int (i + j)
def rAddT : R2 := fun x y H Q => ∃ i j, x = .str i ∧ y = .str j ∧ i.length + j.length ≤ sizeLine ∧ Q (.str (i ++ j)) H
def rAddA (K : Kf) : R2 := fun x y H Q => rAddI x y H Q ∨ (fun x y H Q => rAddT x y H Q ∨ (fun x y H Q => rCatS K x y H Q ∨ rCatA K x y H Q) x y H Q) x y H Q
theorem op_addA : OpR X (binaryOp .Add) (rAddA X.K) := OpR.or op_add (OpR.or op_add_str (OpR.or op_catS op_catA))
def oAdd (mk : Mk) : Op2 := fun st x y => match x, y with
  | .d (.int i), .d (.int j) => some (.d (.int (i + j)), st)
  | .d (.str i), .d (.str j) => if i.length + j.length ≤ sizeLine then some (.d (.str (i ++ j)), st) else none
  | x, y => match asSeq st x, asSeq st y with
    | some (false, xs), some (false, ys) => if xs.length + ys.length ≤ sizeLine then mk (xs ++ ys) st else none
    | some (true, xs), some (true, ys) => if xs.length + ys.length ≤ sizeLine then mkT (xs ++ ys) st else none
    | _, _ => none
theorem paired_append {α β : Type} {R : α → β → Prop} : ∀ {a a' : List α} {b b' : List β}, Paired R a b → Paired R a' b' → Paired R (a ++ a') (b ++ b')
  | _, _, _, _, .nil, h => h
  | _, _, _, _, .cons h t, h' => .cons h (paired_append t h')
theorem paired_len {α β : Type} {R : α → β → Prop} : ∀ {a : List α} {b : List β}, Paired R a b → a.length = b.length
  | _, _, .nil => rfl
  | _, _, .cons h t => congrArg (· + 1) (paired_len t)
theorem add_seq {K : Kf} {mk : Mk} (hm : MkOk K mk) {P : Par} {ρ : List Addr} {F H : Hp} {st st' : Sto} {v w : V} {x y z : VL} {Q : VK} (I : Im K P ρ F H st) (rx : VR K ρ F v x) (ry : VR K ρ F w y)
    (h : (match asSeq st x, asSeq st y with
    | some (false, xs), some (false, ys) => if xs.length + ys.length ≤ sizeLine then mk (xs ++ ys) st else none
    | some (true, xs), some (true, ys) => if xs.length + ys.length ≤ sizeLine then mkT (xs ++ ys) st else none
    | _, _ => none) = some (z, st'))
    (q : ∀ u ρ' F' H', Tr ρ F H ρ' F' H' → Im K P ρ' F' H' st' → VR K ρ' F' u z → Q u H') : rCatS K v w H Q ∨ rCatA K v w H Q := by
  cases hx : asSeq st x with
  | none => simp [hx] at h
  | some bx =>
    cases hy : asSeq st y with
    | none => simp [hx, hy] at h
    | some by_ =>
      obtain ⟨b1, xs⟩ := bx
      obtain ⟨b2, ys⟩ := by_
      obtain ⟨a, vs, rfl, h1, h2, h3⟩ := asSeq_ok I rx hx
      obtain ⟨a', ws, rfl, h1', h2', h3'⟩ := asSeq_ok I ry hy
      have l1 := paired_len h3
      have l2 := paired_len h3'
      cases b1 with
      | false =>
        cases b2 with
        | true => simp [hx, hy] at h
        | false =>
          simp only [hx, hy] at h
          by_cases hz : xs.length + ys.length ≤ sizeLine
          · rw [if_pos hz] at h
            refine .inl ⟨a, a', vs, ws, rfl, rfl, h1 rfl, h1' rfl, by omega, fun p hp => ?_⟩
            obtain ⟨ρ', F', t, I', r'⟩ := hm.run I hp (paired_append h3 h3') h
            exact q _ ρ' F' _ t I' r'
          · rw [if_neg hz] at h
            cases h
      | true =>
        cases b2 with
        | false => simp [hx, hy] at h
        | true =>
          simp only [hx, hy] at h
          by_cases hz : xs.length + ys.length ≤ sizeLine
          · rw [if_pos hz] at h
            obtain ⟨e1, d1, g1, k1⟩ := h2 rfl
            obtain ⟨e2, d2, g2, k2⟩ := h2' rfl
            refine .inr ⟨a, a', vs, ws, rfl, rfl, SqT.of e1, SqT.of e2, by omega, fun e => ?_, fun _ e => ?_, fun _ _ p hp => ?_⟩
            · subst e
              cases h3
              rw [List.nil_append, g2] at h
              unfold mkT at h
              rw [allD_map] at h
              cases h
              exact q _ ρ F H (Tr.refl ..) I k2
            · subst e
              cases h3'
              rw [List.append_nil, g1] at h
              unfold mkT at h
              rw [allD_map] at h
              cases h
              exact q _ ρ F H (Tr.refl ..) I k1
            · obtain ⟨ρ', F', t, I', r'⟩ := mkT_ok I hp (paired_append h3 h3') h
              exact q _ ρ' F' _ t I' r'
          · rw [if_neg hz] at h
            cases h
end
end Sl
set_option Elab.async false
set_option linter.all false
set_option autoImplicit false
set_option maxRecDepth 100000
set_option maxHeartbeats 4000000
namespace Sl
open PySem PySem.Spec PyProof.Rows L2

/-! ### + again, == and !=, is None -/
section
variable {K : Kf}
theorem pr_add {mk : Mk} (hm : MkOk K mk) : Pr2 K (rAddA K) (oAdd mk) := ⟨fun {P ρ F H st st' v w x y z Q} I rx ry h q => by
  unfold oAdd at h
  split at h
  · cases h
    exact .inl ⟨_, _, vr_int rx, vr_int ry, q _ ρ F H (Tr.refl ..) I (.int _)⟩
  · split at h
    · cases h
      exact .inr (.inl ⟨_, _, vr_str rx, vr_str ry, by assumption, q _ ρ F H (Tr.refl ..) I (.str _)⟩)
    · cases h
  · exact .inr (.inr (add_seq hm I rx ry h q))⟩
def scalD : PyData → PyData → Bool
  | .none, .none => true | .none, .int _ => true | .int _, .none => true | .none, .bool _ => true | .bool _, .none => true | .none, .str _ => true | .str _, .none => true
  | .int _, .int _ => true | .bool _, .bool _ => true | .str _, .str _ => true
  | .int _, .str _ => true | .str _, .int _ => true | .bool _, .str _ => true | .str _, .bool _ => true
  | _, _ => false
theorem scal_eq {F : Hp} {v w : V} {d e : PyData} (h1 : Dp K F v d) (h2 : Dp K F w e) (h : scalD d e = true) : scal v w = true ∧ decide (v = w) = PyData.eqv d e := by
  cases h1 <;> cases h2 <;> first
    | (simp [scalD] at h; done)
    | (refine ⟨rfl, ?_⟩; simp [PyData.eqv]; done)
    | (refine ⟨rfl, ?_⟩; simp only [PyData.eqv]; rw [Bool.eq_iff_iff]; simp; done)
def oEqC (neg : Bool) : Op2 := fun st x y => match asD st x, asD st y with
  | some d, some e => if scalD d e || (SeqAt.shaped d && SeqAt.shaped e) then some (.d (.bool (if neg then !PyData.eqv d e else PyData.eqv d e)), st) else none
  | _, _ => none
def oEq : Op2 := oEqC false
def oNe : Op2 := oEqC true
def rEqA (K : Kf) : R2 := fun x y H Q => rEq x y H Q ∨ rEqD K x y H Q
def rNeA (K : Kf) : R2 := fun x y H Q => rNe x y H Q ∨ rNeD K x y H Q
theorem op_eqA {X : Cx} (hu : X.A.units + 64 < cLine) : OpR X (compareOp .Eq) (rEqA X.K) := OpR.or op_eq (op_eqD hu)
theorem op_neA {X : Cx} (hu : X.A.units + 64 < cLine) : OpR X (compareOp .NotEq) (rNeA X.K) := OpR.or op_ne (op_neD hu)
theorem pr_eq : Pr2 K (rEqA K) oEq := ⟨fun {P ρ F H st st' v w x y z Q} I rx ry h q => by
  unfold oEq oEqC at h
  split at h
  · rename_i d e hd he
    have h1 := asD_ok I rx hd
    have h2 := asD_ok I ry he
    split at h
    · rename_i c
      cases h
      rcases Bool.or_eq_true_iff.mp c with c | c
      · obtain ⟨s1, s2⟩ := scal_eq h1 h2 c
        exact .inl ⟨s1, by rw [s2]; exact q _ ρ F H (Tr.refl ..) I (.bl _)⟩
      · obtain ⟨c1, c2⟩ := Bool.and_eq_true_iff.mp c
        exact .inr ⟨d, e, h1, h2, c1, c2, q _ ρ F H (Tr.refl ..) I (.bl _)⟩
    · cases h
  · cases h⟩
theorem pr_ne : Pr2 K (rNeA K) oNe := ⟨fun {P ρ F H st st' v w x y z Q} I rx ry h q => by
  unfold oNe oEqC at h
  split at h
  · rename_i d e hd he
    have h1 := asD_ok I rx hd
    have h2 := asD_ok I ry he
    split at h
    · rename_i c
      cases h
      rcases Bool.or_eq_true_iff.mp c with c | c
      · obtain ⟨s1, s2⟩ := scal_eq h1 h2 c
        exact .inl ⟨s1, by rw [s2]; exact q _ ρ F H (Tr.refl ..) I (.bl _)⟩
      · obtain ⟨c1, c2⟩ := Bool.and_eq_true_iff.mp c
        exact .inr ⟨d, e, h1, h2, c1, c2, q _ ρ F H (Tr.refl ..) I (.bl _)⟩
    · cases h
  · cases h⟩
def isN : VL → Bool
  | .d .none => true
  | _ => false
theorem isN_ok {ρ : List Addr} {F : Hp} {v : V} {x : VL} (r : VR K ρ F v x) : decide (v = .non) = isN x := by
  cases x with
  | o n =>
    obtain ⟨a, rfl, _⟩ := r
    rfl
  | d y => cases (show Dq K F v y from r) <;> rfl
def rIsNo : R2 := fun x y H Q => y = .non ∧ Q (.bl (decide (x = .non))) H
def rNotNo : R2 := fun x y H Q => y = .non ∧ Q (.bl (!decide (x = .non))) H
def oIsN : Op2 := fun st x y => match y with
  | .d .none => some (.d (.bool (isN x)), st)
  | _ => none
def oNotN : Op2 := fun st x y => match y with
  | .d .none => some (.d (.bool (!isN x)), st)
  | _ => none
theorem pr_isN : Pr2 K rIsNo oIsN := ⟨fun {P ρ F H st st' v w x y z Q} I rx ry h q => by
  unfold oIsN at h
  split at h
  · cases h
    exact ⟨vr_none ry, by rw [isN_ok rx]; exact q _ ρ F H (Tr.refl ..) I (.bl _)⟩
  · cases h⟩
theorem pr_notN : Pr2 K rNotNo oNotN := ⟨fun {P ρ F H st st' v w x y z Q} I rx ry h q => by
  unfold oNotN at h
  split at h
  · cases h
    exact ⟨vr_none ry, by rw [isN_ok rx]; exact q _ ρ F H (Tr.refl ..) I (.bl _)⟩
  · cases h⟩
/-! ### in -/
def flatD : PyData → Bool
  | .none => true
  | .bool _ => true
  | .int _ => true
  | .str _ => true
  | _ => false
theorem flat_ok {F : Hp} {v : V} {d : PyData} (h : Dq K F v d) (f : flatD d = true) : flatV v = true := by cases h <;> first | rfl | (simp [flatD] at f; done)
theorem flat_eq {F F' : Hp} {v w : V} {d e : PyData} (h : Dq K F v d) (h' : Dq K F' w e) (f : flatD d = true) (f' : flatD e = true) : eqV v w = PyData.eqv d e := by
  cases h <;> cases h' <;> first
    | (simp [flatD] at f; done)
    | (simp [flatD] at f'; done)
    | simp [eqV, PyData.eqv]
def flats : List VL → Option (List PyData)
  | [] => some []
  | .d x :: r => if flatD x then (flats r).map (x :: ·) else none
  | .o _ :: _ => none
theorem flats_ok {ρ : List Addr} {F F' : Hp} {v : V} {d : PyData} (hv : Dq K F' v d) (fv : flatD d = true) : ∀ {vs : List V} {xs : List VL} {ds : List PyData}, VRs K ρ F vs xs → flats xs = some ds → vs.all flatV = true ∧ inV v vs = ds.any (fun e => PyData.eqv e d)
  | _, _, _, .nil, e => by
    cases e
    exact ⟨rfl, rfl⟩
  | w :: _, .d x :: r, _, .cons h t, e => by
    have e' : (if flatD x then (flats r).map (x :: ·) else none) = some _ := e
    split at e'
    · rename_i fx
      obtain ⟨ds, h1, h2⟩ := Option.map_eq_some_iff.mp e'
      subst h2
      obtain ⟨a1, a2⟩ := flats_ok hv fv t h1
      refine ⟨?_, ?_⟩
      · rw [List.all_cons, a1, flat_ok (show Dq K F w x from h) fx]
        rfl
      · show (eqV w v || inV v _) = (PyData.eqv x d || _)
        rw [a2, flat_eq (show Dq K F w x from h) hv fx fv]
    · cases e'
  | _, .o n :: r, _, .cons h t, e => by cases e
def asF : VL → Option PyData
  | .d x => if flatD x then some x else none
  | _ => none
/-- x in a list or tuple of flat things -/
def oInS (neg : Bool) : Op2 := fun st x y => match asF x, asSeq st y with
  | some d, some (_, ys) => (flats ys).map fun es => (.d (.bool (if neg then !(es.any fun e => PyData.eqv e d) else es.any fun e => PyData.eqv e d)), st)
  | _, _ => none
theorem pr_in {neg : Bool} : Pr2 K (rIn K neg) (oInS neg) := ⟨fun {P ρ F H st st' v w x y z Q} I rx ry h q => by
  unfold oInS at h
  split at h
  · rename_i d b ys hd hy
    obtain ⟨es, h1, h2⟩ := Option.map_eq_some_iff.mp h
    cases h2
    cases x with
    | o n => cases hd
    | d x =>
      have hd' : (if flatD x then some x else none) = some d := hd
      split at hd'
      · rename_i fx
        cases hd'
        obtain ⟨a, vs, rfl, h3, h4, h5⟩ := asSeq_ok I ry hy
        obtain ⟨a1, a2⟩ := flats_ok (show Dq K F v _ from rx) fx h5 h1
        refine ⟨a, vs, rfl, ?_, flat_ok (show Dq K F v _ from rx) fx, a1, ?_⟩
        · cases b with
          | false => exact .inl (h3 rfl)
          | true => exact .inr (SqT.of (h4 rfl).1)
        · rw [a2]
          exact q _ ρ F H (Tr.refl ..) I (.bl _)
      · cases hd'
  · cases h⟩
/-! ### subscripts -/
def oIx : Op2 := fun st x y => match asSeq st x, asI y with
  | some (_, xs), some i => (atI xs i).map fun z => (z, st)
  | _, _ => none
theorem vrs_get {ρ : List Addr} {F : Hp} : ∀ {vs : List V} {xs : List VL} {i : Nat} {x : VL}, VRs K ρ F vs xs → xs[i]? = some x → ∃ v, vs[i]? = some v ∧ VR K ρ F v x
  | _, _, _, _, .nil, e => by simp at e
  | _, _, 0, _, .cons h _, e => by
    simp at e
    subst e
    exact ⟨_, rfl, h⟩
  | _, _, i + 1, _, .cons _ t, e => vrs_get (i := i) t (by simpa using e)
theorem vrs_at {ρ : List Addr} {F : Hp} {vs : List V} {xs : List VL} {i : Int} {x : VL} (h : VRs K ρ F vs xs) (e : atI xs i = some x) : ∃ v, atI vs i = some v ∧ VR K ρ F v x := by
  unfold atI at e ⊢
  rw [paired_len h]
  obtain ⟨j, h1, h2⟩ := Option.bind_eq_some_iff.mp e
  obtain ⟨v, h3, h4⟩ := vrs_get h h2
  exact ⟨v, by rw [h1]; exact h3, h4⟩
def rIxA (K : Kf) : R2 := fun x y H Q => rIxL K x y H Q ∨ rIxT K x y H Q
theorem ix_A {X : Cx} : IxR X (rIxA X.K) := ix_list.or ix_tup
theorem pr_ix : Pr2 K (rIxA K) oIx := ⟨fun {P ρ F H st st' v w x y z Q} I rx ry h q => by
  unfold oIx at h
  split at h
  · rename_i b xs i hx hi
    obtain ⟨u, h1, h2⟩ := Option.map_eq_some_iff.mp h
    cases h2
    rw [asI_eq hi] at ry
    obtain ⟨a, vs, rfl, h3, h4, h5⟩ := asSeq_ok I rx hx
    obtain ⟨v, h6, h7⟩ := vrs_at h5 h1
    cases b with
    | false => exact .inl ⟨a, vs, i, v, rfl, vr_int ry, h3 rfl, h6, q _ ρ F H (Tr.refl ..) I h7⟩
    | true => exact .inr ⟨a, vs, i, v, rfl, vr_int ry, SqT.of (h4 rfl).1, h6, q _ ρ F H (Tr.refl ..) I h7⟩
  · cases h⟩
end
/-! ### slices -/
def cutL (xs : List VL) (lo hi : Option Int) : List VL := (xs.drop (HT.sIx xs.length 0 lo)).take (HT.sIx xs.length xs.length hi - HT.sIx xs.length 0 lo)
abbrev SO := Env → Sto → Option (Option Int × Sto)
def oNone : SO := fun _ st => some (none, st)
def oSome (c : SE) : SO := fun env st => match c env st with
  | some (.ok (.d (.int i)) st1) => some (some i, st1)
  | _ => none
def eSl (mk : Mk) (a : SE) (lo hi : SO) : SE := fun env st => obind (a env st) fun x st1 => match lo env st1 with
  | none => none
  | some (l, st2) => match hi env st2 with
    | none => none
    | some (h, st3) => match asSeq st3 x with
      | some (false, xs) => (mk (cutL xs l h) st3).map fun z => .ok z.1 z.2
      | some (true, xs) => (mkT (cutL xs l h) st3).map fun z => .ok z.1 z.2
      | none => none
section
variable {X : Cx} {P : Par} {E : XK}
theorem paired_drop {α β : Type} {R : α → β → Prop} : ∀ {a : List α} {b : List β} (n : Nat), Paired R a b → Paired R (a.drop n) (b.drop n)
  | _, _, 0, h => h
  | _, _, _ + 1, .nil => .nil
  | _, _, n + 1, .cons _ t => paired_drop n t
theorem paired_take {α β : Type} {R : α → β → Prop} : ∀ {a : List α} {b : List β} (n : Nat), Paired R a b → Paired R (a.take n) (b.take n)
  | _, _, 0, h => .nil
  | _, _, _ + 1, .nil => .nil
  | _, _, n + 1, .cons h t => .cons h (paired_take n t)
def rdO (K : Kf) (P : Par) (c : SO) : TO := fun σ H Q => ∃ ρ F st env j st', Im K P ρ F H st ∧ EnvR K ρ F σ env ∧ c env st = some (j, st') ∧ ∀ ρ' F' H', Tr ρ F H ρ' F' H' → Im K P ρ' F' H' st' → Q j H'
theorem o_none : PO X none (rdO X.K P oNone) := ⟨fun pins s σ H Q I ⟨ρ, F, st, env, j, st', I', R, h, p⟩ => by
  cases h
  exact po_none.run pins s σ H Q I (p ρ F H (Tr.refl ..) I')⟩
theorem o_some {e : Expr} {c : SE} (h : PE X e (rdE X.K P E c)) : PO X (some e) (rdO X.K P (oSome c)) := ⟨fun pins s σ H Q I ⟨ρ, F, st, env, j, st', I', R, h1, p⟩ => by
  refine (po_some h).run pins s σ H Q I ?_
  unfold oSome at h1
  split at h1
  · rename_i i st1 hc
    cases h1
    exact ⟨ρ, F, st, env, _, I', R, hc, fun v ρ1 F1 H1 t1 I1 r1 => ⟨i, vr_int r1, p ρ1 F1 H1 t1 I1⟩⟩
  · cases h1⟩
def rSlS (K : Kf) : V → Option Int → Option Int → Hp → VK → Prop := fun x lo hi H Q => rSlL K x lo hi H Q ∨ rSlA K x lo hi H Q
theorem sl_S : SlR X (rSlS X.K) := SlR.or sl_list sl_tupA
theorem take_all {α : Type} (xs : List α) (lo hi : Option Int) (h : HT.sIx xs.length 0 lo = 0 ∧ HT.sIx xs.length xs.length hi = xs.length) : (xs.drop (HT.sIx xs.length 0 lo)).take (HT.sIx xs.length xs.length hi - HT.sIx xs.length 0 lo) = xs := by
  rw [h.1, h.2]
  simp
theorem e_slice {mk : Mk} (hm : MkOk X.K mk) {a : Expr} {lo hi : Option Expr} {ca : SE} {cl ch : SO} {pos p2 : Pos} (ha : PE X a (rdE X.K P E ca)) (hl : PO X lo (rdO X.K P cl)) (hh : PO X hi (rdO X.K P ch)) : PE X (.Subscript a (.Slice lo hi none p2) pos) (rdE X.K P E (eSl mk ca cl ch)) := by
  refine pe_weak (pe_slice sl_S ha hl hh) fun σ H Q ⟨ρ, F, st, env, o, I, R, h, p⟩ => ?_
  refine rdE_bind I R h p fun v ρ1 F1 H1 x st1 t1 I1 R1 r1 h1 p1 => ?_
  split at h1
  · cases h1
  · rename_i l st2 e2
    refine ⟨ρ1, F1, st1, env, l, st2, I1, R1, e2, fun ρ2 F2 H2 t2 I2 => ?_⟩
    split at h1
    · cases h1
    · rename_i hv st3 e3
      refine ⟨ρ2, F2, st2, env, hv, st3, I2, R1.mono t2, e3, fun ρ3 F3 H3 t3 I3 => ?_⟩
      have rv := (r1.mono t2).mono t3
      have p3 := (p1.mono t2).mono t3
      split at h1
      · rename_i xs e1
        obtain ⟨z, hz, hk⟩ := Option.map_eq_some_iff.mp h1
        subst hk
        obtain ⟨a', vs, rfl, g1, g2, g3⟩ := asSeq_ok I3 rv e1
        refine .inl ⟨a', vs, rfl, g1 rfl, fun p hp => ?_⟩
        have g4 : VRs X.K ρ3 F3 (cutV vs l hv) (cutL xs l hv) := by
          unfold cutV cutL
          rw [paired_len g3]
          exact paired_take _ (paired_drop _ g3)
        obtain ⟨ρ', F', t, I', r'⟩ := hm.run I3 hp g4 hz
        exact p3 _ ρ' F' _ t I' r'
      · rename_i xs e1
        obtain ⟨z, hz, hk⟩ := Option.map_eq_some_iff.mp h1
        subst hk
        obtain ⟨a', vs, rfl, g1, g2, g3⟩ := asSeq_ok I3 rv e1
        obtain ⟨g5, ds, g6, g7⟩ := g2 rfl
        refine .inr ⟨a', vs, rfl, SqT.of g5, fun hw => ?_, fun hw p hp => ?_⟩
        · unfold mkT cutL at hz
          rw [paired_len g3] at hw
          rw [take_all xs l hv hw, g6, allD_map] at hz
          cases hz
          exact p3 _ ρ3 F3 H3 (Tr.refl ..) I3 g7
        · have g4 : VRs X.K ρ3 F3 (cutV vs l hv) (cutL xs l hv) := by
            unfold cutV cutL
            rw [paired_len g3]
            exact paired_take _ (paired_drop _ g3)
          obtain ⟨ρ', F', t, I', r'⟩ := mkT_ok I3 hp g4 hz
          exact p3 _ ρ' F' _ t I' r'
      · cases h1
end
end Sl
set_option Elab.async false
set_option linter.all false
set_option autoImplicit false
set_option maxRecDepth 100000
set_option maxHeartbeats 4000000
namespace Sl
open PySem PySem.Spec PyProof.Rows L2

/-! ### calls of built-ins by values -/
abbrev OpC := Sto → List VL → Option (VL × Sto)
structure PrC (K : Kf) (r : List V → Hp → VK → Prop) (f : OpC) : Prop where
  run : ∀ {P : Par} {ρ : List Addr} {F H : Hp} {st st' : Sto} {vs : List V} {xs : List VL} {z : VL} {Q : VK}, Im K P ρ F H st → VRs K ρ F vs xs → f st xs = some (z, st') →
    (∀ u ρ' F' H', Tr ρ F H ρ' F' H' → Im K P ρ' F' H' st' → VR K ρ' F' u z → Q u H') → r vs H Q
def eCB (f : OpC) (args : SL) : SE := fun env st => obindL (args env st) fun xs st1 => (f st1 xs).map fun z => .ok z.1 z.2
section
variable {X : Cx} {P : Par} {E : XK} {x : Str} {p pos : Pos} {e : Expr} {es : List Expr} {cs : SL} {id T : String} {r : List V → Hp → VK → Prop} {f : OpC}
theorem cb_rd {K : Kf} (hr : PrC K r f) {σ : L2.St} {H : Hp} {Q : VK} (h : rdE K P E (eCB f cs) σ H Q) : tCB r (rdL K P E cs) σ H Q := by
  obtain ⟨ρ, F, st, env, o, I, R, h, p⟩ := h
  refine rdL_bind I R h p fun vs ρ1 F1 H1 xs st1 t1 I1 R1 r1 h1 p1 => ?_
  obtain ⟨z, hz, hk⟩ := Option.map_eq_some_iff.mp h1
  subst hk
  exact hr.run I1 r1 hz p1
theorem e_callB (hc : CallR X (.builtin id) r) (hr : PrC X.K r f) (hg : Gl X x) (hm : X.mg x = none) (hv : bootBuiltins x = some (.builtin id)) (ha : PA X (e :: es) (rdL X.K P E cs)) (hn : x ≠ "__name__" := by decide) (hdb : (x == ("__debug__" : Str)) = false := by decide)
    (he : starEach (e :: es) X.env = (false, eval e X.env) :: starEach es X.env := by rfl) (hpl : (backTo pos (starEach es X.env)).any (·.1) = false := by rfl) : PE X (.Call (.Name x p) (e :: es) [] pos) (rdE X.K P E (eCB f cs)) :=
  pe_weak (pe_callB hc hg hm hv ha hn hdb he hpl) fun _ _ _ h => cb_rd hr h
theorem e_callTy (hc : CallR X (.type T) r) (hr : PrC X.K r f) (hg : Gl X x) (hm : X.mg x = none) (hv : bootBuiltins x = some (.type T)) (ha : PA X (e :: es) (rdL X.K P E cs)) (hn : x ≠ "__name__" := by decide) (hdb : (x == ("__debug__" : Str)) = false := by decide)
    (he : starEach (e :: es) X.env = (false, eval e X.env) :: starEach es X.env := by rfl) (hpl : (backTo pos (starEach es X.env)).any (·.1) = false := by rfl) : PE X (.Call (.Name x p) (e :: es) [] pos) (rdE X.K P E (eCB f cs)) :=
  pe_weak (pe_callTy hc hg hm hv ha hn hdb he hpl) fun _ _ _ h => cb_rd hr h
end
section
variable {K : Kf}
theorem vrs1 {ρ : List Addr} {F : Hp} {vs : List V} {x : VL} (h : VRs K ρ F vs [x]) : ∃ v, vs = [v] ∧ VR K ρ F v x := by
  cases h with
  | cons h t =>
    cases t
    exact ⟨_, rfl, h⟩
/-- len -/
def cLen : OpC := fun st xs => match xs with
  | [x] => (asSeq st x).map fun y => (.d (.int y.2.length), st)
  | _ => none
def rLenS (K : Kf) : List V → Hp → VK → Prop := fun xs H Q => ∃ p ys, xs = [.ref p] ∧ (SqL K H p ys ∨ SqT K H p ys) ∧ Q (.int ys.length) H
theorem pr_len : PrC K (rLenS K) cLen := ⟨fun {P ρ F H st st' vs xs z Q} I r h q => by
  unfold cLen at h
  split at h
  · obtain ⟨v, rfl, rv⟩ := vrs1 r
    obtain ⟨⟨b, ys⟩, h1, h2⟩ := Option.map_eq_some_iff.mp h
    cases h2
    obtain ⟨a, ws, rfl, h3, h4, h5⟩ := asSeq_ok I rv h1
    refine ⟨a, ws, rfl, ?_, ?_⟩
    · cases b with
      | false => exact .inl (h3 rfl)
      | true => exact .inr (SqT.of (h4 rfl).1)
    · rw [paired_len h5]
      exact q _ ρ F H (Tr.refl ..) I (.int _)
  · cases h⟩
theorem call_lenS {X : Cx} : CallR X (.builtin "len") (rLenS X.K) := call_len_seq
/-- int of an int or a bool -/
def cInt : OpC := fun st xs => match xs with
  | [.d (.int i)] => some (.d (.int i), st)
  | [.d (.bool b)] => some (.d (.int (if b then 1 else 0)), st)
  | _ => none
def rInt1 : List V → Hp → VK → Prop := fun xs H Q => (∃ i, xs = [.int i] ∧ Q (.int i) H) ∨ ∃ k, xs = [.bl k] ∧ Q (.int (if k then 1 else 0)) H
theorem call_intA {X : Cx} : CallR X (.type "int") rInt1 := call_int1
theorem pr_int : PrC K rInt1 cInt := ⟨fun {P ρ F H st st' vs xs z Q} I r h q => by
  unfold cInt at h
  split at h
  · obtain ⟨v, rfl, rv⟩ := vrs1 r
    cases h
    exact .inl ⟨_, by rw [vr_int rv], q _ ρ F H (Tr.refl ..) I (.int _)⟩
  · obtain ⟨v, rfl, rv⟩ := vrs1 r
    cases h
    exact .inr ⟨_, by rw [vr_bool rv], q _ ρ F H (Tr.refl ..) I (.int _)⟩
  · cases h⟩
def cAbs : OpC := fun st xs => match xs with
  | [.d (.int i)] => some (.d (.int (if i < 0 then -i else i)), st)
  | _ => none
def rAbs : List V → Hp → VK → Prop := fun xs H Q => ∃ i, xs = [.int i] ∧ Q (.int (if i < 0 then -i else i)) H
theorem call_absA {X : Cx} : CallR X (.builtin "abs") rAbs := call_abs
theorem pr_abs : PrC K rAbs cAbs := ⟨fun {P ρ F H st st' vs xs z Q} I r h q => by
  unfold cAbs at h
  split at h
  · obtain ⟨v, rfl, rv⟩ := vrs1 r
    cases h
    exact ⟨_, by rw [vr_int rv], q _ ρ F H (Tr.refl ..) I (.int _)⟩
  · cases h⟩
/-- list of a sequence -/
def cList (mk : Mk) : OpC := fun st xs => match xs with
  | [x] => (asSeq st x).bind fun y => mk y.2 st
  | _ => none
def rListS (K : Kf) : List V → Hp → VK → Prop := fun xs H Q => ∃ p ys, xs = [.ref p] ∧ (SqL K H p ys ∨ SqT K H p ys) ∧ ∀ l, H l = none → Q (.ref l) (upd H l (.lst ys))
theorem call_listS {X : Cx} : CallR X (.type "list") (rListS X.K) := call_list_of
theorem pr_list {mk : Mk} (hm : MkOk K mk) : PrC K (rListS K) (cList mk) := ⟨fun {P ρ F H st st' vs xs z Q} I r h q => by
  unfold cList at h
  split at h
  · obtain ⟨v, rfl, rv⟩ := vrs1 r
    obtain ⟨⟨b, ys⟩, h1, h2⟩ := Option.bind_eq_some_iff.mp h
    obtain ⟨a, ws, rfl, h3, h4, h5⟩ := asSeq_ok I rv h1
    refine ⟨a, ws, rfl, ?_, fun l hl => ?_⟩
    · cases b with
      | false => exact .inl (h3 rfl)
      | true => exact .inr (SqT.of (h4 rfl).1)
    · obtain ⟨ρ', F', t, I', r'⟩ := hm.run I hl h5 h2
      exact q _ ρ' F' _ t I' r'
  · cases h⟩
def cTuple : OpC := fun st xs => match xs with
  | [x] => (asSeq st x).bind fun y => mkT y.2 st
  | _ => none
def rTupleS (K : Kf) : List V → Hp → VK → Prop := fun xs H Q => ∃ p ys, xs = [.ref p] ∧ ((SqL K H p ys ∧ ∀ l, H l = none → Q (.ref l) (upd H l (.tup ys))) ∨ (SqT K H p ys ∧ Q (.ref p) H))
theorem call_tupleS {X : Cx} : CallR X (.type "tuple") (rTupleS X.K) := call_tuple_of
theorem pr_tuple : PrC K (rTupleS K) cTuple := ⟨fun {P ρ F H st st' vs xs z Q} I r h q => by
  unfold cTuple at h
  split at h
  · obtain ⟨v, rfl, rv⟩ := vrs1 r
    obtain ⟨⟨b, ys⟩, h1, h2⟩ := Option.bind_eq_some_iff.mp h
    obtain ⟨a, ws, rfl, h3, h4, h5⟩ := asSeq_ok I rv h1
    refine ⟨a, ws, rfl, ?_⟩
    cases b with
    | false =>
      refine .inl ⟨h3 rfl, fun l hl => ?_⟩
      obtain ⟨ρ', F', t, I', r'⟩ := mkT_ok I hl h5 h2
      exact q _ ρ' F' _ t I' r'
    | true =>
      obtain ⟨h6, ds, h7, h8⟩ := h4 rfl
      unfold mkT at h2
      rw [show ys = ds.map VL.d from h7, allD_map] at h2
      cases h2
      exact .inr ⟨SqT.of h6, q _ ρ F H (Tr.refl ..) I h8⟩
  · cases h⟩
/-- sorted of ints -/
def intsOf : List VL → Option (List Int)
  | [] => some []
  | .d (.int i) :: r => (intsOf r).map (i :: ·)
  | _ => none
def sortI (ns : List Int) : List Int := ns.mergeSort fun a b => decide (a ≤ b)
theorem sortI_perm (ns : List Int) : (sortI ns).Perm ns := List.mergeSort_perm _ _
theorem sortI_rises (ns : List Int) : (sortI ns).Pairwise (· ≤ ·) := by
  have h := List.pairwise_mergeSort (le := fun a b : Int => decide (a ≤ b)) (fun a b c h1 h2 => by simp at *; omega) (fun a b => by simp; omega) ns
  exact h.imp fun h => by simpa using h
theorem sortI_only {ns ms : List Int} (hp : ms.Perm ns) (hs : ms.Pairwise (· ≤ ·)) : ms = sortI ns :=
  List.Perm.eq_of_pairwise (fun _ _ _ _ a b => Int.le_antisymm a b) hs (sortI_rises ns) (hp.trans (sortI_perm ns).symm)
theorem intsOf_ok {ρ : List Addr} {F : Hp} : ∀ {vs : List V} {xs : List VL} {ns : List Int}, VRs K ρ F vs xs → intsOf xs = some ns → vs = ns.map V.int
  | _, _, _, .nil, e => by
    cases e
    rfl
  | v :: _, .d (.int i) :: r, _, .cons h t, e => by
    obtain ⟨ns, h1, h2⟩ := Option.map_eq_some_iff.mp (show (intsOf r).map (i :: ·) = some _ from e)
    subst h2
    rw [vr_int h, intsOf_ok t h1]
    rfl
  | _, .d .none :: _, _, _, e => by cases e
  | _, .d (.bool _) :: _, _, _, e => by cases e
  | _, .d (.str _) :: _, _, _, e => by cases e
  | _, .d (.list _) :: _, _, _, e => by cases e
  | _, .d (.tuple _) :: _, _, _, e => by cases e
  | _, .d (.dict _) :: _, _, _, e => by cases e
  | _, .o _ :: _, _, _, e => by cases e
theorem vrs_ints {ρ : List Addr} {F : Hp} : ∀ ns : List Int, VRs K ρ F (ns.map V.int) (ns.map fun i => .d (.int i))
  | [] => .nil
  | i :: r => .cons (.int i) (vrs_ints r)
def cSorted (mk : Mk) : OpC := fun st xs => match xs with
  | [x] => match asSeq st x with
    | some (false, ys) => (intsOf ys).bind fun ns => mk ((sortI ns).map fun i => .d (.int i)) st
    | _ => none
  | _ => none
theorem pr_sorted {mk : Mk} (hm : MkOk K mk) : PrC K (rSortedI K) (cSorted mk) := ⟨fun {P ρ F H st st' vs xs z Q} I r h q => by
  unfold cSorted at h
  split at h
  · split at h
    · rename_i ys hy
      obtain ⟨v, rfl, rv⟩ := vrs1 r
      obtain ⟨ns, h1, h2⟩ := Option.bind_eq_some_iff.mp h
      obtain ⟨a, ws, rfl, h3, h4, h5⟩ := asSeq_ok I rv hy
      have e := intsOf_ok h5 h1
      subst e
      refine ⟨a, ns, rfl, h3 rfl, fun ns' p hp hs hn => ?_⟩
      rw [sortI_only hp hs]
      obtain ⟨ρ', F', t, I', r'⟩ := hm.run I hn (vrs_ints _) h2
      exact q _ ρ' F' _ t I' r'
    · cases h
  · cases h⟩
end
/-! ### isinstance -/
inductive Ty where
  | non | bool | int | str | list | tuple | dict
  deriving DecidableEq
def Ty.name : Ty → String
  | .non => "NoneType" | .bool => "bool" | .int => "int" | .str => "str" | .list => "list" | .tuple => "tuple" | .dict => "dict"
def Ty.sub (a b : Ty) : Bool := decide (a = b) || (decide (a = .bool) && decide (b = .int))
def tyD : PyData → Ty
  | .none => .non
  | .bool _ => .bool
  | .int _ => .int
  | .str _ => .str
  | .list _ => .list
  | .tuple _ => .tuple
  | .dict _ => .dict
def tyOf (st : Sto) : VL → Option Ty
  | .d x => some (tyD x)
  | .o n => match st[n]? with
    | some (.lst _) => some .list
    | some (.dk _) => some .dict
    | some (.dt _) => some .dict
    | some (.fr x) => some (tyD x)
    | _ => none
def eIsi (cs : List Ty) (a : SE) : SE := fun env st => obind (a env st) fun x st1 => (tyOf st1 x).map fun t => .ok (.d (.bool (cs.any fun c => t.sub c))) st1
section
variable {K : Kf}
theorem ty_kit (a b : Ty) (hb : b ≠ .non) : PySem.W.kitOne K (.type a.name) (.type b.name) = some (a.sub b) := by
  cases a <;> cases b <;> first
    | exact absurd rfl hb
    | exact kit_ty (by decide +kernel)
theorem tyD_ok {F H : Hp} (e : Evl.Ex F H) {v : V} {d : PyData} (h : Dq K F v d) : TyX K H v (.type (tyD d).name) := by
  cases h with
  | non => exact .base .non
  | bl b => exact .base (.bl b)
  | int b => exact .base (.int b)
  | str b => exact .base (.str b)
  | lst h _ =>
    rcases Evl.ex_l e h with (h | ⟨o, h⟩) | ⟨o, its, n, h1, h2, _⟩
    · exact .base (.lst h)
    · exact .base (.frz h)
    · exact .kList h1 h2
  | tup h _ => exact .base (.tup (e _ _ h))
theorem tyOf_ok {P : Par} {ρ : List Addr} {F H : Hp} {st : Sto} (I : Im K P ρ F H st) {v : V} {x : VL} {t : Ty} (r : VR K ρ F v x) (h : tyOf st x = some t) : TyX K H v (.type t.name) := by
  cases x with
  | d y =>
    cases h
    exact tyD_ok I.ex r
  | o n =>
    unfold tyOf at h
    cases hs : st[n]? with
    | none => simp [hs] at h
    | some ob =>
      obtain ⟨a, rfl, ha, hb⟩ := I.at_ r hs
      cases ob with
      | lst ys =>
        simp only [hs, Option.some.injEq] at h
        subst h
        exact .base (.lst hb.2.choose_spec.1)
      | dk ys =>
        simp only [hs, Option.some.injEq] at h
        subst h
        exact .base (.dK hb.2.choose_spec.1)
      | dt ys =>
        simp only [hs, Option.some.injEq] at h
        subst h
        exact .base (.dT hb.2.choose_spec.1)
      | fr y =>
        simp only [hs, Option.some.injEq] at h
        subst h
        exact tyD_ok I.ex hb
      | ins _ _ => simp [hs] at h
      | ex _ _ => simp [hs] at h
end
section
variable {X : Cx} {P : Par} {E : XK} {p pos p2 p3 : Pos} {a b : Expr} {ca : SE}
/-- isinstance(e, C): b names the class -/
theorem e_isi (c : Ty) (hc : c ≠ .non) (hg : Gl X "isinstance") (hm : X.mg "isinstance" = none) (ha : PE X a (rdE X.K P E ca)) (hb : PE X b (tC (.ty c.name)))
    (he : starEach [a, b] X.env = (false, eval a X.env) :: starEach [b] X.env := by rfl) (he2 : starEach [b] X.env = (false, eval b X.env) :: starEach [] X.env := by rfl) (hpl : (backTo pos (starEach [b] X.env)).any (·.1) = false := by rfl) :
    PE X (.Call (.Name "isinstance" p) [a, b] [] pos) (rdE X.K P E (eIsi [c] ca)) :=
  pe_weak (pe_callB call_isi hg hm (by decide +kernel) (pa_cons ha (pa_cons hb pa_nil he2) he) (by decide) (by decide) he hpl) fun σ H Q ⟨ρ, F, st, env, o, I, R, h, p⟩ => by
    refine rdE_bind I R h p fun v ρ1 F1 H1 x st1 t1 I1 R1 r1 h1 p1 => ?_
    obtain ⟨t, h2, h3⟩ := Option.map_eq_some_iff.mp h1
    subst h3
    refine ⟨v, .ty c.name, _, _, t.sub c, rfl, .ty _, tyOf_ok I1 r1 h2, ty_kit t c hc, ?_⟩
    have e : ([c].any fun c => t.sub c) = t.sub c := by simp
    rw [e] at p1
    exact p1 _ ρ1 F1 H1 (Tr.refl ..) I1 (.bl _)
theorem e_isi2 (c d : Ty) (hc : c ≠ .non) (hd : d ≠ .non) (hg : Gl X "isinstance") (hm : X.mg "isinstance" = none) (ha : PE X a (rdE X.K P E ca)) (hb : PE X b (tTup (tCons (tC (.ty c.name)) (tCons (tC (.ty d.name)) tNil))))
    (he : starEach [a, b] X.env = (false, eval a X.env) :: starEach [b] X.env := by rfl) (he2 : starEach [b] X.env = (false, eval b X.env) :: starEach [] X.env := by rfl) (hpl : (backTo pos (starEach [b] X.env)).any (·.1) = false := by rfl) :
    PE X (.Call (.Name "isinstance" p) [a, b] [] pos) (rdE X.K P E (eIsi [c, d] ca)) :=
  pe_weak (pe_callB call_isiT hg hm (by decide +kernel) (pa_cons ha (pa_cons hb pa_nil he2) he) (by decide) (by decide) he hpl) fun σ H Q ⟨ρ, F, st, env, o, I, R, h, p⟩ => by
    refine rdE_bind I R h p fun v ρ1 F1 H1 x st1 t1 I1 R1 r1 h1 p1 => ?_
    obtain ⟨t, h2, h3⟩ := Option.map_eq_some_iff.mp h1
    subst h3
    refine ⟨by show 2 ≤ sizeLine; decide, fun tp htp => ?_⟩
    obtain ⟨t2, I2⟩ := junk I1 htp (.tup [.ty c.name, .ty d.name])
    refine ⟨v, tp, _, _, _, t.sub c || t.sub d, rfl, upd_same, .cons (.ty _) (.cons (.ty _) .nil), tyOf_ok I2 (r1.mono t2) h2, ?_, ?_⟩
    · refine kitAny_cons (ty_kit t c hc) (fun e => ?_) (fun e => by rw [e] <;> rfl)
      rw [e]
      refine kitAny_cons (ty_kit t d hd) (fun e => ?_) (fun e => by rw [e] <;> rfl)
      rw [e]
      exact kitAny_nil
    · have e : ([c, d].any fun c => t.sub c) = (t.sub c || t.sub d) := by simp
      rw [e] at p1
      exact p1 _ ρ1 F1 _ t2 I2 (.bl _)
end
/-! ### displays -/
def eLst (mk : Mk) (args : SL) : SE := fun env st => obindL (args env st) fun xs st1 => if xs.length ≤ sizeLine then (mk xs st1).map fun z => .ok z.1 z.2 else none
def eTup (args : SL) : SE := fun env st => obindL (args env st) fun xs st1 => if xs.length ≤ sizeLine then (mkT xs st1).map fun z => .ok z.1 z.2 else none
def repOk (n : Nat) (k : Int) : Bool := (decide (-(2 ^ 63) ≤ k) && decide (k < 2 ^ 63)) && decide (n * k.toNat ≤ sizeLine)
def eRep (mk : Mk) (args : SL) (n : SE) : SE := fun env st => obindL (args env st) fun xs st1 => if xs.length ≤ sizeLine then obind (n env st1) fun y st2 => (asI y).bind fun k =>
  if repOk xs.length k = true then (mk (List.replicate k.toNat xs).flatten st2).map fun z => .ok z.1 z.2 else none else none
section
variable {X : Cx} {P : Par} {E : XK} {pos pos2 : Pos} {es : List Expr} {cs : SL} {b : Expr} {cb : SE}
theorem e_lst {mk : Mk} (hm : MkOk X.K mk) (ha : PA X es (rdL X.K P E cs)) : PE X (.List es pos) (rdE X.K P E (eLst mk cs)) :=
  pe_weak (pe_lst ha) fun σ H Q ⟨ρ, F, st, env, o, I, R, h, p⟩ => by
    refine rdL_bind I R h p fun vs ρ1 F1 H1 xs st1 t1 I1 R1 r1 h1 p1 => ?_
    split at h1
    · rename_i hz
      obtain ⟨z, h2, h3⟩ := Option.map_eq_some_iff.mp h1
      subst h3
      refine ⟨by rw [paired_len r1]; exact hz, fun l hl => ?_⟩
      obtain ⟨ρ', F', t, I', r'⟩ := hm.run I1 hl r1 h2
      exact p1 _ ρ' F' _ t I' r'
    · cases h1
theorem e_tup {x1} (ha : PA X es (rdL X.K P E cs)) : PE X (.Tuple es x1 pos) (rdE X.K P E (eTup cs)) :=
  pe_weak (pe_tup ha) fun σ H Q ⟨ρ, F, st, env, o, I, R, h, p⟩ => by
    refine rdL_bind I R h p fun vs ρ1 F1 H1 xs st1 t1 I1 R1 r1 h1 p1 => ?_
    split at h1
    · rename_i hz
      obtain ⟨z, h2, h3⟩ := Option.map_eq_some_iff.mp h1
      subst h3
      refine ⟨by rw [paired_len r1]; exact hz, fun l hl => ?_⟩
      obtain ⟨ρ', F', t, I', r'⟩ := mkT_ok I1 hl r1 h2
      exact p1 _ ρ' F' _ t I' r'
    · cases h1
theorem vrs_rep {K : Kf} {ρ : List Addr} {F : Hp} {vs : List V} {xs : List VL} (h : VRs K ρ F vs xs) : ∀ n : Nat, VRs K ρ F (List.replicate n vs).flatten (List.replicate n xs).flatten
  | 0 => .nil
  | n + 1 => by
    rw [List.replicate_succ, List.replicate_succ, List.flatten_cons, List.flatten_cons]
    exact paired_append h (vrs_rep h n)
theorem e_rep {mk : Mk} (hm : MkOk X.K mk) (ha : PA X es (rdL X.K P E cs)) (hb : PE X b (rdE X.K P E cb)) : PE X (.BinOp (.List es pos) .Mult b pos2) (rdE X.K P E (eRep mk cs cb)) :=
  pe_weak (pe_op op_rep (pe_lst ha) hb) fun σ H Q ⟨ρ, F, st, env, o, I, R, h, p⟩ => by
    refine rdL_bind I R h p fun vs ρ1 F1 H1 xs st1 t1 I1 R1 r1 h1 p1 => ?_
    split at h1
    · rename_i hz
      refine ⟨by rw [paired_len r1]; exact hz, fun l hl => ?_⟩
      obtain ⟨t2, I2⟩ := junk I1 hl (.lst vs)
      have hH : upd H1 l (.lst vs) l = some (.lst vs) := upd_same
      refine rdE_bind I2 (R1.mono t2) h1 (p1.mono t2) fun w ρ3 F3 H3 y st3 t3 I3 R3 r3 h3 p3 => ?_
      obtain ⟨k, h4, h5⟩ := Option.bind_eq_some_iff.mp h3
      split at h5
      · rename_i hc
        obtain ⟨z, h6, h7⟩ := Option.map_eq_some_iff.mp h5
        subst h7
        unfold repOk at hc
        simp only [Bool.and_eq_true, decide_eq_true_eq] at hc
        rw [asI_eq h4] at r3
        have hl2 : l ∉ ρ1 := fun hm2 => I1.dom l hm2 hl
        refine ⟨l, k, vs, rfl, vr_int r3, t3.keep l _ hH hl2, hc.1.1, hc.1.2, by rw [paired_len r1]; exact hc.2, fun p hp => ?_⟩
        obtain ⟨ρ', F', t, I', r'⟩ := hm.run I3 hp (vrs_rep ((r1.mono t2).mono t3) k.toNat) h6
        exact p3 _ ρ' F' _ t I' r'
      · cases h5
    · cases h1
end
end Sl
set_option Elab.async false
set_option linter.all false
set_option autoImplicit false
set_option maxRecDepth 100000
set_option maxHeartbeats 4000000
namespace Sl
open PySem PySem.Spec PyProof.Rows L2

/-! ### a def: its meaning, its promise, its call -/
abbrev Fn := List VL → Sto → Option Out
def spF (K : Kf) (P : Par) (n : Nat) (m : Fn) : Sp := fun vs H Q E => ∃ ρ F st xs o, Im K P ρ F H st ∧ VRs K ρ F vs xs ∧ xs.length = n ∧ m xs st = some o ∧ Post K P ρ F H Q E o
def eCall (m : Fn) (args : SL) : SE := fun env st => obindL (args env st) fun xs st1 => m xs st1
/-- the call of a def of n parameters -/
def nFn (n : Nat) (m : Fn) : Fn := fun xs st => if xs.length = n then m xs st else none
section
variable {X : Cx} {P : Par} {E : XK} {x : Str} {p pos : Pos} {e : Expr} {es : List Expr} {cs : SL} {CX : CXT} {k n : Nat} {f : Addr} {fd : FuncData} {ps : List Str} {m : Fn}
theorem e_call (F : FnOk X.prog X.w X.K X.mg X.base CX k f fd ps (spF X.K P n m)) (hr : Room k X.A) (hg : Gl X x) (hm : X.mg x = some (.ref f)) (hk : PySem.W.keepIn X.K (.ref f) = true) (hb : Binds X.K fd ps []) (hx : Passes CX X E)
    (ha : PA X (e :: es) (rdL X.K P E cs)) (hdb : (x == ("__debug__" : Str)) = false := by decide) (he : starEach (e :: es) X.env = (false, eval e X.env) :: starEach es X.env := by rfl) (hpl : (backTo pos (starEach es X.env)).any (·.1) = false := by rfl) :
    PE X (.Call (.Name x p) (e :: es) [] pos) (rdE X.K P E (eCall (nFn n m) cs)) :=
  pe_weak (pe_call F hr hg hm hk hb .nil hx ha hdb he hpl) fun σ H Q ⟨ρ, F, st, env, o, I, R, h, p⟩ => by
    refine rdL_bind I R h p fun vs ρ1 F1 H1 xs st1 t1 I1 R1 r1 h1 p1 => ?_
    unfold nFn at h1
    split at h1
    · rw [List.append_nil]
      exact ⟨ρ1, F1, st1, xs, o, I1, r1, by assumption, h1, p1⟩
    · cases h1
end
/-! ### lists of the store, changed -/
def lstAt (st : Sto) (x : VL) : Option (Nat × List VL) := match x with
  | .o n => match st[n]? with
    | some (.lst xs) => some (n, xs)
    | _ => none
  | _ => none
section
variable {K : Kf} {P : Par} {ρ : List Addr} {F H : Hp} {st : Sto}
theorem lstAt_ok (I : Im K P ρ F H st) {v : V} {x : VL} {n : Nat} {xs : List VL} (r : VR K ρ F v x) (h : lstAt st x = some (n, xs)) : ∃ a vs, v = .ref a ∧ ρ[n]? = some a ∧ F a = none ∧ H a = some (.lst vs) ∧ VRs K ρ F vs xs := by
  cases x with
  | d y => cases h
  | o m =>
    unfold lstAt at h
    cases hs : st[m]? with
    | none => simp [hs] at h
    | some ob =>
      obtain ⟨a, rfl, ha, hb⟩ := I.at_ r hs
      cases ob with
      | lst ys =>
        simp only [hs, Option.some.injEq, Prod.mk.injEq] at h
        obtain ⟨rfl, rfl⟩ := h
        obtain ⟨h1, vs, h2, h3⟩ := hb
        exact ⟨a, vs, rfl, ha, h1, h2, h3⟩
      | _ => simp [hs] at h
theorem lst_put (I : Im K P ρ F H st) {n : Nat} {a : Addr} {vs : List V} {xs : List VL} (hn : ρ[n]? = some a) (hF : F a = none) (r : VRs K ρ F vs xs) : Tr ρ F H ρ F (upd H a (.lst vs)) ∧ Im K P ρ F (upd H a (.lst vs)) (st.set n (.lst xs)) :=
  I.store (b := .lst xs) hn hF ⟨hF, vs, upd_same, r⟩
end
/-- x.append(e) -/
def eAppend (a e : SE) : SE := fun env st => obind (a env st) fun x st1 => if (lstAt st1 x).isSome then obind (e env st1) fun y st2 => match lstAt st2 x with
  | some (n, xs) => if xs.length < sizeLine then some (.ok (.d .none) (st2.set n (.lst (xs ++ [y])))) else none
  | none => none else none
/-- x.pop() -/
def ePop (a : SE) : SE := fun env st => obind (a env st) fun x st1 => match lstAt st1 x with
  | some (n, xs) => match xs[xs.length - 1]? with
    | some y => some (.ok y (st1.set n (.lst xs.dropLast)))
    | none => none
  | none => none
section
variable {X : Cx} {P : Par} {E : XK} {a e : Expr} {ca ce : SE} {apos cpos : Pos}
theorem e_append (ha : PE X a (rdE X.K P E ca)) (he : PE X e (rdE X.K P E ce)) (hbase : attributeBase a (Str.ofString "append") X.env (eval a X.env) = eval a X.env := by rfl)
    (hfew : ((backTo cpos (starEach [e] X.env)).all (fun x => !x.1) && (backToKw cpos (keywordEach [] X.env)).all (fun x => x.1.isSome)
      && decide (([e] : List Expr).length + ([] : List Keyword).length + (if ([] : List Keyword).isEmpty then 0 else 1) < 30)) = true := by rfl)
    (hline : (apos.endLine == cpos.line) = true := by rfl) (hs : starEach [e] X.env = (false, eval e X.env) :: starEach [] X.env := by rfl) (hplain : (backTo cpos (starEach [] X.env)).any (·.1) = false := by rfl) :
    PE X (.Call (.Attribute a (Str.ofString "append") apos) [e] [] cpos) (rdE X.K P E (eAppend ca ce)) :=
  pe_weak (pe_bm PySem.F.plainAttrs_list PySem.F.slot_list_append PySem.F.type_list_append mt_append ha (pa_cons he pa_nil hs) hbase hfew hline hs hplain) fun σ H Q ⟨ρ, F, st, env, o, I, R, h, p⟩ => by
    refine rdE_bind I R h p fun v ρ1 F1 H1 x st1 t1 I1 R1 r1 h1 p1 => ?_
    split at h1
    · rename_i hs1
      obtain ⟨⟨n, xs⟩, hx⟩ := Option.isSome_iff_exists.mp hs1
      obtain ⟨b, vs, rfl, g1, g2, g3, g4⟩ := lstAt_ok I1 r1 hx
      refine ⟨.inl ⟨rfl, vs, SqL.of g3⟩, ?_⟩
      refine rdE_bind I1 R1 h1 p1 fun w ρ2 F2 H2 y st2 t2 I2 R2 r2 h2 p2 => ?_
      split at h2
      · rename_i n2 xs2 hx2
        split at h2
        · rename_i hz
          cases h2
          obtain ⟨b', vs', e1, k1, k2, k3, k4⟩ := lstAt_ok I2 (r1.mono t2) hx2
          cases e1
          refine ⟨b, vs', w, rfl, rfl, k3, by rw [paired_len k4]; exact hz, ?_⟩
          obtain ⟨T, I3⟩ := lst_put I2 k1 k2 (paired_append k4 (.cons r2 .nil))
          exact p2 _ ρ2 F2 _ T I3 .non
        · cases h2
      · cases h2
    · cases h1
theorem paired_dropLast {α β : Type} {R : α → β → Prop} : ∀ {a : List α} {b : List β}, Paired R a b → Paired R a.dropLast b.dropLast
  | _, _, .nil => .nil
  | _, _, .cons _ .nil => .nil
  | _, _, .cons h (.cons h2 t) => .cons h (paired_dropLast (.cons h2 t))
theorem e_pop (ha : PE X a (rdE X.K P E ca)) (hbase : attributeBase a (Str.ofString "pop") X.env (eval a X.env) = eval a X.env := by rfl) (hline : (apos.endLine == cpos.line) = true := by rfl) :
    PE X (.Call (.Attribute a (Str.ofString "pop") apos) [] [] cpos) (rdE X.K P E (ePop ca)) :=
  pe_weak (pe_bm0 PySem.F.plainAttrs_list PySem.F.slot_list_pop PySem.F.type_list_pop mt_pop ha hbase hline) fun σ H Q ⟨ρ, F, st, env, o, I, R, h, p⟩ => by
    refine rdE_bind I R h p fun v ρ1 F1 H1 x st1 t1 I1 R1 r1 h1 p1 => ?_
    split at h1
    · rename_i n xs hx
      obtain ⟨b, vs, rfl, g1, g2, g3, g4⟩ := lstAt_ok I1 r1 hx
      refine ⟨.inl ⟨rfl, vs, SqL.of g3⟩, ?_⟩
      split at h1
      · rename_i y hy
        cases h1
        obtain ⟨w, hw, rw'⟩ := vrs_get g4 hy
        refine ⟨b, vs, w, rfl, rfl, g3, by rw [paired_len g4]; exact hw, ?_⟩
        obtain ⟨T, I3⟩ := lst_put I1 g1 g2 (paired_dropLast g4)
        exact p1 _ ρ1 F1 _ T I3 rw'
      · cases h1
    · cases h1
end
/-! ### dicts -/
def keyD : PyData → Option Key
  | .int i => some (.inl i)
  | .str x => some (.inr x)
  | _ => none
def keysD : List PyData → Option (List Key)
  | [] => some []
  | d :: r => match keyD d, keysD r with
    | some k, some ks => some (k :: ks)
    | _, _ => none
section
variable {K : Kf} {P : Par} {ρ : List Addr} {F H : Hp} {st : Sto}
theorem keyD_ok {v : V} {d : PyData} {k : Key} (r : Dq K F v d) (h : keyD d = some k) : v = kV k := by
  cases r <;> cases h <;> rfl
theorem keysD_ok : ∀ {vs : List V} {ds : List PyData} {ks : List Key}, DqAll K F vs ds → keysD ds = some ks → vs = ks.map kV
  | _, _, _, .nil, e => by
    cases e
    rfl
  | _, d :: r, _, .cons h t, e => by
    have e' : (match keyD d, keysD r with
      | some k, some ks => some (k :: ks)
      | _, _ => none) = some _ := e
    split at e'
    · rename_i k ks h1 h2
      cases e'
      rw [keyD_ok h h1, keysD_ok t h2]
      rfl
    · cases e'
end
/-- a dict's place and what it holds at a key -/
inductive DK where
  | k (n : Nat) (kvs : List (Key × VL)) (y : Key)
  | t (n : Nat) (kvs : List (List Key × VL)) (y : List Key)
def valL {κ : Type} [DecidableEq κ] (kvs : List (κ × VL)) (k : κ) : Option VL := (kvs.find? fun kv => decide (kv.1 = k)).map (·.2)
def putL {κ : Type} [DecidableEq κ] (kvs : List (κ × VL)) (k : κ) (v : VL) : List (κ × VL) :=
  if (kvs.any fun kv => decide (kv.1 = k)) = true then kvs.map (fun kv => if kv.1 = k then (kv.1, v) else kv) else kvs ++ [(k, v)]
def dctAt (st : Sto) (x y : VL) : Option DK := match x, y with
  | .o n, .d d => match st[n]?, d with
    | some (.dk kvs), d => (keyD d).map fun k => .k n kvs k
    | some (.dt kvs), .tuple ds => (keysD ds).map fun k => .t n kvs k
    | _, _ => none
  | _, _ => none
def DK.get : DK → Option VL
  | .k _ kvs y => valL kvs y
  | .t _ kvs y => valL kvs y
def DK.put (st : Sto) (v : VL) : DK → Option Sto
  | .k n kvs y => if kvs.length < sizeLine then some (st.set n (.dk (putL kvs y v))) else none
  | .t n kvs y => if kvs.length < sizeLine then some (st.set n (.dt (putL kvs y v))) else none
section
variable {K : Kf} {P : Par} {ρ : List Addr} {F H : Hp} {st : Sto}
theorem kvr_val {κ : Type} [DecidableEq κ] {k : κ} : ∀ {vs : List (κ × V)} {xs : List (κ × VL)}, KVR K ρ F vs xs → (∀ x, valL xs k = some x → ∃ v, valV vs k = some v ∧ VR K ρ F v x) ∧ (valV vs k).isSome = (valL xs k).isSome
  | _, _, .nil => ⟨fun x h => absurd (show (none : Option VL) = some x from h) (by simp), rfl⟩
  | (a, v) :: r, (b, x) :: s, .cons ⟨h1, h2⟩ t => by
    obtain ⟨i1, i2⟩ := kvr_val (k := k) t
    simp only at h1 h2
    subst h1
    by_cases e : a = k
    · have e1 : valV ((a, v) :: r) k = some v := valV_pos e
      have e2 : valL ((a, x) :: s) k = some x := by simp [valL, List.find?_cons, e]
      rw [e1, e2]
      refine ⟨fun y hy => ?_, rfl⟩
      cases hy
      exact ⟨v, rfl, h2⟩
    · have e1 : valV ((a, v) :: r) k = valV r k := valV_neg e
      have e2 : valL ((a, x) :: s) k = valL s k := by simp [valL, List.find?_cons, e]
      rw [e1, e2]
      exact ⟨i1, i2⟩
theorem kvr_any {κ : Type} [DecidableEq κ] {k : κ} : ∀ {vs : List (κ × V)} {xs : List (κ × VL)}, KVR K ρ F vs xs → (vs.any fun kv => decide (kv.1 = k)) = (xs.any fun kv => decide (kv.1 = k))
  | _, _, .nil => rfl
  | (a, v) :: r, (b, x) :: s, .cons ⟨h1, h2⟩ t => by
    simp only at h1
    subst h1
    rw [List.any_cons, List.any_cons, kvr_any t]
theorem kvr_map {κ : Type} [DecidableEq κ] {k : κ} {v : V} {x : VL} (h : VR K ρ F v x) : ∀ {vs : List (κ × V)} {xs : List (κ × VL)}, KVR K ρ F vs xs → KVR K ρ F (vs.map fun kv => if kv.1 = k then (kv.1, v) else kv) (xs.map fun kv => if kv.1 = k then (kv.1, x) else kv)
  | _, _, .nil => .nil
  | (a, w) :: r, (b, y) :: s, .cons ⟨h1, h2⟩ t => by
    simp only at h1 h2
    subst h1
    rw [List.map_cons, List.map_cons]
    refine .cons ?_ (kvr_map h t)
    by_cases e : a = k
    · dsimp only
      rw [if_pos e, if_pos e]
      exact ⟨rfl, h⟩
    · dsimp only
      rw [if_neg e, if_neg e]
      exact ⟨rfl, h2⟩
theorem kvr_put {κ : Type} [DecidableEq κ] {k : κ} {v : V} {x : VL} (h : VR K ρ F v x) {vs : List (κ × V)} {xs : List (κ × VL)} (r : KVR K ρ F vs xs) : KVR K ρ F (putK vs k v) (putL xs k x) := by
  unfold putK putL
  rw [kvr_any r]
  split
  · exact kvr_map h r
  · exact paired_append r (.cons ⟨rfl, h⟩ .nil)
theorem dctAt_ok (I : Im K P ρ F H st) {v w : V} {x y : VL} {q : DK} (rx : VR K ρ F v x) (ry : VR K ρ F w y) (h : dctAt st x y = some q) :
    ∃ a, v = .ref a ∧ (∃ o, DGet H a w o ∧ o.isSome = q.get.isSome ∧ ∀ z, q.get = some z → ∃ u, o = some u ∧ VR K ρ F u z) ∧
      ∀ u z st', VR K ρ F u z → q.put st z = some st' → ∃ H', DPut H a w u H' ∧ Tr ρ F H ρ F H' ∧ Im K P ρ F H' st' := by
  unfold dctAt at h
  split at h
  · rename_i n d
    split at h
    · rename_i kvs hs
      obtain ⟨k, h1, rfl⟩ := Option.map_eq_some_iff.mp h
      obtain ⟨a, rfl, ha, hF, kws, hH, hk⟩ := I.at_ rx hs
      have e := keyD_ok ry h1
      subst e
      obtain ⟨g1, g2⟩ := kvr_val (k := k) hk
      refine ⟨a, rfl, ⟨_, DGet.k hH, g2, fun z hz => g1 z hz⟩, fun u z st' ru hp => ?_⟩
      have hp' : (if kvs.length < sizeLine then some (st.set n (.dk (putL kvs k z))) else none) = some st' := hp
      split at hp'
      · rename_i hl
        cases hp'
        exact ⟨_, DPut.k hH (by rw [paired_len hk]; exact hl), I.store (b := .dk (putL kvs k z)) ha hF ⟨hF, _, upd_same, kvr_put ru hk⟩⟩
      · cases hp'
    · rename_i kvs ds hs
      obtain ⟨k, h1, rfl⟩ := Option.map_eq_some_iff.mp h
      obtain ⟨a, rfl, ha, hF, kws, hH, hk⟩ := I.at_ rx hs
      cases (show Dq K F w (.tuple ds) from ry) with
      | tup hq hd =>
        have e := keysD_ok hd h1
        subst e
        obtain ⟨g1, g2⟩ := kvr_val (k := k) hk
        refine ⟨a, rfl, ⟨_, DGet.t hH (I.ex _ _ hq), g2, fun z hz => g1 z hz⟩, fun u z st' ru hp => ?_⟩
        have hp' : (if kvs.length < sizeLine then some (st.set n (.dt (putL kvs k z))) else none) = some st' := hp
        split at hp'
        · rename_i hl
          cases hp'
          exact ⟨_, DPut.t hH (I.ex _ _ hq) (by rw [paired_len hk]; exact hl), I.store (b := .dt (putL kvs k z)) ha hF ⟨hF, _, upd_same, kvr_put ru hk⟩⟩
        · cases hp'
    · cases h
  · cases h
end
/-- k in d -/
def oInD (neg : Bool) : Op2 := fun st y x => (dctAt st x y).map fun q => (.d (.bool (if neg then !q.get.isSome else q.get.isSome)), st)
/-- d[k] -/
def oDget : Op2 := fun st x y => (dctAt st x y).bind fun q => q.get.map fun z => (z, st)
def rInD (neg : Bool) : R2 := fun y x H Q => ∃ a o, x = .ref a ∧ DGet H a y o ∧ Q (.bl (if neg then !o.isSome else o.isSome)) H
def rDget : R2 := fun x y H Q => ∃ a v, x = .ref a ∧ DGet H a y (some v) ∧ Q v H
section
variable {K : Kf}
theorem pr_inD {neg : Bool} : Pr2 K (rInD neg) (oInD neg) := ⟨fun {P ρ F H st st' v w x y z Q} I rx ry h q => by
  obtain ⟨d, h1, h2⟩ := Option.map_eq_some_iff.mp h
  cases h2
  obtain ⟨a, rfl, ⟨o, g1, g2, _⟩, _⟩ := dctAt_ok I ry rx h1
  refine ⟨a, o, rfl, g1, ?_⟩
  rw [g2]
  exact q _ ρ F H (Tr.refl ..) I (.bl _)⟩
theorem pr_dget : Pr2 K rDget oDget := ⟨fun {P ρ F H st st' v w x y z Q} I rx ry h q => by
  obtain ⟨d, h1, h2⟩ := Option.bind_eq_some_iff.mp h
  obtain ⟨u, h3, h4⟩ := Option.map_eq_some_iff.mp h2
  cases h4
  obtain ⟨a, rfl, ⟨o, g1, g2, g3⟩, _⟩ := dctAt_ok I rx ry h1
  obtain ⟨u', rfl, ru⟩ := g3 _ h3
  exact ⟨a, u', rfl, g1, q _ ρ F H (Tr.refl ..) I ru⟩⟩
end
section
variable {X : Cx} {P : Par} {E : XK} {a b : Expr} {ca cb : SE} {pos : Pos}
theorem op_inD (hu : X.A.units + 1 < cLine) : OpR X (compareOp .In) (rInD false) := by
  intro pins s σ H x y v u Q I rx ry h
  obtain ⟨a, o, rfl, g, q⟩ := h
  cases ry
  exact d_in hu I g rx fun s3 I3 => ⟨.bl o.isSome, H, I3, rfl, q⟩
theorem op_notInD (hu : X.A.units + 1 < cLine) : OpR X (compareOp .NotIn) (rInD true) := by
  intro pins s σ H x y v u Q I rx ry h
  obtain ⟨a, o, rfl, g, q⟩ := h
  cases ry
  exact d_notIn hu I g rx fun s3 I3 => ⟨.bl (!o.isSome), H, I3, rfl, q⟩
theorem e_dget (hu : X.A.units + 1 < cLine) (ha : PE X a (rdE X.K P E ca)) (hb : PE X b (rdE X.K P E cb)) (hs : NoSl b) : PE X (.Subscript a b pos) (rdE X.K P E (eOp oDget ca cb)) :=
  pe_weak (pe_dget hu ha hb hs) fun _ _ _ h => op_rd pr_dget h
/-- {} : a new dict of the store -/
def eDnew (tup : Bool) : SE := fun _ st => some (.ok (.o st.length) (st ++ [if tup then .dt [] else .dk []]))
theorem e_dnew : PE X (.Dict [] [] pos) (rdE X.K P E (eDnew false)) :=
  pe_weak pe_dnewK fun σ H Q ⟨ρ, F, st, env, o, I, R, h, p⟩ d hd => by
    cases h
    obtain ⟨T, I'⟩ := I.alloc (b := .dk []) hd (o := .dK []) fun ρ' H' t hF hH _ => ⟨hF, [], hH, .nil⟩
    refine p _ _ F _ T I' ⟨d, rfl, ?_⟩
    rw [List.getElem?_append_right (by rw [I.len]; exact Nat.le_refl _), I.len, Nat.sub_self]
    rfl
theorem e_dnewT : PE X (.Dict [] [] pos) (rdE X.K P E (eDnew true)) :=
  pe_weak pe_dnewT fun σ H Q ⟨ρ, F, st, env, o, I, R, h, p⟩ d hd => by
    cases h
    obtain ⟨T, I'⟩ := I.alloc (b := .dt []) hd (o := .dT []) fun ρ' H' t hF hH _ => ⟨hF, [], hH, .nil⟩
    refine p _ _ F _ T I' ⟨d, rfl, ?_⟩
    rw [List.getElem?_append_right (by rw [I.len]; exact Nat.le_refl _), I.len, Nat.sub_self]
    rfl
/-- len of a dict -/
def cLenD : OpC := fun st xs => match xs with
  | [.o n] => match st[n]? with
    | some (.dk kvs) => some (.d (.int kvs.length), st)
    | some (.dt kvs) => some (.d (.int kvs.length), st)
    | _ => none
  | _ => none
def rLenD : List V → Hp → VK → Prop := fun xs H Q => (∃ a kvs, xs = [V.ref a] ∧ H a = some (.dK kvs) ∧ Q (.int kvs.length) H) ∨ rLenT xs H Q
theorem call_lenDD : CallR X (.builtin "len") rLenD := CallR.or call_lenD call_len_dT
theorem pr_lenD {K : Kf} : PrC K rLenD cLenD := ⟨fun {P ρ F H st st' vs xs z Q} I r h q => by
  unfold cLenD at h
  split at h
  · obtain ⟨v, rfl, rv⟩ := vrs1 r
    split at h
    · rename_i kvs hs
      cases h
      obtain ⟨a, rfl, ha, hF, kws, hH, hk⟩ := I.at_ rv hs
      exact .inl ⟨a, kws, rfl, hH, by rw [paired_len hk]; exact q _ ρ F H (Tr.refl ..) I (.int _)⟩
    · rename_i kvs hs
      cases h
      obtain ⟨a, rfl, ha, hF, kws, hH, hk⟩ := I.at_ rv hs
      exact .inr ⟨a, kws, rfl, hH, by rw [paired_len hk]; exact q _ ρ F H (Tr.refl ..) I (.int _)⟩
    · cases h
  · cases h⟩
end
end Sl
set_option Elab.async false
set_option linter.all false
set_option autoImplicit false
set_option maxRecDepth 100000
set_option maxHeartbeats 4000000
namespace Sl
open PySem PySem.Spec PyProof.Rows L2

/-! ### targets -/
abbrev Tg := VL → Env → Option Env
/-- the slots outside of T are as they were -/
def Off (T : List Nat) (σ σ' : L2.St) : Prop := σ'.length = σ.length ∧ ∀ i, i ∉ T → σ'[i]? = σ[i]?
def rdG (K : Kf) (T : List Nat) (c : Tg) : TG := fun v σ H Q => ∃ ρ F env x env', Evl.Ex F H ∧ EnvR K ρ F σ env ∧ VR K ρ F v x ∧ c x env = some env' ∧ ∀ σ', EnvR K ρ F σ' env' → Off T σ σ' → Q σ' H
def gN (i : Nat) : Tg := fun x env => some (env.set i (some x))
def gsNil : List VL → Env → Option Env
  | [], env => some env
  | _ :: _, _ => none
def gsCons (g : Tg) (gs : List VL → Env → Option Env) : List VL → Env → Option Env
  | [], _ => none
  | x :: xs, env => (g x env).bind fun env1 => gs xs env1
/-- (a, b, ..) = a tuple of data -/
def gT (n : Nat) (gs : List VL → Env → Option Env) : Tg := fun x env => match x with
  | .d (.tuple ds) => if ds.length = n then gs (ds.map .d) env else none
  | _ => none
def rdGs (K : Kf) (T : List Nat) (c : List VL → Env → Option Env) : TGs := fun vs σ H Q => ∃ ρ F env xs env', Evl.Ex F H ∧ EnvR K ρ F σ env ∧ VRs K ρ F vs xs ∧ c xs env = some env' ∧ ∀ σ', EnvR K ρ F σ' env' → Off T σ σ' → Q σ' H
section
variable {X : Cx}
theorem pg_weak {e : Expr} {t t' : TG} (h : PG X e t) (w : ∀ v σ H Q, t' v σ H Q → t v σ H Q) : PG X e t' := ⟨fun pins s σ H v u Q I r q => h.run pins s σ H v u Q I r (w v σ H Q q)⟩
theorem pgs_weak {e : List Expr} {t t' : TGs} (h : PGs X e t) (w : ∀ v σ H Q, t' v σ H Q → t v σ H Q) : PGs X e t' := ⟨fun pins s σ H v u Q I r q => h.run pins s σ H v u Q I r (w v σ H Q q)⟩
theorem g_name {i : Nat} {x : Str} {pos : Pos} (hN : X.N.Nodup) (hi : X.N[i]? = some x) (hx : Loc X.env.scope x) (hf : X.fn x = true ∨ X.env.scope.names.lookup x = some .local := by first | exact .inl rfl | exact .inr rfl | assumption) : PG X (.Name x pos) (rdG X.K [i] (gN i)) :=
  pg_weak (pg_name hN hi hx hf) fun v σ H Q ⟨ρ, F, env, x, env', e, R, r, h, q⟩ => by
    cases h
    exact q _ (R.set r) ⟨List.length_set, fun j hj => List.getElem?_set_ne fun e => hj (by rw [← e]; exact List.mem_singleton.mpr rfl)⟩
theorem Off.refl (T : List Nat) (σ : L2.St) : Off T σ σ := ⟨rfl, fun _ _ => rfl⟩
theorem Off.trans {T T' : List Nat} {σ σ1 σ2 : L2.St} (a : Off T σ σ1) (b : Off T' σ1 σ2) : Off (T ++ T') σ σ2 := ⟨b.1.trans a.1, fun i hi => (b.2 i fun h => hi (List.mem_append_right _ h)).trans (a.2 i fun h => hi (List.mem_append_left _ h))⟩
theorem gs_nil : PGs X [] (rdGs X.K [] gsNil) := pgs_weak pgs_nil fun v σ H Q ⟨ρ, F, env, xs, env', e, R, r, h, q⟩ => by
  cases r with
  | nil =>
    cases h
    exact ⟨rfl, q _ R (Off.refl ..)⟩
  | cons _ _ => cases h
theorem gs_cons {e : Expr} {es : List Expr} {g : Tg} {T T' : List Nat} {gs : List VL → Env → Option Env} (h1 : PG X e (rdG X.K T g)) (h2 : PGs X es (rdGs X.K T' gs)) (hs : (assignEach (e :: es) X.env).map (·.2) = assign e X.env :: (assignEach es X.env).map (·.2) := by rfl) :
    PGs X (e :: es) (rdGs X.K (T ++ T') (gsCons g gs)) := pgs_weak (pgs_cons h1 h2 hs) fun v σ H Q ⟨ρ, F, env, xs, env', e, R, r, h, q⟩ => by
  cases r with
  | nil => cases h
  | cons r rr =>
    obtain ⟨env1, k1, k2⟩ := Option.bind_eq_some_iff.mp h
    exact ⟨_, _, rfl, ρ, F, env, _, env1, e, R, r, k1, fun σ' R' O' => ⟨ρ, F, env1, _, env', e, R', rr, k2, fun σ2 R2 O2 => q σ2 R2 (O'.trans O2)⟩⟩
theorem g_tup {es : List Expr} {k : Nat} {T : List Nat} {gs : List VL → Env → Option Env} {n : Nat} {pos : Pos} (hc : X.calm = true) (h : PGs X es (rdGs X.K T gs)) (hn : (assignEach es X.env).length = n := by rfl) (hst : (assignEach es X.env).findIdx? (·.1) = none := by rfl) :
    PG X (.Tuple es k pos) (rdG X.K T (gT n gs)) := pg_weak (pg_tup hc h hn hst) fun v σ H Q ⟨ρ, F, env, x, env', e, R, r, h, q⟩ => by
  unfold gT at h
  split at h
  · rename_i ds
    split at h
    · rename_i hl
      cases (show Dq X.K F v (.tuple ds) from r) with
      | tup hq hd =>
        have hv : VRs X.K ρ F _ (ds.map .d) := vrs_of hd
        refine ⟨_, _, rfl, SqT.of (e _ _ hq), ?_, ρ, F, env, _, env', e, R, hv, h, q⟩
        rw [paired_len hv, List.length_map]
        exact hl
    · cases h
  · cases h
end
/-! ### small statements -/
def sNx : SS := fun env st => some (.nx env st)
def sSeq (a b : SS) : SS := fun env st => match a env st with
  | none => none
  | some (.nx env1 st1) => b env1 st1
  | some o => some o
def sAsg (c : SE) (g : Tg) : SS := fun env st => fbind (c env st) fun x st1 => (g x env).map fun env1 => .nx env1 st1
def sDrop (c : SE) : SS := fun env st => fbind (c env st) fun _ st1 => some (.nx env st1)
def sRet (c : SE) : SS := fun env st => fbind (c env st) fun x st1 => some (.rt x st1)
def sRetN : SS := fun env st => some (.rt (.d .none) st)
def sIf (c : SE) (a b : SS) : SS := fun env st => fbind (c env st) fun x st1 => (tst x).bind fun t => if t then a env st1 else b env st1
def sBk : SS := fun env st => some (.bk env st)
def sCt : SS := fun env st => some (.ct env st)
section
variable {X : Cx} {P : Par} {E : XK} {pos : Pos} {e c : Expr} {ce cc : SE} {s : Stmt} {ss ts : List Stmt} {cs ct : SS}
theorem ss_nil : PSs X [] (rdS X.K P E sNx) := pss_weak pss_nil fun D σ H ⟨ρ, F, st, env, o, I, R, h, p⟩ => by
  cases h
  exact p _ ρ F H (Tr.refl ..) I R
theorem seq_rd {K : Kf} {a b : SS} {D : Ends} {σ : L2.St} {H : Hp} (h : rdS K P E (sSeq a b) D σ H) : tSeq (rdS K P E a) (rdS K P E b) D σ H := by
  obtain ⟨ρ, F, st, env, o, I, R, h, p⟩ := h
  unfold sSeq at h
  split at h
  · cases h
  · rename_i env1 st1 ha
    exact ⟨ρ, F, st, env, _, I, R, ha, fun σ' ρ1 F1 H1 t1 I1 R1 => ⟨ρ1, F1, st1, env1, o, I1, R1, h, p.mono t1⟩⟩
  · rename_i hne ha
    cases h
    refine ⟨ρ, F, st, env, o, I, R, ha, ?_⟩
    cases o with
    | nx env1 st1 => exact (hne env1 st1 rfl).elim
    | rt _ _ => exact p
    | bk _ _ => exact p
    | ct _ _ => exact p
    | ex _ _ _ => exact p
theorem ss_cons (h1 : PS X s (rdS X.K P E cs)) (h2 : PSs X ss (rdS X.K P E ct)) : PSs X (s :: ss) (rdS X.K P E (sSeq cs ct)) := pss_weak (pss_cons h1 h2) fun _ _ _ h => seq_rd h
theorem ss_one (h1 : PS X s (rdS X.K P E cs)) : PSs X [s] (rdS X.K P E cs) := pss_one h1
theorem s_pass : PS X (.Pass pos) (rdS X.K P E sNx) := ps_weak ps_pass fun D σ H ⟨ρ, F, st, env, o, I, R, h, p⟩ => by
  cases h
  exact p _ ρ F H (Tr.refl ..) I R
theorem s_break : PS X (.Break pos) (rdS X.K P E sBk) := ps_weak ps_break fun D σ H ⟨ρ, F, st, env, o, I, R, h, p⟩ => by
  cases h
  exact p _ ρ F H (Tr.refl ..) I R
theorem s_continue : PS X (.Continue pos) (rdS X.K P E sCt) := ps_weak ps_continue fun D σ H ⟨ρ, F, st, env, o, I, R, h, p⟩ => by
  cases h
  exact p _ ρ F H (Tr.refl ..) I R
theorem s_expr (he : PE X e (rdE X.K P E ce)) (hs : swapsWith e none pos.line X.env = pure false := by rfl) : PS X (.Expr e pos) (rdS X.K P E (sDrop ce)) := ps_weak (ps_expr he hs) fun D σ H ⟨ρ, F, st, env, o, I, R, h, p⟩ => by
  refine rdE_bindS I R h p fun v ρ1 F1 H1 x st1 t1 I1 R1 r1 h1 p1 => ?_
  cases h1
  exact p1 _ ρ1 F1 H1 (Tr.refl ..) I1 R1
theorem s_ret (he : PE X e (rdE X.K P E ce)) : PS X (.Return (some e) pos) (rdS X.K P E (sRet ce)) := ps_weak (ps_ret he) fun D σ H ⟨ρ, F, st, env, o, I, R, h, p⟩ => by
  refine rdE_bindS I R h p fun v ρ1 F1 H1 x st1 t1 I1 R1 r1 h1 p1 => ?_
  cases h1
  exact p1 _ ρ1 F1 H1 (Tr.refl ..) I1 r1
theorem s_retN : PS X (.Return none pos) (rdS X.K P E sRetN) := ps_weak ps_retN fun D σ H ⟨ρ, F, st, env, o, I, R, h, p⟩ => by
  cases h
  exact p _ ρ F H (Tr.refl ..) I .non
theorem s_if (hc : PT X c (rdT X.K P E cc)) (ha : PSs X ss (rdS X.K P E cs)) (hb : PSs X ts (rdS X.K P E ct)) : PS X (.If c ss ts pos) (rdS X.K P E (sIf cc cs ct)) := ps_weak (ps_if hc ha hb) fun D σ H ⟨ρ, F, st, env, o, I, R, h, p⟩ => by
  refine rdT_bindS (k := fun t st1 => if t then cs env st1 else ct env st1) I R h p fun ρ1 F1 H1 b st1 t1 I1 R1 h1 p1 => ?_
  cases b with
  | true => exact ⟨ρ1, F1, st1, env, o, I1, R1, h1, p1⟩
  | false => exact ⟨ρ1, F1, st1, env, o, I1, R1, h1, p1⟩
theorem asg_rd {K : Kf} {T : List Nat} {g : Tg} {D : Ends} {σ : L2.St} {H : Hp} (h : rdS K P E (sAsg ce g) D σ H) : tAsg (rdE K P E ce) (rdG K T g) D σ H := by
  obtain ⟨ρ, F, st, env, o, I, R, h, p⟩ := h
  refine rdE_bindS I R h p fun v ρ1 F1 H1 x st1 t1 I1 R1 r1 h1 p1 => ?_
  obtain ⟨env1, k1, k2⟩ := Option.map_eq_some_iff.mp h1
  cases k2
  exact ⟨ρ1, F1, env, x, env1, I1.ex, R1, r1, k1, fun σ' R' _ => p1 _ ρ1 F1 H1 (Tr.refl ..) I1 R'⟩
theorem s_asg {tg : Expr} {T : List Nat} {g : Tg} (he : PE X e (rdE X.K P E ce)) (hg : PG X tg (rdG X.K T g)) (hs : swapsWithSole [tg] e pos.line X.env = pure false := by rfl) (hw : swappedStores [tg] e X.env = pure none := by rfl)
    (h1 : (assignEach [tg] X.env).map (·.2) = [assign tg X.env] := by rfl) : PS X (.Assign [tg] e pos) (rdS X.K P E (sAsg ce g)) := ps_weak (ps_asg he hg hs hw h1) fun _ _ _ h => asg_rd h
theorem s_set {i : Nat} {x : Str} {pos' : Pos} (hN : X.N.Nodup) (hi : X.N[i]? = some x) (hx : Loc X.env.scope x) (he : PE X e (rdE X.K P E ce)) (hs : swapsWith e (some (.Name x pos')) pos.line X.env = pure false := by rfl) (hf : X.fn x = true ∨ X.env.scope.names.lookup x = some .local := by first | exact .inl rfl | exact .inr rfl | assumption) :
    PS X (.Assign [.Name x pos'] e pos) (rdS X.K P E (sAsg ce (gN i))) := ps_weak (ps_set hN hi hx he hs hf) fun D σ H ⟨ρ, F, st, env, o, I, R, h, p⟩ => by
  refine rdE_bindS I R h p fun v ρ1 F1 H1 x st1 t1 I1 R1 r1 h1 p1 => ?_
  obtain ⟨env1, k1, k2⟩ := Option.map_eq_some_iff.mp h1
  cases k2
  cases k1
  exact p1 _ ρ1 F1 H1 (Tr.refl ..) I1 (R1.set r1)
/-- x[i] = e, a list of the store -/
def sSetL (e a i : SE) : SS := fun env st => fbind (e env st) fun y st1 => fbind (a env st1) fun x st2 => fbind (i env st2) fun k st3 => match lstAt st3 x, asI k with
  | some (n, xs), some j => (ixN xs.length j).map fun j => .nx env (st3.set n (.lst (xs.set j y)))
  | _, _ => none
theorem paired_set {α β : Type} {R : α → β → Prop} {x : α} {y : β} (h : R x y) : ∀ {a : List α} {b : List β} (i : Nat), Paired R a b → Paired R (a.set i x) (b.set i y)
  | _, _, _, .nil => .nil
  | _, _, 0, .cons _ t => .cons h t
  | _, _, i + 1, .cons q t => .cons q (paired_set h i t)
theorem s_setL {o i : Expr} {co ci : SE} {p2 : Pos} (he : PE X e (rdE X.K P E ce)) (ho : PE X o (rdE X.K P E co)) (hi : PE X i (rdE X.K P E ci)) (hs : swapsWithSole [.Subscript o i p2] e pos.line X.env = pure false := by rfl) (hw : swappedStores [.Subscript o i p2] e X.env = pure none := by rfl)
    (h1 : (assignEach [.Subscript o i p2] X.env).map (·.2) = [assign (.Subscript o i p2) X.env] := by rfl)
    (ha : ∀ v, assign (.Subscript o i p2) X.env v = (do
      let ov ← holding [v] (eval o X.env)
      let iv ← holding [v, ov] (eval i X.env)
      standAt p2
      holding [v, ov, iv] (setItem ov iv v)
      release [v, ov, iv] []) := by intro _; rfl) : PS X (.Assign [.Subscript o i p2] e pos) (rdS X.K P E (sSetL ce co ci)) :=
  ps_weak (ps_asg he (pg_sub ho hi set_list ha) hs hw h1) fun D σ H ⟨ρ, F, st, env, o, I, R, h, p⟩ => by
    refine rdE_bindS I R h p fun v ρ1 F1 H1 y st1 t1 I1 R1 r1 h1 p1 => ?_
    refine rdE_bindS I1 R1 h1 p1 fun w ρ2 F2 H2 x st2 t2 I2 R2 r2 h2 p2 => ?_
    refine rdE_bindS I2 R2 h2 p2 fun u ρ3 F3 H3 k st3 t3 I3 R3 r3 h3 p3 => ?_
    split at h3
    · rename_i n xs j hx hj
      obtain ⟨m, h4, h5⟩ := Option.map_eq_some_iff.mp h3
      cases h5
      obtain ⟨b, vs, e1, k1, k2, k3, k4⟩ := lstAt_ok I3 (r2.mono t3) hx
      rw [asI_eq hj] at r3
      refine ⟨b, vs, j, m, e1, vr_int r3, k3, by rw [paired_len k4]; exact h4, ?_⟩
      obtain ⟨T, I4⟩ := lst_put I3 k1 k2 (paired_set ((r1.mono t2).mono t3) m k4)
      exact p3 _ ρ3 F3 _ T I4 (R3.mono T)
    · cases h3
/-- d[k] = e -/
def sDput (e a i : SE) : SS := fun env st => fbind (e env st) fun z st1 => fbind (a env st1) fun x st2 => fbind (i env st2) fun y st3 => (dctAt st3 x y).bind fun q => (q.put st3 z).map fun st4 => .nx env st4
theorem s_dput {o i : Expr} {co ci : SE} {pos' : Pos} (hu : X.A.units + 1 < cLine) (he : PE X e (rdE X.K P E ce)) (ho : PE X o (rdE X.K P E co)) (hi : PE X i (rdE X.K P E ci)) (hs : swapsWith e (some (.Subscript o i pos')) pos.line X.env = pure false := by rfl) :
    PS X (.Assign [.Subscript o i pos'] e pos) (rdS X.K P E (sDput ce co ci)) :=
  ps_weak (ps_dput hu ho hi he hs) fun D σ H ⟨ρ, F, st, env, o, I, R, h, p⟩ => by
    refine rdE_bindS I R h p fun v ρ1 F1 H1 z st1 t1 I1 R1 r1 h1 p1 => ?_
    refine rdE_bindS I1 R1 h1 p1 fun w ρ2 F2 H2 x st2 t2 I2 R2 r2 h2 p2 => ?_
    refine rdE_bindS I2 R2 h2 p2 fun u ρ3 F3 H3 y st3 t3 I3 R3 r3 h3 p3 => ?_
    obtain ⟨q, h4, h5⟩ := Option.bind_eq_some_iff.mp h3
    obtain ⟨st4, h6, h7⟩ := Option.map_eq_some_iff.mp h5
    cases h7
    obtain ⟨a, e1, _, g⟩ := dctAt_ok I3 (r2.mono t3) r3 h4
    obtain ⟨H', g1, g2, g3⟩ := g v z st4 ((r1.mono t2).mono t3) h6
    exact ⟨a, H', e1, g1, p3 _ ρ3 F3 _ g2 g3 (R3.mono g2)⟩
end
/-! ### what is walked -/
inductive OutI where
  | ok (xs : List VL) (st : Sto)
  | ex (c : Nat) (fs : List PyData) (st : Sto)
abbrev SI := Env → Sto → Option OutI
/-- the iterator yields these, whatever is laid or changed meanwhile -/
def ItR (K : Kf) (ρ : List Addr) (F : Hp) (J : It) (xs : List VL) : Prop :=
  (∀ i x, xs[i]? = some x → ∀ H, Evl.Ex F H → J.go i H ∧ ∀ v H', J.yld i H v H' → H' = H ∧ VR K ρ F v x) ∧ ∀ H, Evl.Ex F H → J.stop xs.length H
def PostI (K : Kf) (P : Par) (ρ : List Addr) (F H : Hp) (Q : It → Hp → Prop) (E : XK) : OutI → Prop
  | .ok xs st => ∀ J ρ' F' H', Tr ρ F H ρ' F' H' → Im K P ρ' F' H' st → ItR K ρ' F' J xs → Q J H'
  | .ex c fs st => PostX K P ρ F H E c fs st
def rdI (K : Kf) (P : Par) (E : XK) (c : SI) : TI := fun σ H R => ∃ ρ F st env o, Im K P ρ F H st ∧ EnvR K ρ F σ env ∧ c env st = some o ∧ PostI K P ρ F H R E o
def ibind (x : Option Out) (k : VL → Sto → Option OutI) : Option OutI := match x with
  | none => none
  | some (.ok r st) => k r st
  | some (.ex c fs st) => some (.ex c fs st)
def ibindL (x : Option OutL) (k : List VL → Sto → Option OutI) : Option OutI := match x with
  | none => none
  | some (.ok r st) => k r st
  | some (.ex c fs st) => some (.ex c fs st)
/-- a list or tuple of data -/
def sqI (x : VL) (st : Sto) : Option OutI := match x with
  | .d (.list ds) => some (.ok (ds.map .d) st)
  | .d (.tuple ds) => some (.ok (ds.map .d) st)
  | _ => none
theorem sqI_some {x : VL} {st : Sto} {o : OutI} (h : sqI x st = some o) : ∃ ds, (x = .d (.list ds) ∨ x = .d (.tuple ds)) ∧ o = .ok (ds.map .d) st := by
  unfold sqI at h
  split at h
  · cases h
    exact ⟨_, .inl rfl, rfl⟩
  · cases h
    exact ⟨_, .inr rfl, rfl⟩
  · cases h
def iSeq (a : SE) : SI := fun env st => ibind (a env st) sqI
def rgL (lo : Int) (n : Nat) : List VL := (List.range n).map fun (i : Nat) => VL.d (.int (lo + (i : Int)))
def rg1 (xs : List VL) (st : Sto) : Option OutI := match xs with
  | [.d (.int j)] => if decide (-(2 ^ 62) ≤ j) && decide (j < 2 ^ 62) then some (.ok (rgL 0 j.toNat) st) else none
  | _ => none
def rg2 (xs : List VL) (st : Sto) : Option OutI := match xs with
  | [.d (.int i), .d (.int j)] => if (decide (-(2 ^ 62) ≤ i) && decide (i < 2 ^ 62)) && (decide (-(2 ^ 62) ≤ j) && decide (j < 2 ^ 62)) then some (.ok (rgL i (j - i).toNat) st) else none
  | _ => none
theorem rg1_some {xs : List VL} {st : Sto} {o : OutI} (h : rg1 xs st = some o) : ∃ j, xs = [.d (.int j)] ∧ -(2 ^ 62) ≤ j ∧ j < 2 ^ 62 ∧ o = .ok (rgL 0 j.toNat) st := by
  unfold rg1 at h
  split at h
  · split at h
    · rename_i hb
      cases h
      simp only [Bool.and_eq_true, decide_eq_true_eq] at hb
      exact ⟨_, rfl, hb.1, hb.2, rfl⟩
    · cases h
  · cases h
theorem rg2_some {xs : List VL} {st : Sto} {o : OutI} (h : rg2 xs st = some o) : ∃ i j, xs = [.d (.int i), .d (.int j)] ∧ (-(2 ^ 62) ≤ i ∧ i < 2 ^ 62 ∧ -(2 ^ 62) ≤ j ∧ j < 2 ^ 62) ∧ o = .ok (rgL i (j - i).toNat) st := by
  unfold rg2 at h
  split at h
  · split at h
    · rename_i hb
      cases h
      simp only [Bool.and_eq_true, decide_eq_true_eq] at hb
      exact ⟨_, _, rfl, ⟨hb.1.1, hb.1.2, hb.2.1, hb.2.2⟩, rfl⟩
    · cases h
  · cases h
def iR1 (a : SL) : SI := fun env st => ibindL (a env st) rg1
def iR2 (a : SL) : SI := fun env st => ibindL (a env st) rg2
section
variable {X : Cx} {P : Par} {E : XK} {tg e : Expr} {ce : SE} {ca : SL}
theorem pi_weak {w w' : TI} (h : PI X tg e w) (k : ∀ σ H R, w' σ H R → w σ H R) : PI X tg e w' := ⟨fun pins s σ H R I q => h.run pins s σ H R I (k σ H R q)⟩
/-- a list or a tuple -/
def iEither (K : Kf) (tl : TE) : TI := fun σ H R => tl σ H fun x H1 => (∃ a, x = .ref a ∧ (∃ xs, SqL K H1 a xs) ∧ R (Itl K a) H1) ∨ ∃ a, x = .ref a ∧ (∃ xs, SqT K H1 a xs) ∧ R (Itt K a) H1
theorem pi_either {tl : TE} (hl : PE X e tl) : PI X tg e (iEither X.K tl) := by
  refine ⟨fun pins s σ H R I h => ?_⟩
  refine thn (hl.run pins s σ H _ I h) fun v s1 ⟨x, H1, I1, r1, q1⟩ => ?_
  rcases q1 with ⟨a, e, ⟨xs, hq⟩, q⟩ | ⟨a, e, ⟨xs, hq⟩, q⟩
  · subst e
    cases r1
    obtain ⟨its, rv, p, hz⟩ := I1.list hq
    refine wpAny_pyIter_list p.isList ⟨_, [s1.heap.objs.size], _, _, H1, rfl, I1.kept (t' := s1.toks) fun b o e => Heap.get?_push_of_some _ e, turn_list a s1.heap.objs.size, ⟨_, Heap.get?_push_size _ rfl, rfl, rfl⟩, fun b hb => ?_, q⟩
    rw [List.mem_singleton.mp hb]
    exact I1.fpOk (Nat.le_refl _) (I1.hok.fresh (Nat.le_refl _))
  · subst e
    cases r1
    obtain ⟨its, rv, p, hz⟩ := I1.tuple hq
    refine wpAny_pyIter_tuple (show s1.heap.IsTuple a its.toArray from p) ⟨_, [s1.heap.objs.size], _, _, H1, rfl, I1.kept (t' := s1.toks) fun b o e => Heap.get?_push_of_some _ e, turn_tuple a s1.heap.objs.size, ⟨_, Heap.get?_push_size _ rfl, rfl, rfl⟩, fun b hb => ?_, q⟩
    rw [List.mem_singleton.mp hb]
    exact I1.fpOk (Nat.le_refl _) (I1.hok.fresh (Nat.le_refl _))
theorem vrs_ix {K : Kf} {ρ : List Addr} {F : Hp} : ∀ {vs : List V} {xs : List VL}, VRs K ρ F vs xs → ∀ (i : Nat) (x : VL), xs[i]? = some x → ∃ v, vs[i]? = some v ∧ VR K ρ F v x := fun h i x e => vrs_get h e
theorem itt_ok {K : Kf} {ρ : List Addr} {F : Hp} {a : Addr} {vs : List V} {xs : List VL} (hs : F a = some (.tup vs)) (h : VRs K ρ F vs xs) : ItR K ρ F (Itt K a) xs := by
  refine ⟨fun i x hx H e => ?_, fun H e => ?_⟩
  · obtain ⟨v, hv, rv⟩ := vrs_get h hx
    refine ⟨⟨vs, v, SqT.of (e _ _ hs), hv⟩, fun w H' hy => ⟨hy.1, ?_⟩⟩
    have h3 := hy.2 vs (SqT.of (e _ _ hs))
    rw [hv] at h3
    cases h3
    exact rv
  · exact ⟨vs, SqT.of (e _ _ hs), by rw [paired_len h]; exact Nat.le_refl _⟩
theorem itl_ok' {K : Kf} {ρ : List Addr} {F : Hp} {a : Addr} {vs : List V} {xs : List VL} (hs : SqL K F a vs) (h : VRs K ρ F vs xs) : ItR K ρ F (Itl K a) xs := by
  refine ⟨fun i x hx H e => ?_, fun H e => ?_⟩
  · obtain ⟨v, hv, rv⟩ := vrs_get h hx
    refine ⟨⟨vs, v, Evl.ex_l e hs, hv⟩, fun w H' hy => ⟨hy.1, ?_⟩⟩
    have h3 := hy.2 vs (Evl.ex_l e hs)
    rw [hv] at h3
    cases h3
    exact rv
  · exact ⟨vs, Evl.ex_l e hs, by rw [paired_len h]; exact Nat.le_refl _⟩
theorem i_seq (he : PE X e (rdE X.K P E ce)) : PI X tg e (rdI X.K P E (iSeq ce)) := pi_weak (pi_either he) fun σ H R ⟨ρ, F, st, env, o, I, R', h, p⟩ => by
  unfold iSeq at h
  cases hc : ce env st with
  | none => rw [hc] at h; cases h
  | some o1 =>
    rw [hc] at h
    refine ⟨ρ, F, st, env, o1, I, R', hc, ?_⟩
    cases o1 with
    | ex c fs st1 =>
      cases h
      exact p
    | ok r st1 =>
      intro v ρ1 F1 H1 t1 I1 r1
      obtain ⟨ds, hr, rfl⟩ := sqI_some (show sqI r st1 = some o from h)
      rcases hr with rfl | rfl
      · cases (show Dq X.K F1 v (.list ds) from r1) with
        | lst hs hd => exact .inl ⟨_, rfl, ⟨_, Evl.ex_l I1.ex hs⟩, p _ ρ1 F1 H1 t1 I1 (itl_ok' hs (vrs_of hd))⟩
      · cases (show Dq X.K F1 v (.tuple ds) from r1) with
        | tup hs hd => exact .inr ⟨_, rfl, ⟨_, SqT.of (I1.ex _ _ hs)⟩, p _ ρ1 F1 H1 t1 I1 (itt_ok hs (vrs_of hd))⟩
theorem itr_ok {K : Kf} {ρ : List Addr} {F : Hp} (lo : Int) (n : Nat) : ItR K ρ F (Itr lo n) (rgL lo n) := by
  refine ⟨fun i x hx H e => ?_, fun H e => ?_⟩
  · unfold rgL at hx
    rw [List.getElem?_map] at hx
    obtain ⟨j, h1, h2⟩ := Option.map_eq_some_iff.mp hx
    obtain ⟨hl, h3⟩ := List.getElem?_eq_some_iff.mp h1
    rw [List.getElem_range] at h3
    rw [List.length_range] at hl
    subst h3 h2
    refine ⟨hl, fun v H' hy => ⟨hy.1, ?_⟩⟩
    rw [hy.2]
    exact .int _
  · show n ≤ (rgL lo n).length
    unfold rgL
    rw [List.length_map, List.length_range]
    exact Nat.le_refl _
theorem i_r1 {a : Expr} {p pos : Pos} (hg : Gl X (Str.ofString "range")) (hm : X.mg (Str.ofString "range") = none) (ha : PA X [a] (rdL X.K P E ca)) (hs : starEach [a] X.env = [(false, eval a X.env)] := by rfl) :
    PI X tg (.Call (.Name (Str.ofString "range") p) [a] [] pos) (rdI X.K P E (iR1 ca)) := pi_weak (pi_range1 hg hm ha hs) fun σ H R ⟨ρ, F, st, env, o, I, R', h, p⟩ => by
  unfold iR1 at h
  cases hc : ca env st with
  | none => rw [hc] at h; cases h
  | some o1 =>
    rw [hc] at h
    refine ⟨ρ, F, st, env, o1, I, R', hc, ?_⟩
    cases o1 with
    | ex c fs st1 =>
      cases h
      exact p
    | ok xs st1 =>
      intro vs ρ1 F1 H1 t1 I1 r1
      obtain ⟨j, rfl, h1, h2, rfl⟩ := rg1_some (show rg1 xs st1 = some o from h)
      obtain ⟨v, rfl, rv⟩ := vrs1 r1
      exact ⟨j, by rw [vr_int rv], h1, h2, p _ ρ1 F1 H1 t1 I1 (itr_ok 0 _)⟩
theorem vrs2 {K : Kf} {ρ : List Addr} {F : Hp} {vs : List V} {x y : VL} (h : VRs K ρ F vs [x, y]) : ∃ v w, vs = [v, w] ∧ VR K ρ F v x ∧ VR K ρ F w y := by
  cases h with
  | cons h t =>
    cases t with
    | cons h2 t =>
      cases t
      exact ⟨_, _, rfl, h, h2⟩
theorem i_r2 {a b : Expr} {p pos : Pos} (hg : Gl X (Str.ofString "range")) (hm : X.mg (Str.ofString "range") = none) (ha : PA X [a, b] (rdL X.K P E ca)) (hs : starEach [a, b] X.env = [(false, eval a X.env), (false, eval b X.env)] := by rfl) (hs2 : starEach [b] X.env = [(false, eval b X.env)] := by rfl) :
    PI X tg (.Call (.Name (Str.ofString "range") p) [a, b] [] pos) (rdI X.K P E (iR2 ca)) := pi_weak (pi_range2 hg hm ha hs hs2) fun σ H R ⟨ρ, F, st, env, o, I, R', h, p⟩ => by
  unfold iR2 at h
  cases hc : ca env st with
  | none => rw [hc] at h; cases h
  | some o1 =>
    rw [hc] at h
    refine ⟨ρ, F, st, env, o1, I, R', hc, ?_⟩
    cases o1 with
    | ex c fs st1 =>
      cases h
      exact p
    | ok xs st1 =>
      intro vs ρ1 F1 H1 t1 I1 r1
      obtain ⟨i, j, rfl, h1, rfl⟩ := rg2_some (show rg2 xs st1 = some o from h)
      obtain ⟨v, w, rfl, rv, rw'⟩ := vrs2 r1
      exact ⟨i, j, by rw [vr_int rv, vr_int rw'], h1, p _ ρ1 F1 H1 t1 I1 (itr_ok i _)⟩
end
/-! ### loops -/
def forL (g : Tg) (body : SS) : List VL → Env → Sto → Option Fl
  | [], env, st => some (.nx env st)
  | x :: xs, env, st => match g x env with
    | none => none
    | some env1 => match body env1 st with
      | none => none
      | some (.nx env2 st2) => forL g body xs env2 st2
      | some (.ct env2 st2) => forL g body xs env2 st2
      | some (.bk env2 st2) => some (.nx env2 st2)
      | some (.rt r st2) => some (.rt r st2)
      | some (.ex c fs st2) => some (.ex c fs st2)
def sFor (it : SI) (g : Tg) (body : SS) : SS := fun env st => match it env st with
  | none => none
  | some (.ex c fs st1) => some (.ex c fs st1)
  | some (.ok xs st1) => forL g body xs env st1
def whileL (t : SE) (body : SS) : Nat → Env → Sto → Option Fl
  | 0, _, _ => none
  | n + 1, env, st => fbind (t env st) fun x st1 => (tst x).bind fun b => if b then match body env st1 with
      | none => none
      | some (.nx env2 st2) => whileL t body n env2 st2
      | some (.ct env2 st2) => whileL t body n env2 st2
      | some (.bk env2 st2) => some (.nx env2 st2)
      | some (.rt r st2) => some (.rt r st2)
      | some (.ex c fs st2) => some (.ex c fs st2)
    else some (.nx env st1)
def sWhile (n : Nat) (t : SE) (body : SS) : SS := fun env st => whileL t body n env st
section
variable {X : Cx} {P : Par} {E : XK} {tg e c : Expr} {ci : SI} {T : List Nat} {g : Tg} {cb : SS} {ct : SE} {body : List Stmt} {pos : Pos}
theorem s_for (hp : PassesOwn (model X.prog X.w) X.A X.env X.xe) (hc : X.calm = true) (hi : PI X tg e (rdI X.K P E ci)) (hg : PG X tg (rdG X.K T g)) (hb : PSs X body (rdS X.K P E cb)) (hs : ∀ x, foldedSetIterable e X.env x = pure x := by intro _; rfl) : PS X (.For tg e body [] pos) (rdS X.K P E (sFor ci g cb)) :=
  ps_weak (ps_for hp hc hi hg hb hs) fun D σ H ⟨ρ, F, st, env, o, I, R, h, p⟩ => by
    unfold sFor at h
    cases hcv : ci env st with
    | none => rw [hcv] at h; cases h
    | some o1 =>
      rw [hcv] at h
      refine ⟨ρ, F, st, env, o1, I, R, hcv, ?_⟩
      cases o1 with
      | ex c fs st1 =>
        cases h
        exact p
      | ok xs st1 =>
        intro J ρ1 F1 H1 t1 I1 hJ
        have R1 := R.mono t1
        refine ⟨fun i m σ' H' => i ≤ xs.length ∧ m = xs.length - i ∧ ∃ ρ' F' st' env', Evl.Ex F1 F' ∧ (∃ new, ρ' = ρ1 ++ new) ∧ Im X.K P ρ' F' H' st' ∧ EnvR X.K ρ' F' σ' env' ∧ forL g cb (xs.drop i) env' st' = some o ∧ PostS X.K P ρ' F' H' D E o,
          ⟨xs.length, Nat.zero_le _, rfl, ρ1, F1, st1, env, Evl.Ex.refl _, ⟨[], (List.append_nil _).symm⟩, I1, R1, h, p.mono t1⟩, ?_⟩
        rintro i m σ' H' ⟨hi, rfl, ρ', F', st', env', hex, hpre, I', R', hf, p'⟩
        by_cases hlt : i < xs.length
        · obtain ⟨g1, g2⟩ := hJ.1 i xs[i] (List.getElem?_eq_getElem hlt) H' (hex.trans I'.ex)
          rw [List.drop_eq_getElem_cons hlt] at hf
          refine .inr ⟨g1, fun σ2 H2 => ∃ ρ2 F2 st2 env2, Evl.Ex F1 F2 ∧ (∃ new, ρ2 = ρ1 ++ new) ∧ Im X.K P ρ2 F2 H2 st2 ∧ EnvR X.K ρ2 F2 σ2 env2 ∧ forL g cb (xs.drop (i + 1)) env2 st2 = some o ∧ PostS X.K P ρ2 F2 H2 D E o,
            fun σ2 H2 q => ⟨xs.length - (i + 1), by omega, hlt, rfl, q⟩, fun v H2 hy => ?_⟩
          obtain ⟨rfl, rv⟩ := g2 v H2 hy
          have rv' : VR X.K ρ' F' v xs[i] := by
            obtain ⟨new, rfl⟩ := hpre
            have := rv.up hex
            revert this
            cases xs[i] with
            | d y => exact fun h => h
            | o n => exact fun ⟨a, e, h⟩ => ⟨a, e, by rw [List.getElem?_append_left (List.getElem?_eq_some_iff.mp h).1]; exact h⟩
          unfold forL at hf
          split at hf
          · cases hf
          · rename_i env1 hg1
            refine ⟨ρ', F', env', xs[i], env1, I'.ex, R', rv', hg1, fun σ3 R3 _ => ?_⟩
            have next : ∀ env2 st2, forL g cb (xs.drop (i + 1)) env2 st2 = some o → ∀ σ4 ρ4 F4 H4, Tr ρ' F' H2 ρ4 F4 H4 → Im X.K P ρ4 F4 H4 st2 → EnvR X.K ρ4 F4 σ4 env2 →
                ∃ ρ2 F2 st2 env2, Evl.Ex F1 F2 ∧ (∃ new, ρ2 = ρ1 ++ new) ∧ Im X.K P ρ2 F2 H4 st2 ∧ EnvR X.K ρ2 F2 σ4 env2 ∧ forL g cb (xs.drop (i + 1)) env2 st2 = some o ∧ PostS X.K P ρ2 F2 H4 D E o := by
              intro env2 st2 hf2 σ4 ρ4 F4 H4 t4 I4 R4
              refine ⟨ρ4, F4, st2, env2, hex.trans t4.exF, ?_, I4, R4, hf2, p'.mono t4⟩
              obtain ⟨n1, e1⟩ := hpre
              obtain ⟨n2, e2⟩ := t4.pre
              exact ⟨n1 ++ n2, by rw [e2, e1, List.append_assoc]⟩
            split at hf
            · cases hf
            · rename_i env2 st2 hb2
              exact ⟨ρ', F', st', env1, _, I', R3, hb2, fun σ4 ρ4 F4 H4 t4 I4 R4 => next _ _ hf _ _ _ _ t4 I4 R4⟩
            · rename_i env2 st2 hb2
              exact ⟨ρ', F', st', env1, _, I', R3, hb2, fun σ4 ρ4 F4 H4 t4 I4 R4 => next _ _ hf _ _ _ _ t4 I4 R4⟩
            · rename_i env2 st2 hb2
              cases hf
              exact ⟨ρ', F', st', env1, _, I', R3, hb2, p'⟩
            · rename_i r st2 hb2
              cases hf
              exact ⟨ρ', F', st', env1, _, I', R3, hb2, p'⟩
            · rename_i c fs st2 hb2
              cases hf
              exact ⟨ρ', F', st', env1, _, I', R3, hb2, p'⟩
        · have e : i = xs.length := by omega
          subst e
          refine .inl ⟨hJ.2 H' (hex.trans I'.ex), ?_⟩
          rw [List.drop_of_length_le (Nat.le_refl _)] at hf
          cases hf
          exact p' _ ρ' F' H' (Tr.refl ..) I' R'
theorem s_while (n : Nat) (hp : PassesOwn (model X.prog X.w) X.A X.env X.xe) (ht : PT X c (rdT X.K P E ct)) (hb : PSs X body (rdS X.K P E cb)) : PS X (.While c body [] pos) (rdS X.K P E (sWhile n ct cb)) :=
  ps_weak (ps_while hp ht hb) fun D σ H ⟨ρ, F, st, env, o, I, R, h, p⟩ => by
    refine ⟨fun m σ' H' => ∃ ρ' F' st' env', Im X.K P ρ' F' H' st' ∧ EnvR X.K ρ' F' σ' env' ∧ whileL ct cb m env' st' = some o ∧ PostS X.K P ρ' F' H' D E o, ⟨n, ρ, F, st, env, I, R, h, p⟩, ?_⟩
    rintro m σ' H' ⟨ρ', F', st', env', I', R', hw, p'⟩
    cases m with
    | zero => cases hw
    | succ m =>
      refine rdT_bindS (k := fun b st1 => if b then match cb env' st1 with
        | none => none
        | some (.nx env2 st2) => whileL ct cb m env2 st2
        | some (.ct env2 st2) => whileL ct cb m env2 st2
        | some (.bk env2 st2) => some (.nx env2 st2)
        | some (.rt r st2) => some (.rt r st2)
        | some (.ex c fs st2) => some (.ex c fs st2)
        else some (.nx env' st1)) I' R' hw p' fun ρ1 F1 H1 b st1 t1 I1 R1 h1 p1 => ?_
      cases b with
      | false =>
        cases h1
        exact p1 _ ρ1 F1 H1 (Tr.refl ..) I1 R1
      | true =>
        refine ⟨fun σ2 H2 => ∃ ρ2 F2 st2 env2, Im X.K P ρ2 F2 H2 st2 ∧ EnvR X.K ρ2 F2 σ2 env2 ∧ whileL ct cb m env2 st2 = some o ∧ PostS X.K P ρ2 F2 H2 D E o, fun σ2 H2 q => ⟨m, Nat.lt_succ_self m, q⟩, ?_⟩
        simp only [if_true] at h1
        split at h1
        · cases h1
        · rename_i env2 st2 hb2
          exact ⟨ρ1, F1, st1, env', _, I1, R1, hb2, fun σ4 ρ4 F4 H4 t4 I4 R4 => ⟨ρ4, F4, st2, env2, I4, R4, h1, p1.mono t4⟩⟩
        · rename_i env2 st2 hb2
          exact ⟨ρ1, F1, st1, env', _, I1, R1, hb2, fun σ4 ρ4 F4 H4 t4 I4 R4 => ⟨ρ4, F4, st2, env2, I4, R4, h1, p1.mono t4⟩⟩
        · rename_i env2 st2 hb2
          cases h1
          exact ⟨ρ1, F1, st1, env', _, I1, R1, hb2, p1⟩
        · rename_i r st2 hb2
          cases h1
          exact ⟨ρ1, F1, st1, env', _, I1, R1, hb2, p1⟩
        · rename_i c fs st2 hb2
          cases h1
          exact ⟨ρ1, F1, st1, env', _, I1, R1, hb2, p1⟩
end
end Sl
set_option Elab.async false
set_option linter.all false
set_option autoImplicit false
set_option maxRecDepth 100000
set_option maxHeartbeats 4000000
namespace Sl
open PySem PySem.Spec PyProof.Rows L2

/-! ### comprehensions -/
def wipeE (env : Env) : List Nat → Env
  | [] => env
  | v :: vs => (wipeE env vs).set v none
def compL (g : Tg) (t e : SE) (env : Env) : List VL → List VL → Sto → Option (List VL × Sto)
  | [], acc, st => some (acc, st)
  | x :: xs, acc, st => match g x env with
    | none => none
    | some env1 => match t env1 st with
      | some (.ok (.d (.bool true)) st1) => match e env1 st1 with
        | some (.ok y st2) => if acc.length < sizeLine then compL g t e env xs (acc ++ [y]) st2 else none
        | _ => none
      | some (.ok (.d (.bool false)) st1) => compL g t e env xs acc st1
      | _ => none
def eComp (mk : Mk) (it : SI) (g : Tg) (t e : SE) (vs : List Nat) : SE := fun env st => match it env st with
  | none => none
  | some (.ex c fs st1) => some (.ex c fs st1)
  | some (.ok xs st1) => (compL g t e (wipeE env vs) xs [] st1).bind fun z => (mk z.1 z.2).map fun z => .ok z.1 z.2
section
variable {K : Kf} {P : Par}
theorem wipe_env {ρ : List Addr} {F : Hp} {σ : L2.St} {env : Env} (R : EnvR K ρ F σ env) : ∀ vs : List Nat, EnvR K ρ F (wipe σ vs) (wipeE env vs)
  | [] => R
  | v :: vs => by
    have ih := wipe_env R vs
    refine ⟨by show ((wipeE env vs).set v none).length = ((wipe σ vs).set v none).length; rw [List.length_set, List.length_set]; exact ih.len, fun i x h => ?_⟩
    have h' : ((wipeE env vs).set v none)[i]? = some (some x) := h
    show ∃ w, ((wipe σ vs).set v none)[i]? = some (some w) ∧ _
    by_cases e : v = i
    · subst e
      by_cases hl : v < (wipeE env vs).length
      · rw [List.getElem?_set_self hl] at h'
        cases h'
      · rw [List.getElem?_eq_none (by rw [List.length_set]; omega)] at h'
        cases h'
    · rw [List.getElem?_set_ne e] at h' ⊢
      exact ih.at_ i x h'
theorem wipe_get {σ : L2.St} {i : Nat} : ∀ {vs : List Nat}, i ∈ vs → i < σ.length → (wipe σ vs)[i]? = some none
  | v :: vs, h, hl => by
    show ((wipe σ vs).set v none)[i]? = some none
    by_cases e : v = i
    · subst e
      exact List.getElem?_set_self (by rw [wipe_length]; exact hl)
    · rw [List.getElem?_set_ne e]
      rcases List.mem_cons.mp h with h | h
      · exact absurd h.symm e
      · exact wipe_get h hl
theorem wipe_far {σ : L2.St} {i : Nat} : ∀ {vs : List Nat}, i ∉ vs → (wipe σ vs)[i]? = σ[i]?
  | [], _ => rfl
  | v :: vs, h => by
    show ((wipe σ vs).set v none)[i]? = _
    rw [List.getElem?_set_ne fun e => h (by rw [e]; exact List.mem_cons_self)]
    exact wipe_far fun h' => h (List.mem_cons_of_mem _ h')
theorem wipe_off {σ σ2 : L2.St} {T vs : List Nat} (hT : ∀ i, i ∈ T → i ∈ vs) (O : Off T (wipe σ vs) σ2) : wipe σ2 vs = wipe σ vs := by
  refine List.ext_getElem? fun i => ?_
  by_cases hi : i ∈ vs
  · by_cases hl : i < σ.length
    · rw [wipe_get hi hl, wipe_get hi (by rw [O.1, wipe_length]; exact hl)]
    · rw [List.getElem?_eq_none (by rw [wipe_length, O.1, wipe_length]; omega), List.getElem?_eq_none (by rw [wipe_length]; omega)]
  · rw [wipe_far hi, O.2 i fun h => hi (hT i h)]
theorem Im.poke {ρ0 ρ : List Addr} {F0 H0 F H : Hp} {st : Sto} (T : Tr ρ0 F0 H0 ρ F H) (I : Im K P ρ F H st) {D : Addr} (h0 : H0 D = none) (hr : D ∉ ρ) (hF : F D = none) (o : HO) : Tr ρ0 F0 H0 ρ F (upd H D o) ∧ Im K P ρ F (upd H D o) st := by
  refine ⟨⟨T.pre, T.fresh, T.exF, fun b u h hn => ?_, fun b h => ?_, T.newF⟩, ⟨I.len, I.nd, fun b u h => ?_, fun a h => ?_, fun i a b h1 h2 => ?_⟩⟩
  · rw [upd_ne fun e => by rw [e, h0] at h; cases h]
    exact T.keep b u h hn
  · by_cases e : b = D
    · rw [e, upd_same]
      exact fun z => nomatch z
    · rw [upd_ne e]
      exact T.stay b h
  · rw [upd_ne fun e => by rw [e, hF] at h; cases h]
    exact I.ex b u h
  · rw [upd_ne fun e => hr (by rw [← e]; exact h)]
    exact I.dom a h
  · exact ObR.up (Evl.Ex.refl F) (fun h => h) (upd_ne fun e => hr (by rw [← e]; exact List.mem_of_getElem? h1)) (I.ob i a b h1 h2)
end
section
variable {X : Cx} {P : Par} {E E' : XK}
theorem ts_nil : PTs X [] (rdT X.K P E (eC (.bool true))) := ⟨fun pins s σ H Q I ⟨ρ, F, st, env, o, I', R, h, p⟩ => by
  cases h
  obtain ⟨b, e, q⟩ := p
  cases e
  exact pts_nil.run pins s σ H Q I (q ρ F H (Tr.refl ..) I')⟩
theorem ts_one {c : Expr} {cc : SE} (h : PT X c (rdT X.K P E cc)) : PTs X [c] (rdT X.K P E cc) := pts_one h
theorem comp_rd {K : Kf} {mk : Mk} (hm : MkOk K mk) {it : SI} {T : List Nat} {g : Tg} {t e : SE} {vs : List Nat} (hT : ∀ i, i ∈ T → i ∈ vs) {σ : L2.St} {H : Hp} {Q : VK} (h : rdE K P E (eComp mk it g t e vs) σ H Q) :
    tLc (rdI K P E it) (rdG K T g) (rdT K P E' t) (rdE K P E' e) vs σ H Q := by
  obtain ⟨ρ, F, st, env, o, I, R, h, p⟩ := h
  unfold eComp at h
  cases hc : it env st with
  | none => rw [hc] at h; cases h
  | some o1 =>
    rw [hc] at h
    refine ⟨ρ, F, st, env, o1, I, R, hc, ?_⟩
    cases o1 with
    | ex c fs st1 =>
      cases h
      exact p
    | ok xs st1 =>
      intro J ρ1 F1 H1 t1 I1 hJ D hD
      obtain ⟨z, hz, h2⟩ := Option.bind_eq_some_iff.mp (show (compL g t e (wipeE env vs) xs [] st1).bind _ = some o from h)
      obtain ⟨w, hw, hk⟩ := Option.map_eq_some_iff.mp h2
      subst hk
      have R1 := R.mono t1
      have p1 := p.mono t1
      have hF1 : F1 D = none := by
        cases q : F1 D with
        | none => rfl
        | some u =>
          rw [I1.ex D u q] at hD
          cases hD
      have hr1 : D ∉ ρ1 := fun hm => I1.dom D hm hD
      obtain ⟨T0, I0⟩ := junk I1 hD (.lst [])
      have step : ∀ {ρ' F' H' ρ'' F'' H''} {o : HO}, Tr ρ' F' H' ρ'' F'' H'' → H' D = some o → D ∉ ρ' → F' D = none → H'' D = some o ∧ D ∉ ρ'' ∧ F'' D = none := by
        intro ρ' F' H' ρ'' F'' H'' o T' hD' hr' hF'
        refine ⟨T'.keep D o hD' hr', fun h => ?_, ?_⟩
        · rcases T'.fresh D h with h | h
          · exact hr' h
          · rw [hD'] at h
            cases h
        · cases q : F'' D with
          | none => rfl
          | some u =>
            rcases T'.newF D (by rw [q]; exact fun z => nomatch z) with h | h | h
            · exact absurd hF' h
            · rw [hD'] at h
              cases h
            · exact absurd h hr'
      refine ⟨fun i m H' => i ≤ xs.length ∧ m = xs.length - i ∧ ∃ ρ' F' st' accV acc, Tr ρ1 F1 H1 ρ' F' H' ∧ Im K P ρ' F' H' st' ∧ H' D = some (.lst accV) ∧ D ∉ ρ' ∧ F' D = none ∧ VRs K ρ' F' accV acc ∧ compL g t e (wipeE env vs) (xs.drop i) acc st' = some z,
        ⟨xs.length, Nat.zero_le _, rfl, ρ1, F1, st1, [], [], T0, I0, upd_same, hr1, hF1, .nil, hz⟩, ?_⟩
      rintro i m H' ⟨hi, rfl, ρ', F', st', accV, acc, T', I', k1, k2, k3, k4, k5⟩
      by_cases hlt : i < xs.length
      · obtain ⟨g1, g2⟩ := hJ.1 i xs[i] (List.getElem?_eq_getElem hlt) H' (T'.exF.trans I'.ex)
        rw [List.drop_eq_getElem_cons hlt] at k5
        refine .inr ⟨g1, fun H2 => ∃ ρ' F' st' accV acc, Tr ρ1 F1 H1 ρ' F' H2 ∧ Im K P ρ' F' H2 st' ∧ H2 D = some (.lst accV) ∧ D ∉ ρ' ∧ F' D = none ∧ VRs K ρ' F' accV acc ∧ compL g t e (wipeE env vs) (xs.drop (i + 1)) acc st' = some z,
          fun H2 q => ⟨xs.length - (i + 1), by omega, hlt, rfl, q⟩, fun v H2 hy => ?_⟩
        obtain ⟨rfl, rv⟩ := g2 v H2 hy
        have rv' : VR K ρ' F' v xs[i] := rv.mono T'
        unfold compL at k5
        split at k5
        · cases k5
        · rename_i env1 hg1
          refine ⟨ρ', F', wipeE env vs, xs[i], env1, I'.ex, wipe_env (R1.mono T') vs, rv', hg1, fun σ2 R2 O2 => ⟨wipe_off hT O2, ?_⟩⟩
          split at k5
          · rename_i st2 ht
            refine ⟨ρ', F', st', env1, _, I', R2, ht, true, rfl, fun ρ3 F3 H3 t3 I3 => ?_⟩
            split at k5
            · rename_i y st3 he
              refine ⟨ρ3, F3, st2, env1, _, I3, R2.mono t3, he, fun u ρ4 F4 H4 t4 I4 ru => ?_⟩
              split at k5
              · rename_i hz2
                obtain ⟨a1, a2, a3⟩ := step (t3.trans t4) k1 k2 k3
                have rA : VRs K ρ4 F4 accV acc := k4.mono (t3.trans t4)
                refine ⟨accV, a1, by rw [paired_len rA]; exact hz2, ?_⟩
                obtain ⟨T5, I5⟩ := Im.poke ((T'.trans t3).trans t4) I4 hD a2 a3 (.lst (accV ++ [u]))
                exact ⟨ρ4, F4, st3, accV ++ [u], acc ++ [y], T5, I5, upd_same, a2, a3, paired_append rA (.cons ru .nil), k5⟩
              · cases k5
            · cases k5
          · rename_i st2 ht
            refine ⟨ρ', F', st', env1, _, I', R2, ht, false, rfl, fun ρ3 F3 H3 t3 I3 => ?_⟩
            obtain ⟨a1, a2, a3⟩ := step t3 k1 k2 k3
            exact ⟨ρ3, F3, st2, accV, acc, T'.trans t3, I3, a1, a2, a3, k4.mono t3, k5⟩
          · cases k5
      · have e : i = xs.length := by omega
        subst e
        refine .inl ⟨hJ.2 H' (T'.exF.trans I'.ex), ?_⟩
        rw [List.drop_of_length_le (Nat.le_refl _)] at k5
        cases k5
        obtain ⟨ρ9, F9, T9, I9, r9⟩ := hm.fin T' I' hD k1 k2 k3 k4 hw
        exact p1 _ ρ9 F9 H' T9 I9 r9
variable {elt tg iter : Expr} {ifs : List Expr} {scope : Scope} {own : List (Str × Nat)} {pos : Pos} {T : List Nat} {it : SI} {g : Tg} {ct ce : SE} {mk : Mk}
theorem e_comp (hm : MkOk X.K mk) (hc : X.calm = true) (hN : X.N.Nodup) (hi : PI X tg iter (rdI X.K P E it)) (ok : BlkOk X.N X.env.scope scope own)
    (hg : ∀ (s : Shared) (H : Hp) (C : Addr) (cl : List (Str × Addr)) (fp : List Addr), PG (X.blk s H scope (compEnvC scope cl C X.env) fp) tg (rdG X.K T g)) (ht : ∀ (s : Shared) (H : Hp) (C : Addr) (cl : List (Str × Addr)) (fp : List Addr), PTs (X.blk s H scope (compEnvC scope cl C X.env) fp) ifs (rdT X.K P E' ct))
    (he : ∀ (s : Shared) (H : Hp) (C : Addr) (cl : List (Str × Addr)) (fp : List Addr), PE (X.blk s H scope (compEnvC scope cl C X.env) fp) elt (rdE X.K P E' ce)) (hT : ∀ i, i ∈ T → i ∈ own.map (·.2) := by decide) (hs : ∀ x, foldedSetIterable iter X.env x = pure x := by intro _; rfl) :
    PE X (.ListComp elt [⟨tg, iter, ifs, 0⟩] scope pos) (rdE X.K P E (eComp mk it g ct ce (own.map (·.2)))) := pe_weak (pe_lc hc hN hi ok hg ht he hs) fun σ H Q h => comp_rd hm hT h
theorem s_comp {i : Nat} {y : Str} {py spos : Pos} (hm : MkOk X.K mk) (hc : X.calm = true) (hN : X.N.Nodup) (hy : X.N[i]? = some y) (hyl : X.env.scope.names.lookup y = some .local)
    (hsw : swapsWith (.ListComp elt [⟨tg, iter, ifs, 0⟩] scope pos) (some (.Name y py)) spos.line X.env = pure true) (hi : PI X tg iter (rdI X.K P E it)) (ok : BlkOk X.N X.env.scope scope own)
    (hg : ∀ (s : Shared) (H : Hp) (C : Addr) (cl : List (Str × Addr)) (fp : List Addr), PG (X.blk s H scope (compEnvC scope cl C X.env) fp) tg (rdG X.K T g)) (ht : ∀ (s : Shared) (H : Hp) (C : Addr) (cl : List (Str × Addr)) (fp : List Addr), PTs (X.blk s H scope (compEnvC scope cl C X.env) fp) ifs (rdT X.K P E' ct))
    (he : ∀ (s : Shared) (H : Hp) (C : Addr) (cl : List (Str × Addr)) (fp : List Addr), PE (X.blk s H scope (compEnvC scope cl C X.env) fp) elt (rdE X.K P E' ce)) (hT : ∀ i, i ∈ T → i ∈ own.map (·.2) := by decide) (hs : ∀ x, foldedSetIterable iter X.env x = pure x := by intro _; rfl) :
    PS X (.Assign [.Name y py] (.ListComp elt [⟨tg, iter, ifs, 0⟩] scope pos) spos) (rdS X.K P E (sAsg (eComp mk it g ct ce (own.map (·.2))) (gN i))) :=
  ps_weak (ps_setLc hc hN hy hyl hsw hi ok hg ht he hs) fun D σ H ⟨ρ, F, st, env, o, I, R, h, p⟩ => by
    refine comp_rd hm hT ?_
    refine rdE_bindS I R h p fun v ρ1 F1 H1 x st1 t1 I1 R1 r1 h1 p1 => ?_
    obtain ⟨env1, k1, k2⟩ := Option.map_eq_some_iff.mp h1
    cases k2
    cases k1
    exact p1 _ ρ1 F1 H1 (Tr.refl ..) I1 (R1.set r1)
end
/-! ### data from an object, objects forgotten -/
def frz (st : Sto) (x : VL) : Option (PyData × Sto) := match x with
  | .d y => some (y, st)
  | .o n => match st[n]? with
    | some (.fr y) => some (y, st)
    | some (.lst xs) => (allD xs).map fun ds => (.list ds, st.set n (.fr (.list ds)))
    | _ => none
def eFrz (c : SE) : SE := fun env st => obind (c env st) fun x st1 => (frz st1 x).map fun z => .ok (.d z.1) z.2
section
variable {K : Kf} {P : Par} {ρ : List Addr} {F H : Hp} {st : Sto}
theorem frz_ok (I : Im K P ρ F H st) {v : V} {x : VL} {y : PyData} {st' : Sto} (r : VR K ρ F v x) (h : frz st x = some (y, st')) : ∃ F', Tr ρ F H ρ F' H ∧ Im K P ρ F' H st' ∧ Dq K F' v y := by
  cases x with
  | d z =>
    cases h
    exact ⟨F, Tr.refl .., I, r⟩
  | o n =>
    unfold frz at h
    cases hs : st[n]? with
    | none => simp [hs] at h
    | some ob =>
      obtain ⟨a, rfl, ha, hb⟩ := I.at_ r hs
      cases ob with
      | fr z =>
        simp only [hs, Option.some.injEq, Prod.mk.injEq] at h
        obtain ⟨rfl, rfl⟩ := h
        exact ⟨F, Tr.refl .., I, hb⟩
      | lst xs =>
        simp only [hs] at h
        obtain ⟨ds, h1, h2⟩ := Option.map_eq_some_iff.mp h
        cases h2
        obtain ⟨hF, vs, hH, hv⟩ := hb
        have hm : a ∈ ρ := List.mem_of_getElem? ha
        have e1 : Evl.Ex F (upd F a (.lst vs)) := Evl.Ex.new hF
        have hq : Dq K (upd F a (.lst vs)) (.ref a) (.list ds) := .lst (SqL.of upd_same) (dqa_mono e1 (dqa_of hv h1))
        refine ⟨upd F a (.lst vs), ⟨⟨[], (List.append_nil _).symm⟩, fun _ h => .inl h, e1, fun _ _ h _ => h, fun _ h => h, fun b h => ?_⟩, ⟨by simp [I.len], I.nd, ex_new I.ex hH, I.dom, fun i c d h3 h4 => ?_⟩, hq⟩
        · by_cases e : b = a
          · rw [e]
            exact .inr (.inr hm)
          · rw [upd_ne e] at h
            exact .inl h
        · by_cases hi : n = i
          · subst hi
            rw [ha] at h3
            cases h3
            rw [List.getElem?_set_self (by rw [← I.len]; exact (List.getElem?_eq_some_iff.mp ha).1)] at h4
            cases h4
            exact hq
          · rw [List.getElem?_set_ne hi] at h4
            refine ObR.up e1 (fun h => ?_) rfl (I.ob i c d h3 h4)
            rw [upd_ne fun e => ?_]
            · exact h
            · subst e
              obtain ⟨l1, q1⟩ := List.getElem?_eq_some_iff.mp ha
              obtain ⟨l2, q2⟩ := List.getElem?_eq_some_iff.mp h3
              exact hi ((List.getElem_inj I.nd).mp (q1.trans q2.symm))
      | _ => simp [hs] at h
end
def noO : VL → Bool
  | .d _ => true
  | .o _ => false
def Ob.flat : Ob → Bool
  | .lst xs => xs.all noO
  | .dk kvs => kvs.all fun p => noO p.2
  | .dt kvs => kvs.all fun p => noO p.2
  | .ins _ fs => fs.all fun p => noO p.2
  | .fr _ => true
  | .ex _ _ => true
/-- the older objects are as they were, or hold data alone -/
def cutOk (st st' : Sto) : Prop := st.length ≤ st'.length ∧ ∀ i, i < st.length → st'[i]? = st[i]? ∨ ∃ b, st'[i]? = some b ∧ b.flat = true
def cutV (n : Nat) : Option VL → Option VL
  | some (.o m) => if m < n then some (.o m) else none
  | x => x
def cutE (n : Nat) (env : Env) : Env := env.map (cutV n)
open Classical in
noncomputable def cutO (st : Sto) (o : Option Out) : Option Out := match o with
  | some (.ok (.d x) st') => if cutOk st st' then some (.ok (.d x) (st'.take st.length)) else none
  | o => o
open Classical in
noncomputable def cutF (st : Sto) (o : Option Fl) : Option Fl := match o with
  | some (.nx env st') => if cutOk st st' then some (.nx (cutE st.length env) (st'.take st.length)) else none
  | some (.ct env st') => if cutOk st st' then some (.ct (cutE st.length env) (st'.take st.length)) else none
  | some (.bk env st') => if cutOk st st' then some (.bk (cutE st.length env) (st'.take st.length)) else none
  | some (.rt (.d x) st') => if cutOk st st' then some (.rt (.d x) (st'.take st.length)) else none
  | o => o
noncomputable def eCut (c : SE) : SE := fun env st => cutO st (c env st)
noncomputable def sCut (c : SS) : SS := fun env st => cutF st (c env st)
noncomputable def fCut (m : Fn) : Fn := fun xs st => cutO st (m xs st)
section
variable {K : Kf} {P : Par} {ρ ρ' : List Addr} {F F' H H' : Hp} {st st' : Sto}
theorem vr_less {v w : V} {x : VL} (a : VR K ρ F v x) (b : VR K ρ' F' w x) (pre : ∃ new, ρ' = ρ ++ new) : VR K ρ F' w x := by
  cases x with
  | d y => exact b
  | o n =>
    obtain ⟨c, rfl, h1⟩ := a
    obtain ⟨d, rfl, h2⟩ := b
    obtain ⟨new, rfl⟩ := pre
    refine ⟨d, rfl, ?_⟩
    rw [List.getElem?_append_left (List.getElem?_eq_some_iff.mp h1).1] at h2
    exact h2
theorem vrs_less (pre : ∃ new, ρ' = ρ ++ new) : ∀ {vs ws : List V} {xs : List VL}, VRs K ρ F vs xs → VRs K ρ' F' ws xs → VRs K ρ F' ws xs
  | _, _, _, .nil, .nil => .nil
  | _, _, _, .cons a s, .cons b t => .cons (vr_less a b pre) (vrs_less pre s t)
theorem kvr_less {κ : Type} (pre : ∃ new, ρ' = ρ ++ new) : ∀ {vs ws : List (κ × V)} {xs : List (κ × VL)}, KVR K ρ F vs xs → KVR K ρ' F' ws xs → KVR K ρ F' ws xs
  | _, _, _, .nil, .nil => .nil
  | _, _, _, .cons a s, .cons b t => .cons ⟨b.1, vr_less a.2 b.2 pre⟩ (kvr_less pre s t)
theorem vr_flat {v : V} {x : VL} (h : noO x = true) (b : VR K ρ' F' v x) : VR K ρ F' v x := by
  cases x with
  | d y => exact b
  | o n => cases h
theorem vrs_flat : ∀ {ws : List V} {xs : List VL}, xs.all noO = true → VRs K ρ' F' ws xs → VRs K ρ F' ws xs
  | _, _, _, .nil => .nil
  | _, _, h, .cons b t => by
    rw [List.all_cons, Bool.and_eq_true] at h
    exact .cons (vr_flat h.1 b) (vrs_flat h.2 t)
theorem kvr_flat {κ : Type} : ∀ {ws : List (κ × V)} {xs : List (κ × VL)}, (xs.all fun p => noO p.2) = true → KVR K ρ' F' ws xs → KVR K ρ F' ws xs
  | _, _, _, .nil => .nil
  | _, _, h, .cons b t => by
    rw [List.all_cons, Bool.and_eq_true] at h
    exact .cons ⟨b.1, vr_flat h.1 b.2⟩ (kvr_flat h.2 t)
theorem Im.cut (I : Im K P ρ F H st) (T : Tr ρ F H ρ' F' H') (I' : Im K P ρ' F' H' st') (c : cutOk st st') : Tr ρ F H ρ F' H' ∧ Im K P ρ F' H' (st'.take st.length) := by
  obtain ⟨new, hn⟩ := T.pre
  have hl : (st'.take st.length).length = st.length := by rw [List.length_take]; exact Nat.min_eq_left c.1
  refine ⟨⟨⟨[], (List.append_nil _).symm⟩, fun _ h => .inl h, T.exF, T.keep, T.stay, T.newF⟩, ⟨by rw [hl]; exact I.len, I.nd, I'.ex, fun a h => T.stay a (I.dom a h), fun i a b h1 h2 => ?_⟩⟩
  have hi : i < st.length := by rw [← I.len]; exact (List.getElem?_eq_some_iff.mp h1).1
  rw [List.getElem?_take_of_lt hi] at h2
  have h1' : ρ'[i]? = some a := T.get h1
  have o' := I'.ob i a b h1' h2
  rcases c.2 i hi with e | ⟨b', e, fl⟩
  · rw [h2] at e
    have o := I.ob i a b h1 e.symm
    cases b with
    | fr x => exact o'
    | ex c fs => exact o'
    | lst xs =>
      obtain ⟨_, vs, _, h5⟩ := o
      obtain ⟨h6, ws, h7, h8⟩ := o'
      exact ⟨h6, ws, h7, vrs_less T.pre h5 h8⟩
    | dk xs =>
      obtain ⟨_, vs, _, h5⟩ := o
      obtain ⟨h6, ws, h7, h8⟩ := o'
      exact ⟨h6, ws, h7, kvr_less T.pre h5 h8⟩
    | dt xs =>
      obtain ⟨_, vs, _, h5⟩ := o
      obtain ⟨h6, ws, h7, h8⟩ := o'
      exact ⟨h6, ws, h7, kvr_less T.pre h5 h8⟩
    | ins c xs =>
      obtain ⟨_, _, vs, _, h5⟩ := o
      obtain ⟨h6, dx, ws, h7, h8⟩ := o'
      exact ⟨h6, dx, ws, h7, kvr_less T.pre h5 h8⟩
  · rw [h2] at e
    cases e
    cases b with
    | fr x => exact o'
    | ex c fs => exact o'
    | lst xs =>
      obtain ⟨h6, ws, h7, h8⟩ := o'
      exact ⟨h6, ws, h7, vrs_flat fl h8⟩
    | dk xs =>
      obtain ⟨h6, ws, h7, h8⟩ := o'
      exact ⟨h6, ws, h7, kvr_flat fl h8⟩
    | dt xs =>
      obtain ⟨h6, ws, h7, h8⟩ := o'
      exact ⟨h6, ws, h7, kvr_flat fl h8⟩
    | ins c xs =>
      obtain ⟨h6, dx, ws, h7, h8⟩ := o'
      exact ⟨h6, dx, ws, h7, kvr_flat fl h8⟩
theorem EnvR.cut {σ : L2.St} {env : Env} {n : Nat} (hn : ρ.length = n) (R : EnvR K ρ' F' σ env) (pre : ∃ new, ρ' = ρ ++ new) : EnvR K ρ F' σ (cutE n env) := by
  refine ⟨by unfold cutE; rw [List.length_map]; exact R.len, fun i x h => ?_⟩
  unfold cutE at h
  rw [List.getElem?_map] at h
  obtain ⟨y, h1, h2⟩ := Option.map_eq_some_iff.mp h
  cases y with
  | none => cases h2
  | some y =>
    cases y with
    | d z =>
      cases h2
      obtain ⟨v, h3, h4⟩ := R.at_ i _ h1
      exact ⟨v, h3, h4⟩
    | o m =>
      have h2' : (if m < n then some (VL.o m) else none) = some x := h2
      split at h2'
      · rename_i hm
        cases h2'
        obtain ⟨v, h3, a, rfl, h4⟩ := R.at_ i _ h1
        obtain ⟨new, rfl⟩ := pre
        rw [List.getElem?_append_left (by omega)] at h4
        exact ⟨_, h3, a, rfl, h4⟩
      · cases h2'
theorem cut_post {Q : VK} {E : XK} {c : Option Out} {o : Out} (I : Im K P ρ F H st) (h : cutO st c = some o) (p : Post K P ρ F H Q E o) : ∃ o', c = some o' ∧ Post K P ρ F H Q E o' := by
  unfold cutO at h
  split at h
  · rename_i x st'
    split at h
    · rename_i hc
      cases h
      refine ⟨_, rfl, fun v ρ1 F1 H1 t1 I1 r1 => ?_⟩
      obtain ⟨T, I2⟩ := I.cut t1 I1 hc
      exact p v ρ F1 H1 T I2 r1
    · cases h
  · exact ⟨o, h, p⟩
end
section
variable {X : Cx} {P : Par} {E : XK} {e : Expr} {ce : SE} {s : Stmt} {ss : List Stmt} {cs : SS}
theorem e_frz (he : PE X e (rdE X.K P E ce)) : PE X e (rdE X.K P E (eFrz ce)) := pe_weak he fun σ H Q ⟨ρ, F, st, env, o, I, R, h, p⟩ => by
  refine rdE_bind I R h p fun v ρ1 F1 H1 x st1 t1 I1 R1 r1 h1 p1 => ?_
  obtain ⟨⟨y, st2⟩, h2, h3⟩ := Option.map_eq_some_iff.mp h1
  subst h3
  obtain ⟨F2, T, I2, r2⟩ := frz_ok I1 r1 h2
  exact p1 _ ρ1 F2 H1 T I2 r2
theorem e_cut (he : PE X e (rdE X.K P E ce)) : PE X e (rdE X.K P E (eCut ce)) := pe_weak he fun σ H Q ⟨ρ, F, st, env, o, I, R, h, p⟩ => by
  obtain ⟨o', h1, p1⟩ := cut_post I h p
  exact ⟨ρ, F, st, env, o', I, R, h1, p1⟩
theorem cutS_rd {K : Kf} {D : Ends} {σ : L2.St} {H : Hp} (h : rdS K P E (sCut cs) D σ H) : rdS K P E cs D σ H := by
  obtain ⟨ρ, F, st, env, o, I, R, h, p⟩ := h
  have h' : cutF st (cs env st) = some o := h
  unfold cutF at h'
  split at h'
  · rename_i env1 st1 hc
    split at h'
    · rename_i ok
      cases h'
      refine ⟨ρ, F, st, env, _, I, R, hc, fun σ' ρ1 F1 H1 t1 I1 R1 => ?_⟩
      obtain ⟨T, I2⟩ := I.cut t1 I1 ok
      exact p σ' ρ F1 H1 T I2 (R1.cut I.len t1.pre)
    · cases h'
  · rename_i env1 st1 hc
    split at h'
    · rename_i ok
      cases h'
      refine ⟨ρ, F, st, env, _, I, R, hc, fun σ' ρ1 F1 H1 t1 I1 R1 => ?_⟩
      obtain ⟨T, I2⟩ := I.cut t1 I1 ok
      exact p σ' ρ F1 H1 T I2 (R1.cut I.len t1.pre)
    · cases h'
  · rename_i env1 st1 hc
    split at h'
    · rename_i ok
      cases h'
      refine ⟨ρ, F, st, env, _, I, R, hc, fun σ' ρ1 F1 H1 t1 I1 R1 => ?_⟩
      obtain ⟨T, I2⟩ := I.cut t1 I1 ok
      exact p σ' ρ F1 H1 T I2 (R1.cut I.len t1.pre)
    · cases h'
  · rename_i x st1 hc
    split at h'
    · rename_i ok
      cases h'
      refine ⟨ρ, F, st, env, _, I, R, hc, fun v ρ1 F1 H1 t1 I1 r1 => ?_⟩
      obtain ⟨T, I2⟩ := I.cut t1 I1 ok
      exact p v ρ F1 H1 T I2 r1
    · cases h'
  · exact ⟨ρ, F, st, env, o, I, R, h', p⟩
theorem s_cut (hs : PS X s (rdS X.K P E cs)) : PS X s (rdS X.K P E (sCut cs)) := ps_weak hs fun _ _ _ h => cutS_rd h
theorem ss_cut (hs : PSs X ss (rdS X.K P E cs)) : PSs X ss (rdS X.K P E (sCut cs)) := pss_weak hs fun _ _ _ h => cutS_rd h
end
/-! ### a def's body -/
def fEnv (k : Nat) (xs : List VL) : Env := xs.map some ++ List.replicate (k - xs.length) none
def runFn (k : Nat) (c : SS) : Fn := fun xs st => match c (fEnv k xs) st with
  | some (.nx _ st1) => some (.ok (.d .none) st1)
  | some (.rt r st1) => some (.ok r st1)
  | some (.ex c fs st1) => some (.ex c fs st1)
  | _ => none
section
variable {K : Kf} {P : Par}
theorem env_start {ρ : List Addr} {F : Hp} {N : List Str} : ∀ {vs : List V} {xs : List VL}, VRs K ρ F vs xs → EnvR K ρ F (L2.start N vs) (fEnv N.length xs) := by
  intro vs xs h
  have hl := paired_len h
  refine ⟨by unfold fEnv L2.start; simp [hl], fun i x e => ?_⟩
  unfold fEnv at e
  unfold L2.start
  by_cases hi : i < xs.length
  · rw [List.getElem?_append_left (by rw [List.length_map]; exact hi), List.getElem?_map] at e
    obtain ⟨y, h1, h2⟩ := Option.map_eq_some_iff.mp e
    cases h2
    obtain ⟨v, h3, h4⟩ := vrs_get h h1
    refine ⟨v, ?_, h4⟩
    rw [List.getElem?_append_left (by rw [List.length_map, hl]; exact hi), List.getElem?_map, h3]
    rfl
  · rw [List.getElem?_append_right (by rw [List.length_map]; omega)] at e
    have := List.getElem?_replicate (a := (none : Option VL)) (n := N.length - xs.length) (i := i - (xs.map some).length)
    rw [this] at e
    split at e <;> cases e
theorem body_rd {n : Nat} {N : List Str} {c : SS} {vs : List V} {H : Hp} {Q : VK} {E : XK} (h : spF K P n (runFn N.length c) vs H Q E) : rdS K P E c { nx := fun _ H' => Q .non H', rt := Q } (L2.start N vs) H := by
  obtain ⟨ρ, F, st, xs, o, I, r, hn, h, p⟩ := h
  unfold runFn at h
  split at h
  · rename_i env1 st1 hc
    cases h
    exact ⟨ρ, F, st, _, _, I, env_start r, hc, fun σ' ρ1 F1 H1 t1 I1 R1 => p _ ρ1 F1 H1 t1 I1 .non⟩
  · rename_i r1 st1 hc
    cases h
    exact ⟨ρ, F, st, _, _, I, env_start r, hc, p⟩
  · rename_i c1 fs1 st1 hc
    cases h
    exact ⟨ρ, F, st, _, _, I, env_start r, hc, p⟩
  · cases h
theorem spF_len {n : Nat} {m : Fn} {vs : List V} {H : Hp} {Q : VK} {E : XK} (h : spF K P n m vs H Q E) : vs.length = n := by
  obtain ⟨ρ, F, st, xs, o, I, r, hn, _⟩ := h
  rw [paired_len r]
  exact hn
theorem spF_cut {n : Nat} {m : Fn} {vs : List V} {H : Hp} {Q : VK} {E : XK} (h : spF K P n (fCut m) vs H Q E) : spF K P n m vs H Q E := by
  obtain ⟨ρ, F, st, xs, o, I, r, hn, h, p⟩ := h
  obtain ⟨o', h1, p1⟩ := cut_post I h p
  exact ⟨ρ, F, st, xs, o', I, r, hn, h1, p1⟩
end
end Sl
set_option Elab.async false
set_option linter.all false
set_option autoImplicit false
set_option maxRecDepth 100000
set_option maxHeartbeats 4000000
namespace Sl
open PySem PySem.Spec PyProof.Rows L2

/-! ### minus, chains of comparisons, what is never reached -/
def eNeg (a : SE) : SE := fun env st => obind (a env st) fun x st1 => (asI x).map fun i => .ok (.d (.int (-i))) st1
def eChain (f g : Op2) (a b c : SE) : SE := fun env st => obind (a env st) fun x st1 => obind (b env st1) fun y st2 => match f st2 x y with
  | some (.d (.bool true), st3) => obind (c env st3) fun z st4 => (g st4 y z).map fun w => .ok w.1 w.2
  | some (.d (.bool false), st3) => some (.ok (.d (.bool false)) st3)
  | _ => none
def sNever : SS := fun _ _ => none
section
variable {X : Cx} {P : Par} {E : XK} {a b c : Expr} {ca cb cc : SE} {pos : Pos} {s : Stmt}
theorem e_neg (ha : PE X a (rdE X.K P E ca)) : PE X (.UnaryOp .USub a pos) (rdE X.K P E (eNeg ca)) := pe_weak (pe_un un_neg ha) fun σ H Q ⟨ρ, F, st, env, o, I, R, h, p⟩ => by
  refine rdE_bind I R h p fun v ρ1 F1 H1 x st1 t1 I1 R1 r1 h1 p1 => ?_
  obtain ⟨i, h2, h3⟩ := Option.map_eq_some_iff.mp h1
  subst h3
  rw [asI_eq h2] at r1
  exact ⟨i, vr_int r1, p1 _ ρ1 F1 H1 (Tr.refl ..) I1 (.int _)⟩
theorem chain_rd {K : Kf} {r r' : R2} {f g : Op2} (hf : Pr2 K r f) (hg : Pr2 K r' g) {σ : L2.St} {H : Hp} {Q : VK} (h : rdE K P E (eChain f g ca cb cc) σ H Q) : tChain r r' (rdE K P E ca) (rdE K P E cb) (rdE K P E cc) σ H Q := by
  obtain ⟨ρ, F, st, env, o, I, R, h, p⟩ := h
  refine rdE_bind I R h p fun v ρ1 F1 H1 x st1 t1 I1 R1 r1 h1 p1 => ?_
  refine rdE_bind I1 R1 h1 p1 fun w ρ2 F2 H2 y st2 t2 I2 R2 r2 h2 p2 => ?_
  split at h2
  · rename_i st3 hz
    refine hf.run I2 (r1.mono t2) r2 hz fun u ρ3 F3 H3 t3 I3 ru => ⟨true, vr_bool ru, ?_⟩
    refine rdE_bind I3 (R2.mono t3) h2 (p2.mono t3) fun u4 ρ4 F4 H4 z st4 t4 I4 R4 r4 h4 p4 => ?_
    obtain ⟨w5, hw, hk⟩ := Option.map_eq_some_iff.mp h4
    subst hk
    exact hg.run I4 ((r2.mono t3).mono t4) r4 hw p4
  · rename_i st3 hz
    cases h2
    exact hf.run I2 (r1.mono t2) r2 hz fun u ρ3 F3 H3 t3 I3 ru => ⟨false, vr_bool ru, p2 _ ρ3 F3 H3 t3 I3 (.bl _)⟩
  · cases h2
theorem e_chain {op op' : CmpOp} {r r' : R2} {f g : Op2} (ho : OpR X (compareOp op) r) (ho' : OpR X (compareOp op') r') (hf : Pr2 X.K r f) (hg : Pr2 X.K r' g) (ha : PE X a (rdE X.K P E ca)) (hb : PE X b (rdE X.K P E cb)) (hc : PE X c (rdE X.K P E cc))
    (hm : lastMarks [op, op'] [b, c] = false := by with_unfolding_all rfl) : PE X (.Compare a [op, op'] [b, c] pos) (rdE X.K P E (eChain f g ca cb cc)) := pe_weak (pe_chain ho ho' ha hb hc hm) fun _ _ _ h => chain_rd hf hg h
theorem t_chain {op op' : CmpOp} {r r' : R2} {f g : Op2} (ho : OpR X (compareOp op) r) (ho' : OpR X (compareOp op') r') (hf : Pr2 X.K r f) (hg : Pr2 X.K r' g) (ha : PE X a (rdE X.K P E ca)) (hb : PE X b (rdE X.K P E cb)) (hc : PE X c (rdE X.K P E cc))
    (hm : lastMarks [op, op'] [b, c] = false := by with_unfolding_all rfl) : PT X (.Compare a [op, op'] [b, c] pos) (rdT X.K P E (eChain f g ca cb cc)) :=
  pt_weak (pt_chain ho ho' ha hb hc hm) fun σ H Q ⟨ρ, F, st, env, o, I, R, h, p⟩ => chain_rd hf hg ⟨ρ, F, st, env, o, I, R, h, by
    cases o with
    | ex c fs st1 => exact p
    | ok r st1 =>
      obtain ⟨b, e, q⟩ := p
      subst e
      exact fun v ρ' F' H' t I' r => ⟨b, vr_bool r, q ρ' F' H' t I'⟩⟩
theorem s_never : PS X s (rdS X.K P E sNever) := ps_weak ps_never fun D σ H ⟨ρ, F, st, env, o, I, R, h, p⟩ => by cases h
/-- xs[::-1] -/
def eRev (mk : Mk) (a : SE) : SE := fun env st => obind (a env st) fun x st1 => match asSeq st1 x with
  | some (false, xs) => (mk xs.reverse st1).map fun z => .ok z.1 z.2
  | _ => none
theorem paired_rev {α β : Type} {R : α → β → Prop} : ∀ {a : List α} {b : List β}, Paired R a b → Paired R a.reverse b.reverse
  | _, _, .nil => .nil
  | _, _, .cons h t => by
    rw [List.reverse_cons, List.reverse_cons]
    exact paired_append (paired_rev t) (.cons h .nil)
theorem e_rev {mk : Mk} (hm : MkOk X.K mk) {k : Nat} {p1 p2 p3 : Pos} (ha : PE X a (rdE X.K P E ca)) : PE X (.Subscript a (.Slice none none (some (.UnaryOp .USub (.Constant (.int 1) k p1) p2)) p3) pos) (rdE X.K P E (eRev mk ca)) :=
  pe_weak (pe_revL ha) fun σ H Q ⟨ρ, F, st, env, o, I, R, h, p⟩ => by
    refine rdE_bind I R h p fun v ρ1 F1 H1 x st1 t1 I1 R1 r1 h1 p1 => ?_
    split at h1
    · rename_i xs hx
      obtain ⟨z, hz, hk⟩ := Option.map_eq_some_iff.mp h1
      subst hk
      obtain ⟨a', vs, rfl, g1, g2, g3⟩ := asSeq_ok I1 r1 hx
      refine ⟨a', vs, rfl, g1 rfl, fun p hp => ?_⟩
      obtain ⟨ρ', F', t, I', r'⟩ := hm.run I1 hp (paired_rev g3) hz
      exact p1 _ ρ' F' _ t I' r'
    · cases h1
end
/-! ### a def called with keywords (all parameters given) -/
def aApp (a b : SL) : SL := fun env st => match a env st with
  | none => none
  | some (.ex k fs st1) => some (.ex k fs st1)
  | some (.ok xs st1) => match b env st1 with
    | none => none
    | some (.ex k fs st2) => some (.ex k fs st2)
    | some (.ok ys st2) => some (.ok (xs ++ ys) st2)
section
variable {X : Cx} {P : Par} {E : XK} {x : Str} {p pos : Pos} {e : Expr} {es : List Expr} {cs ck : SL} {CX : CXT} {k n : Nat} {f : Addr} {fd : FuncData} {ps ks : List Str} {m : Fn} {kws : List Keyword} {kpos : Pos} {nm : Option Str} {ce : SE}
theorem pk_weak {t t' : TA} (h : PK X kws t) (w : ∀ σ H Q, t' σ H Q → t σ H Q) : PK X kws t' := ⟨fun po pins s σ H Q I q => h.run po pins s σ H Q I (w σ H Q q)⟩
theorem k_nil : PK X [] (rdL X.K P E aNil) := pk_weak pk_nil fun σ H Q ⟨ρ, F, st, env, o, I, R, h, p⟩ => by
  cases h
  exact p [] ρ F H (Tr.refl ..) I .nil
theorem k_cons (he : PE X e (rdE X.K P E ce)) (hs : PK X kws (rdL X.K P E cs)) : PK X (⟨nm, e, kpos⟩ :: kws) (rdL X.K P E (aCons ce cs)) :=
  pk_weak (pk_cons he hs) fun σ H Q ⟨ρ, F, st, env, o, I, R, h, p⟩ => by
    unfold aCons at h
    cases hc : ce env st with
    | none =>
      rw [hc] at h
      cases h
    | some o1 =>
      rw [hc] at h
      refine ⟨ρ, F, st, env, o1, I, R, hc, ?_⟩
      cases o1 with
      | ex k fs st1 =>
        cases h
        exact p
      | ok r st1 =>
        intro v ρ1 F1 H1 t1 I1 r1
        cases hd : cs env st1 with
        | none =>
          simp only [hd] at h
          cases h
        | some o2 =>
          simp only [hd] at h
          refine ⟨ρ1, F1, st1, env, o2, I1, R.mono t1, hd, ?_⟩
          cases o2 with
          | ex k fs st2 =>
            cases h
            exact PostX.mono t1 p
          | ok rs st2 =>
            cases h
            exact fun vs ρ2 F2 H2 t2 I2 r2 => p (v :: vs) ρ2 F2 H2 (t1.trans t2) I2 (.cons (r1.mono t2) r2)
/-- f(e, .., k = v): the keywords' values stand behind the others, in the parameters' order -/
theorem e_callN (F : FnOk X.prog X.w X.K X.mg X.base CX k f fd ps (spF X.K P (n + ks.length) m)) (hr : Room k X.A) (hg : Gl X x) (hm : X.mg x = some (.ref f)) (hk : PySem.W.keepIn X.K (.ref f) = true) (hb : KBn X.K fd ps n ks (fun us ws => us ++ ws) (fun vs zs => vs ++ zs)) (hx : Passes CX X E)
    (ha : PA X (e :: es) (rdL X.K P E cs)) (hkw : PK X kws (rdL X.K P E ck)) (hln : ∀ env st xs st1, cs env st = some (.ok xs st1) → xs.length = n) (hlk : ∀ env st xs st1, ck env st = some (.ok xs st1) → xs.length = ks.length)
    (hall : (backToKw pos (keywordEach kws X.env)).all (·.1.isSome) = true := by rfl) (hks : (backToKw pos (keywordEach kws X.env)).filterMap (·.1) = ks := by rfl)
    (hdb : (x == ("__debug__" : Str)) = false := by decide) (he : starEach (e :: es) X.env = (false, eval e X.env) :: starEach es X.env := by rfl)
    (hpl : ((backTo pos (starEach (e :: es) X.env)).any (·.1) || (backToKw pos (keywordEach kws X.env)).any (·.1.isNone)) = false := by rfl) :
    PE X (.Call (.Name x p) (e :: es) kws pos) (rdE X.K P E (eCall (nFn (n + ks.length) m) (aApp cs ck))) :=
  pe_weak (pe_callN F hr hg hm hk hb hx ha hkw hall hks hdb he hpl) fun σ H Q ⟨ρ, F, st, env, o, I, R, h, p⟩ => by
    unfold eCall aApp at h
    cases hc : cs env st with
    | none => rw [hc] at h; cases h
    | some o1 =>
      rw [hc] at h
      refine ⟨ρ, F, st, env, o1, I, R, hc, ?_⟩
      cases o1 with
      | ex k fs st1 =>
        cases h
        exact p
      | ok xs st1 =>
        intro vs ρ1 F1 H1 t1 I1 r1
        cases hd : ck env st1 with
        | none =>
          simp only [hd] at h
          cases h
        | some o2 =>
          simp only [hd] at h
          refine ⟨ρ1, F1, st1, env, o2, I1, R.mono t1, hd, ?_⟩
          cases o2 with
          | ex k fs st2 =>
            cases h
            exact PostX.mono t1 p
          | ok ys st2 =>
            have h' : nFn (n + ks.length) m (xs ++ ys) st2 = some o := h
            unfold nFn at h'
            split at h'
            · intro zs ρ2 F2 H2 t2 I2 r2
              refine ⟨(paired_len r1).trans (hln _ _ _ _ hc), (paired_len r2).trans (hlk _ _ _ _ hd), ?_⟩
              exact ⟨ρ2, F2, st2, xs ++ ys, o, I2, paired_append (r1.mono t2) r2, by assumption, h', (p.mono t1).mono t2⟩
            · cases h'
end
end Sl
set_option Elab.async false
set_option linter.all false
set_option autoImplicit false
set_option maxRecDepth 100000
set_option maxHeartbeats 4000000
/-! sets of ints made from lists -/
namespace PySem
section
variable {P : Program} {w : World} {A : Around} {E : Value → Shared → Prop} {s : Shared}
/-- a new set's object, told by its order's mark -/
def slSet (w : World) : Obj := { cls := .type "set", dict := none, data := .set #[] 0 (.fresh 0 0 (!w.params.followText "set-order")) }
set_option maxHeartbeats 3200000 in
theorem slSet_list {l : Addr} {items : Array Value} (ns : List Int) {Q : Value → Shared → Prop} (hh : A.handled = none) (hl : s.heap.IsList l items) (hit : PyProof.Rows.IntsAre items.toList ns) (hb : ns.length + 1 < scanBound)
    (done : ∀ (h2 : Heap) (tk c : Nat), L2.SetR w h2 s.heap.objs.size (fun j => decide (j ∈ ns)) c → c ≤ ns.length → (∀ b o, s.heap.get? b = some o → h2.get? b = some o) → Q (.ref s.heap.objs.size) { s with heap := h2, toks := tk }) :
    wpAny (model P w) A (call (.type "set") [.ref l]) Q E s := by
  have len : items.size = ns.length := by
    have z := PyProof.Rows.IntsAre.length hit
    rw [Array.length_toList] at z
    exact z
  obtain ⟨c0, tail, mro0⟩ := F.called_set.mro
  have f1 := F.called_set.made
  have f2 := F.called_set.sub
  have f3 := F.called_set.notType
  have f4 := F.called_set.canCreate
  have f5 := F.typeCall_set_1 (.ref l)
  refine wpAny_call (codeAny_of_tree ?_)
  show wpAny _ _ (callAny (.type "set") _) _ _ s
  refine wpAny_pure ⟨Code.quiet_builtin _ (by decide +kernel), codeAny_builtin F.entry_type_call ?_⟩
  rw [Around.under_plain (weight_type_call_type "set" [.ref l] []) rfl]
  repeat (any_goals (first | assumption | wp_step))
  refine codeAny_mono (L2.code_set_led1 (.ref l) (E := E) (Q₁ := fun v s1 => v = .ref s.heap.objs.size ∧ s1 = { s with heap := s.heap.push (slSet w) }) ⟨rfl, rfl⟩) fun r s1 hr => ?_
  cases r with
  | error e => exact hr
  | ok fl =>
    cases fl with
    | ret v =>
      obtain ⟨rfl, rfl⟩ := hr
      have h0 : (s.heap.push (slSet w)).get? s.heap.objs.size = some (slSet w) := Heap.get?_push_size _ rfl
      have ht : Shared.TypeIs { s with heap := s.heap.push (slSet w) } (.ref s.heap.objs.size) "set" := ⟨_, h0, rfl⟩
      have g1 := F.called_set.init.lookup
      have g2 := F.called_set.init.bind (.ref s.heap.objs.size)
      repeat (any_goals (first | assumption | wp_step))
      refine codeAny_mono (codeAny_call_builtin (R := wants (fun r s2 => r = .none ∧ ∃ h2 tk c, s2 = { s with heap := h2, toks := tk } ∧ L2.SetR w h2 s.heap.objs.size (fun j => decide (j ∈ ns)) c ∧ c ≤ ns.length ∧ (∀ b o, s.heap.get? b = some o → h2.get? b = some o)) E)
        F.called_set.init.plain F.entry_set_init (check_set_init_1 ht ?_)) fun r2 s2 hr2 => ?_
      · obtain ⟨⟨oc, od, dt, sl⟩, hol, hcl, nl, hdl⟩ := hl
        simp only at hcl hdl
        subst hcl hdl
        have k1 : (s.heap.push (slSet w)).get? l = some { cls := .type "list", dict := od, data := .seq items nl, slots := sl } := Heap.get?_push_of_some _ hol
        have k2 := F.sub_list_set
        have k3 := F.sub_list_frozenset
        have k4 : (Value.type "list" == Value.type "dict") = false := by decide
        have k5 : (s.heap.push (slSet w)).IsList l items := ⟨_, k1, rfl, nl, rfl⟩
        unfold Builtin.«set.__init__» noKeywords Builtin.Frozenset.updateFrom
        generalize hgen : pyIter = it0
        wp_walk
        subst hgen
        refine wpAny_pyIter_list k5 ?_
        refine wpAny_bind (wpAny_runValue ?_)
        have lt : l < s.heap.objs.size := Heap.lt_size hol
        have hnone : A.in1.in1.in1.handled = none := by simp [hh]
        have sz : (s.heap.push (slSet w)).objs.size = s.heap.objs.size + 1 := Heap.size_push ..
        have ne1 : l ≠ (s.heap.push (slSet w)).objs.size := by rw [sz]; exact Nat.ne_of_lt (Nat.lt_succ_of_lt lt)
        have ne2 : s.heap.objs.size ∉ [(s.heap.push (slSet w)).objs.size, l] := by
          simp only [List.mem_cons, List.not_mem_nil, or_false, not_or]
          exact ⟨by rw [sz]; exact Nat.ne_of_lt (Nat.lt_succ_self _), Nat.ne_of_gt lt⟩
        have vals : ∀ (i : Nat) (v : Value), items[i]? = some v → ∃ k t, ns[i]? = some k ∧ v = .int k t := fun i v hv => by
          have hi : i < ns.length := by rw [← len]; exact (Array.getElem?_eq_some_iff.mp hv).1
          obtain ⟨t, e⟩ := PyProof.Rows.IntsAre.int_at hit i v (by rw [Array.getElem?_toList]; exact hv)
          refine ⟨ns[i], t, List.getElem?_eq_getElem hi, ?_⟩
          rw [e, List.getD_eq_getElem?_getD, List.getElem?_eq_getElem hi]
          rfl
        refine L2.set_update_ints ((Walks.list hnone _ l ne1 items).toS) s.heap.objs.size ne2 ns len hb vals (items.size - 0) 0 _ (by omega) (Nat.zero_le _) ⟨⟨_, Heap.get?_push_size _ rfl, rfl, rfl⟩, (k5.push _)⟩ ?first ?last
        case first =>
          have h1 : ((s.heap.push (slSet w)).push { cls := .type "list_iterator", data := .fields #[.ref l, .int 0 0] }).get? s.heap.objs.size = some (slSet w) := Heap.get?_push_of_some _ h0
          exact ⟨0, Nat.le_refl 0, L2.setR_new_at h1⟩
        case last =>
          intro s3 c3 mv hc3 hS3
          obtain ⟨h3, g3, d3, t3, o3⟩ := s3
          obtain rfl : g3 = s.gens := mv.gens
          obtain rfl : d3 = s.drawn := mv.drawn
          obtain rfl : o3 = s.os := mv.os
          show wpAny _ _ (pure _) _ _ _
          refine wpAny_pure ?_
          show wpAny _ _ (ret Value.none) _ _ _
          refine wpAny_pure ⟨rfl, h3, t3, c3, rfl, hS3, by omega, fun b o e => ?_⟩
          have hb0 : b < s.heap.objs.size := Heap.lt_size e
          refine mv.heap b o ?_ (Heap.get?_push_of_some _ (Heap.get?_push_of_some _ e))
          simp only [List.mem_cons, List.not_mem_nil, or_false, not_or]
          exact ⟨Nat.ne_of_lt hb0, by rw [sz]; exact Nat.ne_of_lt (Nat.lt_succ_of_lt hb0)⟩
      · cases r2 with
        | error e => exact hr2
        | ok fl2 =>
          cases fl2 with
          | ret r =>
            obtain ⟨rfl, h2, tk, c, rfl, q1, q2, q3⟩ := hr2
            repeat (any_goals (first | assumption | wp_step))
            exact done _ _ _ q1 q2 q3
          | _ => exact hr2.elim
    | _ => exact hr.elim
end
end PySem
set_option Elab.async false
set_option linter.all false
set_option autoImplicit false
set_option maxRecDepth 100000
set_option maxHeartbeats 4000000
namespace Sl
open PySem PySem.Spec PyProof.Rows L2

/-! ### a walk over a sequence: data, or a list of the store read anew at each turn -/
def forO (g : Tg) (body : SS) (n : Nat) : Nat → Nat → Env → Sto → Option Fl
  | 0, _, _, _ => none
  | f + 1, i, env, st => match lstAt st (.o n) with
    | none => none
    | some (_, xs) => match xs[i]? with
      | none => some (.nx env st)
      | some x => match g x env with
        | none => none
        | some env1 => match body env1 st with
          | none => none
          | some (.nx env2 st2) => forO g body n f (i + 1) env2 st2
          | some (.ct env2 st2) => forO g body n f (i + 1) env2 st2
          | some (.bk env2 st2) => some (.nx env2 st2)
          | some (.rt r st2) => some (.rt r st2)
          | some (.ex c fs st2) => some (.ex c fs st2)
/-- what is walked: data's items, or an object's number and how long it is now -/
def wlk (st : Sto) (x : VL) : Option (List VL ⊕ (Nat × Nat)) := match x with
  | .d (.list ds) => some (.inl (ds.map .d))
  | .d (.tuple ds) => some (.inl (ds.map .d))
  | .d _ => none
  | .o n => match st[n]? with
    | some (.fr (.list ds)) => some (.inl (ds.map .d))
    | some (.fr (.tuple ds)) => some (.inl (ds.map .d))
    | some (.lst xs) => some (.inr (n, xs.length))
    | _ => none
def sForS (a : SE) (g : Tg) (body : SS) : SS := fun env st => fbind (a env st) fun x st1 => match wlk st1 x with
  | none => none
  | some (.inl xs) => forL g body xs env st1
  | some (.inr (n, m)) => forO g body n (m + 1) 0 env st1
section
variable {K : Kf} {P : Par} {ρ : List Addr} {F H : Hp} {st : Sto}
theorem wlk_ok (I : Im K P ρ F H st) {v : V} {x : VL} {w : List VL ⊕ (Nat × Nat)} (r : VR K ρ F v x) (h : wlk st x = some w) :
    (∃ xs a vs, w = .inl xs ∧ v = .ref a ∧ ((SqL K F a vs ∧ ItR K ρ F (Itl K a) xs) ∨ (F a = some (.tup vs) ∧ ItR K ρ F (Itt K a) xs))) ∨ ∃ n a xs, x = .o n ∧ w = .inr (n, xs.length) ∧ v = .ref a ∧ lstAt st x = some (n, xs) := by
  have data : ∀ {y : PyData} {v : V} {xs : List VL}, Dq K F v y → ((∃ ds, y = .list ds ∧ xs = ds.map .d) ∨ (∃ ds, y = .tuple ds ∧ xs = ds.map .d)) → ∃ a vs, v = .ref a ∧ ((SqL K F a vs ∧ ItR K ρ F (Itl K a) xs) ∨ (F a = some (.tup vs) ∧ ItR K ρ F (Itt K a) xs)) := by
    rintro y v xs hq (⟨ds, rfl, rfl⟩ | ⟨ds, rfl, rfl⟩)
    · cases hq with
      | lst hs hd => exact ⟨_, _, rfl, .inl ⟨hs, itl_ok' hs (vrs_of hd)⟩⟩
    · cases hq with
      | tup hs hd => exact ⟨_, _, rfl, .inr ⟨hs, itt_ok hs (vrs_of hd)⟩⟩
  cases x with
  | d y =>
    unfold wlk at h
    cases y with
    | list ds =>
      cases h
      obtain ⟨a, vs, e, g⟩ := data (xs := ds.map .d) r (.inl ⟨ds, rfl, rfl⟩)
      exact .inl ⟨_, a, vs, rfl, e, g⟩
    | tuple ds =>
      cases h
      obtain ⟨a, vs, e, g⟩ := data (xs := ds.map .d) r (.inr ⟨ds, rfl, rfl⟩)
      exact .inl ⟨_, a, vs, rfl, e, g⟩
    | _ => cases h
  | o n =>
    unfold wlk at h
    cases hs : st[n]? with
    | none => simp [hs] at h
    | some ob =>
      obtain ⟨a, rfl, ha, hb⟩ := I.at_ r hs
      cases ob with
      | fr y =>
        cases y with
        | list ds =>
          simp only [hs, Option.some.injEq] at h
          subst h
          obtain ⟨a, vs, e, g⟩ := data (xs := ds.map .d) hb (.inl ⟨ds, rfl, rfl⟩)
          exact .inl ⟨_, a, vs, rfl, e, g⟩
        | tuple ds =>
          simp only [hs, Option.some.injEq] at h
          subst h
          obtain ⟨a, vs, e, g⟩ := data (xs := ds.map .d) hb (.inr ⟨ds, rfl, rfl⟩)
          exact .inl ⟨_, a, vs, rfl, e, g⟩
        | _ => simp [hs] at h
      | lst xs =>
        simp only [hs, Option.some.injEq] at h
        subst h
        exact .inr ⟨n, a, xs, rfl, rfl, rfl, by simp [lstAt, hs]⟩
      | _ => simp [hs] at h
end
section
variable {X : Cx} {P : Par} {E : XK} {tg e : Expr} {ca : SE} {T : List Nat} {g : Tg} {cb : SS} {body : List Stmt} {pos : Pos}
/-- the turns over what does not change -/
theorem forL_rd {K : Kf} {J : It} {D : Ends} {σ : L2.St} {xs : List VL} {ρ1 : List Addr} {F1 H1 : Hp} {st1 : Sto} {env : Env} {o : Fl} (I1 : Im K P ρ1 F1 H1 st1) (R1 : EnvR K ρ1 F1 σ env) (hJ : ItR K ρ1 F1 J xs) (h : forL g cb xs env st1 = some o) (p : PostS K P ρ1 F1 H1 D E o) :
    ∃ W : Nat → Nat → L2.St → Hp → Prop, (∃ m, W 0 m σ H1) ∧ ∀ i m σ H, W i m σ H →
      (J.stop i H ∧ D.nx σ H) ∨ (J.go i H ∧ ∃ N : L2.St → Hp → Prop, (∀ σ' H', N σ' H' → ∃ m', m' < m ∧ W (i + 1) m' σ' H') ∧ ∀ x H', J.yld i H x H' → rdG K T g x σ H' fun σ2 H2 => rdS K P E cb { D with nx := N, ct := N, bk := D.nx } σ2 H2) := by
  refine ⟨fun i m σ' H' => i ≤ xs.length ∧ m = xs.length - i ∧ ∃ ρ' F' st' env', Tr ρ1 F1 H1 ρ' F' H' ∧ Im K P ρ' F' H' st' ∧ EnvR K ρ' F' σ' env' ∧ forL g cb (xs.drop i) env' st' = some o,
    ⟨xs.length, Nat.zero_le _, rfl, ρ1, F1, st1, env, Tr.refl .., I1, R1, h⟩, ?_⟩
  rintro i m σ' H' ⟨hi, rfl, ρ', F', st', env', T', I', R', hf⟩
  have p' := p.mono T'
  by_cases hlt : i < xs.length
  · obtain ⟨g1, g2⟩ := hJ.1 i xs[i] (List.getElem?_eq_getElem hlt) H' (T'.exF.trans I'.ex)
    rw [List.drop_eq_getElem_cons hlt] at hf
    refine .inr ⟨g1, fun σ2 H2 => ∃ ρ2 F2 st2 env2, Tr ρ1 F1 H1 ρ2 F2 H2 ∧ Im K P ρ2 F2 H2 st2 ∧ EnvR K ρ2 F2 σ2 env2 ∧ forL g cb (xs.drop (i + 1)) env2 st2 = some o, fun σ2 H2 q => ⟨xs.length - (i + 1), by omega, hlt, rfl, q⟩, fun v H2 hy => ?_⟩
    obtain ⟨rfl, rv⟩ := g2 v H2 hy
    unfold forL at hf
    split at hf
    · cases hf
    · rename_i env1 hg1
      refine ⟨ρ', F', env', xs[i], env1, I'.ex, R', rv.mono T', hg1, fun σ3 R3 _ => ?_⟩
      split at hf
      · cases hf
      · rename_i env2 st2 hb2
        exact ⟨ρ', F', st', env1, _, I', R3, hb2, fun σ4 ρ4 F4 H4 t4 I4 R4 => ⟨ρ4, F4, st2, env2, T'.trans t4, I4, R4, hf⟩⟩
      · rename_i env2 st2 hb2
        exact ⟨ρ', F', st', env1, _, I', R3, hb2, fun σ4 ρ4 F4 H4 t4 I4 R4 => ⟨ρ4, F4, st2, env2, T'.trans t4, I4, R4, hf⟩⟩
      · rename_i env2 st2 hb2
        cases hf
        exact ⟨ρ', F', st', env1, _, I', R3, hb2, p'⟩
      · rename_i r st2 hb2
        cases hf
        exact ⟨ρ', F', st', env1, _, I', R3, hb2, p'⟩
      · rename_i c fs st2 hb2
        cases hf
        exact ⟨ρ', F', st', env1, _, I', R3, hb2, p'⟩
  · have e : i = xs.length := by omega
    subst e
    refine .inl ⟨hJ.2 H' (T'.exF.trans I'.ex), ?_⟩
    rw [List.drop_of_length_le (Nat.le_refl _)] at hf
    cases hf
    exact p' _ ρ' F' H' (Tr.refl ..) I' R'
theorem forO_rd {K : Kf} {D : Ends} {σ : L2.St} {n k : Nat} {a : Addr} {ρ1 : List Addr} {F1 H1 : Hp} {st1 : Sto} {env : Env} {o : Fl} (I1 : Im K P ρ1 F1 H1 st1) (R1 : EnvR K ρ1 F1 σ env) (ha : ρ1[n]? = some a) (h : forO g cb n k 0 env st1 = some o) (p : PostS K P ρ1 F1 H1 D E o) :
    ∃ W : Nat → Nat → L2.St → Hp → Prop, (∃ m, W 0 m σ H1) ∧ ∀ i m σ H, W i m σ H →
      ((Itl K a).stop i H ∧ D.nx σ H) ∨ ((Itl K a).go i H ∧ ∃ N : L2.St → Hp → Prop, (∀ σ' H', N σ' H' → ∃ m', m' < m ∧ W (i + 1) m' σ' H') ∧ ∀ x H', (Itl K a).yld i H x H' → rdG K T g x σ H' fun σ2 H2 => rdS K P E cb { D with nx := N, ct := N, bk := D.nx } σ2 H2) := by
  refine ⟨fun i m σ' H' => ∃ ρ' F' st' env', Tr ρ1 F1 H1 ρ' F' H' ∧ Im K P ρ' F' H' st' ∧ EnvR K ρ' F' σ' env' ∧ forO g cb n m i env' st' = some o, ⟨k, ρ1, F1, st1, env, Tr.refl .., I1, R1, h⟩, ?_⟩
  rintro i m σ' H' ⟨ρ', F', st', env', T', I', R', hf⟩
  have p' := p.mono T'
  cases m with
  | zero => cases hf
  | succ m =>
    unfold forO at hf
    split at hf
    · cases hf
    · rename_i n2 xs hl
      obtain ⟨b, vs, e1, k1, k2, k3, k4⟩ := lstAt_ok I' (v := .ref a) (x := .o n) ⟨a, rfl, T'.get ha⟩ hl
      cases e1
      split at hf
      · rename_i hx
        cases hf
        refine .inl ⟨⟨vs, SqL.of k3, ?_⟩, p' _ ρ' F' H' (Tr.refl ..) I' R'⟩
        rw [paired_len k4]
        exact List.getElem?_eq_none_iff.mp hx
      · rename_i x hx
        obtain ⟨w, hw, rw'⟩ := vrs_get k4 hx
        refine .inr ⟨⟨vs, w, SqL.of k3, hw⟩, fun σ2 H2 => ∃ ρ2 F2 st2 env2, Tr ρ1 F1 H1 ρ2 F2 H2 ∧ Im K P ρ2 F2 H2 st2 ∧ EnvR K ρ2 F2 σ2 env2 ∧ forO g cb n m (i + 1) env2 st2 = some o, fun σ2 H2 q => ⟨m, Nat.lt_succ_self m, q⟩, fun v H2 hy => ?_⟩
        obtain ⟨rfl, hy2⟩ := hy
        have hv := hy2 vs (SqL.of k3)
        rw [hw] at hv
        cases hv
        split at hf
        · cases hf
        · rename_i env1 hg1
          refine ⟨ρ', F', env', x, env1, I'.ex, R', rw', hg1, fun σ3 R3 _ => ?_⟩
          split at hf
          · cases hf
          · rename_i env2 st2 hb2
            exact ⟨ρ', F', st', env1, _, I', R3, hb2, fun σ4 ρ4 F4 H4 t4 I4 R4 => ⟨ρ4, F4, st2, env2, T'.trans t4, I4, R4, hf⟩⟩
          · rename_i env2 st2 hb2
            exact ⟨ρ', F', st', env1, _, I', R3, hb2, fun σ4 ρ4 F4 H4 t4 I4 R4 => ⟨ρ4, F4, st2, env2, T'.trans t4, I4, R4, hf⟩⟩
          · rename_i env2 st2 hb2
            cases hf
            exact ⟨ρ', F', st', env1, _, I', R3, hb2, p'⟩
          · rename_i r st2 hb2
            cases hf
            exact ⟨ρ', F', st', env1, _, I', R3, hb2, p'⟩
          · rename_i c fs st2 hb2
            cases hf
            exact ⟨ρ', F', st', env1, _, I', R3, hb2, p'⟩
theorem s_forS (hp : PassesOwn (model X.prog X.w) X.A X.env X.xe) (hc : X.calm = true) (he : PE X e (rdE X.K P E ca)) (hg : PG X tg (rdG X.K T g)) (hb : PSs X body (rdS X.K P E cb)) (hs : ∀ x, foldedSetIterable e X.env x = pure x := by intro _; rfl) : PS X (.For tg e body [] pos) (rdS X.K P E (sForS ca g cb)) :=
  ps_weak (ps_for hp hc (pi_either he) hg hb hs) fun D σ H ⟨ρ, F, st, env, o, I, R, h, p⟩ => by
    refine rdE_bindS I R h p fun v ρ1 F1 H1 x st1 t1 I1 R1 r1 h1 p1 => ?_
    split at h1
    · cases h1
    · rename_i xs hw
      rcases wlk_ok I1 r1 hw with ⟨ys, a, vs, e1, rfl, g1⟩ | ⟨n, a, ys, e0, e1, _⟩
      · cases e1
        rcases g1 with ⟨q1, q2⟩ | ⟨q1, q2⟩
        · exact .inl ⟨a, rfl, ⟨vs, Evl.ex_l I1.ex q1⟩, forL_rd I1 R1 q2 h1 p1⟩
        · exact .inr ⟨a, rfl, ⟨vs, SqT.of (I1.ex _ _ q1)⟩, forL_rd I1 R1 q2 h1 p1⟩
      · cases e1
    · rename_i n m hw
      rcases wlk_ok I1 r1 hw with ⟨ys, a, vs, e1, rfl, g1⟩ | ⟨n', a, ys, rfl, e1, rfl, hl⟩
      · cases e1
      · cases e1
        obtain ⟨b, ws, e2, k1, k2, k3, k4⟩ := lstAt_ok I1 r1 hl
        cases e2
        exact .inl ⟨a, rfl, ⟨ws, SqL.of k3⟩, forO_rd I1 R1 k1 h1 p1⟩
end
/-! ### comprehensions over a sequence -/
def compO (g : Tg) (t e : SE) (env : Env) (n : Nat) : Nat → Nat → List VL → Sto → Option (List VL × Sto)
  | 0, _, _, _ => none
  | f + 1, i, acc, st => match lstAt st (.o n) with
    | none => none
    | some (_, xs) => match xs[i]? with
      | none => some (acc, st)
      | some x => match g x env with
        | none => none
        | some env1 => match t env1 st with
          | some (.ok (.d (.bool true)) st1) => match e env1 st1 with
            | some (.ok y st2) => if acc.length < sizeLine then compO g t e env n f (i + 1) (acc ++ [y]) st2 else none
            | _ => none
          | some (.ok (.d (.bool false)) st1) => compO g t e env n f (i + 1) acc st1
          | _ => none
def eCompS (mk : Mk) (a : SE) (g : Tg) (t e : SE) (vs : List Nat) : SE := fun env st => obind (a env st) fun x st1 => match wlk st1 x with
  | none => none
  | some (.inl xs) => (compL g t e (wipeE env vs) xs [] st1).bind fun z => (mk z.1 z.2).map fun z => .ok z.1 z.2
  | some (.inr (n, m)) => (compO g t e (wipeE env vs) n (m + 1) 0 [] st1).bind fun z => (mk z.1 z.2).map fun z => .ok z.1 z.2
section
variable {X : Cx} {P : Par} {E E' : XK}
theorem far_step {ρ' ρ'' : List Addr} {F' F'' H' H'' : Hp} {o : HO} {D : Addr} (T' : Tr ρ' F' H' ρ'' F'' H'') (hD' : H' D = some o) (hr' : D ∉ ρ') (hF' : F' D = none) : H'' D = some o ∧ D ∉ ρ'' ∧ F'' D = none := by
  refine ⟨T'.keep D o hD' hr', fun h => ?_, ?_⟩
  · rcases T'.fresh D h with h | h
    · exact hr' h
    · rw [hD'] at h
      cases h
  · cases q : F'' D with
    | none => rfl
    | some u =>
      rcases T'.newF D (by rw [q]; exact fun z => nomatch z) with h | h | h
      · exact absurd hF' h
      · rw [hD'] at h
        cases h
      · exact absurd h hr'
theorem compL_rd {K : Kf} {mk : Mk} (hm : MkOk K mk) {T : List Nat} {g : Tg} {t e : SE} {vs : List Nat} (hT : ∀ i, i ∈ T → i ∈ vs) {σ : L2.St} {J : It} {xs : List VL} {ρ1 : List Addr} {F1 H1 : Hp} {st1 : Sto} {env : Env} {w : VL × Sto} {Q : VK} {D : Addr}
    (I1 : Im K P ρ1 F1 H1 st1) (R1 : EnvR K ρ1 F1 σ env) (hJ : ItR K ρ1 F1 J xs) (hD : H1 D = none) (h : ((compL g t e (wipeE env vs) xs [] st1).bind fun z => mk z.1 z.2) = some w) (p1 : Post K P ρ1 F1 H1 Q E (.ok w.1 w.2)) :
    ∃ W : Nat → Nat → Hp → Prop, (∃ m, W 0 m (upd H1 D (.lst []))) ∧ ∀ i m H, W i m H →
      (J.stop i H ∧ Q (.ref D) H) ∨ (J.go i H ∧ ∃ Nx : Hp → Prop, (∀ H', Nx H' → ∃ m', m' < m ∧ W (i + 1) m' H') ∧ ∀ x H', J.yld i H x H' → rdG K T g x (wipe σ vs) H' fun σ2 H2 => wipe σ2 vs = wipe σ vs ∧ rdT K P E' t σ2 H2 fun b H3 =>
        if b = true then rdE K P E' e σ2 H3 fun y H4 => ∃ acc, H4 D = some (.lst acc) ∧ acc.length < sizeLine ∧ Nx (upd H4 D (.lst (acc ++ [y]))) else Nx H3) := by
  obtain ⟨z, hz, hw⟩ := Option.bind_eq_some_iff.mp h
  have hF1 : F1 D = none := by
    cases q : F1 D with
    | none => rfl
    | some u =>
      rw [I1.ex D u q] at hD
      cases hD
  have hr1 : D ∉ ρ1 := fun hm => I1.dom D hm hD
  obtain ⟨T0, I0⟩ := junk I1 hD (.lst [])
  refine ⟨fun i m H' => i ≤ xs.length ∧ m = xs.length - i ∧ ∃ ρ' F' st' accV acc, Tr ρ1 F1 H1 ρ' F' H' ∧ Im K P ρ' F' H' st' ∧ H' D = some (.lst accV) ∧ D ∉ ρ' ∧ F' D = none ∧ VRs K ρ' F' accV acc ∧ compL g t e (wipeE env vs) (xs.drop i) acc st' = some z,
    ⟨xs.length, Nat.zero_le _, rfl, ρ1, F1, st1, [], [], T0, I0, upd_same, hr1, hF1, .nil, hz⟩, ?_⟩
  rintro i m H' ⟨hi, rfl, ρ', F', st', accV, acc, T', I', k1, k2, k3, k4, k5⟩
  by_cases hlt : i < xs.length
  · obtain ⟨g1, g2⟩ := hJ.1 i xs[i] (List.getElem?_eq_getElem hlt) H' (T'.exF.trans I'.ex)
    rw [List.drop_eq_getElem_cons hlt] at k5
    refine .inr ⟨g1, fun H2 => ∃ ρ' F' st' accV acc, Tr ρ1 F1 H1 ρ' F' H2 ∧ Im K P ρ' F' H2 st' ∧ H2 D = some (.lst accV) ∧ D ∉ ρ' ∧ F' D = none ∧ VRs K ρ' F' accV acc ∧ compL g t e (wipeE env vs) (xs.drop (i + 1)) acc st' = some z,
      fun H2 q => ⟨xs.length - (i + 1), by omega, hlt, rfl, q⟩, fun v H2 hy => ?_⟩
    obtain ⟨rfl, rv⟩ := g2 v H2 hy
    unfold compL at k5
    split at k5
    · cases k5
    · rename_i env1 hg1
      refine ⟨ρ', F', wipeE env vs, xs[i], env1, I'.ex, wipe_env (R1.mono T') vs, rv.mono T', hg1, fun σ2 R2 O2 => ⟨wipe_off hT O2, ?_⟩⟩
      split at k5
      · rename_i st2 ht
        refine ⟨ρ', F', st', env1, _, I', R2, ht, true, rfl, fun ρ3 F3 H3 t3 I3 => ?_⟩
        split at k5
        · rename_i y st3 he
          refine ⟨ρ3, F3, st2, env1, _, I3, R2.mono t3, he, fun u ρ4 F4 H4 t4 I4 ru => ?_⟩
          split at k5
          · rename_i hz2
            obtain ⟨a1, a2, a3⟩ := far_step (t3.trans t4) k1 k2 k3
            have rA : VRs K ρ4 F4 accV acc := k4.mono (t3.trans t4)
            refine ⟨accV, a1, by rw [paired_len rA]; exact hz2, ?_⟩
            obtain ⟨T5, I5⟩ := Im.poke ((T'.trans t3).trans t4) I4 hD a2 a3 (.lst (accV ++ [u]))
            exact ⟨ρ4, F4, st3, accV ++ [u], acc ++ [y], T5, I5, upd_same, a2, a3, paired_append rA (.cons ru .nil), k5⟩
          · cases k5
        · cases k5
      · rename_i st2 ht
        refine ⟨ρ', F', st', env1, _, I', R2, ht, false, rfl, fun ρ3 F3 H3 t3 I3 => ?_⟩
        obtain ⟨a1, a2, a3⟩ := far_step t3 k1 k2 k3
        exact ⟨ρ3, F3, st2, accV, acc, T'.trans t3, I3, a1, a2, a3, k4.mono t3, k5⟩
      · cases k5
  · have e : i = xs.length := by omega
    subst e
    refine .inl ⟨hJ.2 H' (T'.exF.trans I'.ex), ?_⟩
    rw [List.drop_of_length_le (Nat.le_refl _)] at k5
    cases k5
    obtain ⟨ρ9, F9, T9, I9, r9⟩ := hm.fin T' I' hD k1 k2 k3 k4 hw
    exact p1 _ ρ9 F9 H' T9 I9 r9
theorem compO_rd {K : Kf} {mk : Mk} (hm : MkOk K mk) {T : List Nat} {g : Tg} {t e : SE} {vs : List Nat} (hT : ∀ i, i ∈ T → i ∈ vs) {σ : L2.St} {n k : Nat} {a : Addr} {ρ1 : List Addr} {F1 H1 : Hp} {st1 : Sto} {env : Env} {w : VL × Sto} {Q : VK} {D : Addr}
    (I1 : Im K P ρ1 F1 H1 st1) (R1 : EnvR K ρ1 F1 σ env) (ha : ρ1[n]? = some a) (hD : H1 D = none) (h : ((compO g t e (wipeE env vs) n k 0 [] st1).bind fun z => mk z.1 z.2) = some w) (p1 : Post K P ρ1 F1 H1 Q E (.ok w.1 w.2)) :
    ∃ W : Nat → Nat → Hp → Prop, (∃ m, W 0 m (upd H1 D (.lst []))) ∧ ∀ i m H, W i m H →
      ((Itl K a).stop i H ∧ Q (.ref D) H) ∨ ((Itl K a).go i H ∧ ∃ Nx : Hp → Prop, (∀ H', Nx H' → ∃ m', m' < m ∧ W (i + 1) m' H') ∧ ∀ x H', (Itl K a).yld i H x H' → rdG K T g x (wipe σ vs) H' fun σ2 H2 => wipe σ2 vs = wipe σ vs ∧ rdT K P E' t σ2 H2 fun b H3 =>
        if b = true then rdE K P E' e σ2 H3 fun y H4 => ∃ acc, H4 D = some (.lst acc) ∧ acc.length < sizeLine ∧ Nx (upd H4 D (.lst (acc ++ [y]))) else Nx H3) := by
  obtain ⟨z, hz, hw⟩ := Option.bind_eq_some_iff.mp h
  have hF1 : F1 D = none := by
    cases q : F1 D with
    | none => rfl
    | some u =>
      rw [I1.ex D u q] at hD
      cases hD
  have hr1 : D ∉ ρ1 := fun hm => I1.dom D hm hD
  obtain ⟨T0, I0⟩ := junk I1 hD (.lst [])
  refine ⟨fun i m H' => ∃ ρ' F' st' accV acc, Tr ρ1 F1 H1 ρ' F' H' ∧ Im K P ρ' F' H' st' ∧ H' D = some (.lst accV) ∧ D ∉ ρ' ∧ F' D = none ∧ VRs K ρ' F' accV acc ∧ compO g t e (wipeE env vs) n m i acc st' = some z,
    ⟨k, ρ1, F1, st1, [], [], T0, I0, upd_same, hr1, hF1, .nil, hz⟩, ?_⟩
  rintro i m H' ⟨ρ', F', st', accV, acc, T', I', k1, k2, k3, k4, k5⟩
  cases m with
  | zero => cases k5
  | succ m =>
    unfold compO at k5
    split at k5
    · cases k5
    · rename_i n2 xs hl
      obtain ⟨b, ws, e1, q1, q2, q3, q4⟩ := lstAt_ok I' (v := .ref a) (x := .o n) ⟨a, rfl, T'.get ha⟩ hl
      cases e1
      split at k5
      · rename_i hx
        cases k5
        refine .inl ⟨⟨ws, SqL.of q3, ?_⟩, ?_⟩
        · rw [paired_len q4]
          exact List.getElem?_eq_none_iff.mp hx
        · obtain ⟨ρ9, F9, T9, I9, r9⟩ := hm.fin T' I' hD k1 k2 k3 k4 hw
          exact p1 _ ρ9 F9 H' T9 I9 r9
      · rename_i x hx
        obtain ⟨u0, hu0, ru0⟩ := vrs_get q4 hx
        refine .inr ⟨⟨ws, u0, SqL.of q3, hu0⟩, fun H2 => ∃ ρ' F' st' accV acc, Tr ρ1 F1 H1 ρ' F' H2 ∧ Im K P ρ' F' H2 st' ∧ H2 D = some (.lst accV) ∧ D ∉ ρ' ∧ F' D = none ∧ VRs K ρ' F' accV acc ∧ compO g t e (wipeE env vs) n m (i + 1) acc st' = some z,
          fun H2 q => ⟨m, Nat.lt_succ_self m, q⟩, fun v H2 hy => ?_⟩
        obtain ⟨rfl, hy2⟩ := hy
        have hv := hy2 ws (SqL.of q3)
        rw [hu0] at hv
        cases hv
        split at k5
        · cases k5
        · rename_i env1 hg1
          refine ⟨ρ', F', wipeE env vs, x, env1, I'.ex, wipe_env (R1.mono T') vs, ru0, hg1, fun σ2 R2 O2 => ⟨wipe_off hT O2, ?_⟩⟩
          split at k5
          · rename_i st2 ht
            refine ⟨ρ', F', st', env1, _, I', R2, ht, true, rfl, fun ρ3 F3 H3 t3 I3 => ?_⟩
            split at k5
            · rename_i y st3 he
              refine ⟨ρ3, F3, st2, env1, _, I3, R2.mono t3, he, fun u ρ4 F4 H4 t4 I4 ru => ?_⟩
              split at k5
              · rename_i hz2
                obtain ⟨a1, a2, a3⟩ := far_step (t3.trans t4) k1 k2 k3
                have rA : VRs K ρ4 F4 accV acc := k4.mono (t3.trans t4)
                refine ⟨accV, a1, by rw [paired_len rA]; exact hz2, ?_⟩
                obtain ⟨T5, I5⟩ := Im.poke ((T'.trans t3).trans t4) I4 hD a2 a3 (.lst (accV ++ [u]))
                exact ⟨ρ4, F4, st3, accV ++ [u], acc ++ [y], T5, I5, upd_same, a2, a3, paired_append rA (.cons ru .nil), k5⟩
              · cases k5
            · cases k5
          · rename_i st2 ht
            refine ⟨ρ', F', st', env1, _, I', R2, ht, false, rfl, fun ρ3 F3 H3 t3 I3 => ?_⟩
            obtain ⟨a1, a2, a3⟩ := far_step t3 k1 k2 k3
            exact ⟨ρ3, F3, st2, accV, acc, T'.trans t3, I3, a1, a2, a3, k4.mono t3, k5⟩
          · cases k5
theorem map_bind_map {α β γ δ : Type} {x : Option α} {f : α → Option β} {g : β → γ} {o : γ} (h : (x.bind fun z => (f z).map g) = some o) : ∃ w, (x.bind f) = some w ∧ g w = o := by
  obtain ⟨z, h1, h2⟩ := Option.bind_eq_some_iff.mp h
  obtain ⟨w, h3, h4⟩ := Option.map_eq_some_iff.mp h2
  exact ⟨w, by rw [h1]; exact h3, h4⟩
theorem compS_rd {K : Kf} {mk : Mk} (hm : MkOk K mk) {a : SE} {T : List Nat} {g : Tg} {t e : SE} {vs : List Nat} (hT : ∀ i, i ∈ T → i ∈ vs) {σ : L2.St} {H : Hp} {Q : VK} (h : rdE K P E (eCompS mk a g t e vs) σ H Q) :
    tLc (iEither K (rdE K P E a)) (rdG K T g) (rdT K P E' t) (rdE K P E' e) vs σ H Q := by
  obtain ⟨ρ, F, st, env, o, I, R, h, p⟩ := h
  refine rdE_bind I R h p fun v ρ1 F1 H1 x st1 t1 I1 R1 r1 h1 p1 => ?_
  split at h1
  · cases h1
  · rename_i xs hw
    obtain ⟨w, h2, rfl⟩ := map_bind_map (δ := Unit) h1
    rcases wlk_ok I1 r1 hw with ⟨ys, b, ws, e1, rfl, g1⟩ | ⟨n, b, ys, e0, e1, _⟩
    · cases e1
      rcases g1 with ⟨q1, q2⟩ | ⟨q1, q2⟩
      · exact .inl ⟨b, rfl, ⟨ws, Evl.ex_l I1.ex q1⟩, fun D hD => compL_rd hm hT I1 R1 q2 hD h2 p1⟩
      · exact .inr ⟨b, rfl, ⟨ws, SqT.of (I1.ex _ _ q1)⟩, fun D hD => compL_rd hm hT I1 R1 q2 hD h2 p1⟩
    · cases e1
  · rename_i n m hw
    obtain ⟨w, h2, rfl⟩ := map_bind_map (δ := Unit) h1
    rcases wlk_ok I1 r1 hw with ⟨ys, b, ws, e1, rfl, g1⟩ | ⟨n', b, ys, rfl, e1, rfl, hl⟩
    · cases e1
    · cases e1
      obtain ⟨b', ws, e2, k1, k2, k3, k4⟩ := lstAt_ok I1 r1 hl
      cases e2
      exact .inl ⟨b, rfl, ⟨ws, SqL.of k3⟩, fun D hD => compO_rd hm hT I1 R1 k1 hD h2 p1⟩
variable {elt tg iter : Expr} {ifs : List Expr} {scope : Scope} {own : List (Str × Nat)} {pos : Pos} {T : List Nat} {ca : SE} {g : Tg} {ct ce : SE} {mk : Mk}
theorem e_compS (hm : MkOk X.K mk) (hc : X.calm = true) (hN : X.N.Nodup) (hi : PE X iter (rdE X.K P E ca)) (ok : BlkOk X.N X.env.scope scope own)
    (hg : ∀ (s : Shared) (H : Hp) (C : Addr) (cl : List (Str × Addr)) (fp : List Addr), PG (X.blk s H scope (compEnvC scope cl C X.env) fp) tg (rdG X.K T g)) (ht : ∀ (s : Shared) (H : Hp) (C : Addr) (cl : List (Str × Addr)) (fp : List Addr), PTs (X.blk s H scope (compEnvC scope cl C X.env) fp) ifs (rdT X.K P E' ct))
    (he : ∀ (s : Shared) (H : Hp) (C : Addr) (cl : List (Str × Addr)) (fp : List Addr), PE (X.blk s H scope (compEnvC scope cl C X.env) fp) elt (rdE X.K P E' ce)) (hT : ∀ i, i ∈ T → i ∈ own.map (·.2) := by decide) (hs : ∀ x, foldedSetIterable iter X.env x = pure x := by intro _; rfl) :
    PE X (.ListComp elt [⟨tg, iter, ifs, 0⟩] scope pos) (rdE X.K P E (eCompS mk ca g ct ce (own.map (·.2)))) := pe_weak (pe_lc hc hN (pi_either hi) ok hg ht he hs) fun σ H Q h => compS_rd hm hT h
theorem s_compS {i : Nat} {y : Str} {py spos : Pos} (hm : MkOk X.K mk) (hc : X.calm = true) (hN : X.N.Nodup) (hy : X.N[i]? = some y) (hyl : X.env.scope.names.lookup y = some .local)
    (hsw : swapsWith (.ListComp elt [⟨tg, iter, ifs, 0⟩] scope pos) (some (.Name y py)) spos.line X.env = pure true) (hi : PE X iter (rdE X.K P E ca)) (ok : BlkOk X.N X.env.scope scope own)
    (hg : ∀ (s : Shared) (H : Hp) (C : Addr) (cl : List (Str × Addr)) (fp : List Addr), PG (X.blk s H scope (compEnvC scope cl C X.env) fp) tg (rdG X.K T g)) (ht : ∀ (s : Shared) (H : Hp) (C : Addr) (cl : List (Str × Addr)) (fp : List Addr), PTs (X.blk s H scope (compEnvC scope cl C X.env) fp) ifs (rdT X.K P E' ct))
    (he : ∀ (s : Shared) (H : Hp) (C : Addr) (cl : List (Str × Addr)) (fp : List Addr), PE (X.blk s H scope (compEnvC scope cl C X.env) fp) elt (rdE X.K P E' ce)) (hT : ∀ i, i ∈ T → i ∈ own.map (·.2) := by decide) (hs : ∀ x, foldedSetIterable iter X.env x = pure x := by intro _; rfl) :
    PS X (.Assign [.Name y py] (.ListComp elt [⟨tg, iter, ifs, 0⟩] scope pos) spos) (rdS X.K P E (sAsg (eCompS mk ca g ct ce (own.map (·.2))) (gN i))) :=
  ps_weak (ps_setLc hc hN hy hyl hsw (pi_either hi) ok hg ht he hs) fun D σ H ⟨ρ, F, st, env, o, I, R, h, p⟩ => by
    refine compS_rd hm hT ?_
    refine rdE_bindS I R h p fun v ρ1 F1 H1 x st1 t1 I1 R1 r1 h1 p1 => ?_
    obtain ⟨env1, k1, k2⟩ := Option.map_eq_some_iff.mp h1
    cases k2
    cases k1
    exact p1 _ ρ1 F1 H1 (Tr.refl ..) I1 (R1.set r1)
end
end Sl
set_option Elab.async false
set_option linter.all false
set_option autoImplicit false
set_option maxRecDepth 100000
set_option maxHeartbeats 4000000
namespace Sl
open PySem PySem.Spec PyProof.Rows L2

/-! ### rising lists of ints -/
def insU (x : Int) : List Int → List Int
  | [] => [x]
  | y :: r => if x < y then x :: y :: r else if x = y then y :: r else y :: insU x r
def sortU (ns : List Int) : List Int := ns.foldr insU []
theorem mem_insU (x k : Int) : ∀ r : List Int, k ∈ insU x r ↔ k = x ∨ k ∈ r
  | [] => by simp [insU]
  | y :: r => by
    unfold insU
    split
    · simp
    · split
      · rename_i h
        subst h
        simp
      · simp only [List.mem_cons, mem_insU x k r]
        constructor
        · rintro (h | h | h)
          · exact .inr (.inl h)
          · exact .inl h
          · exact .inr (.inr h)
        · rintro (h | h | h)
          · exact .inr (.inl h)
          · exact .inl h
          · exact .inr (.inr h)
theorem mem_sortU (k : Int) : ∀ ns : List Int, k ∈ sortU ns ↔ k ∈ ns
  | [] => by simp [sortU]
  | n :: ns => by
    show k ∈ insU n (sortU ns) ↔ _
    rw [mem_insU, mem_sortU k ns, List.mem_cons]
theorem rise_insU (x : Int) : ∀ r : List Int, r.Pairwise (· < ·) → (insU x r).Pairwise (· < ·)
  | [], _ => by simp [insU]
  | y :: r, h => by
    obtain ⟨h1, h2⟩ := List.pairwise_cons.mp h
    unfold insU
    split
    · rename_i hx
      refine List.pairwise_cons.mpr ⟨fun k hk => ?_, h⟩
      rcases List.mem_cons.mp hk with rfl | hk
      · exact hx
      · exact Int.lt_trans hx (h1 k hk)
    · split
      · exact h
      · rename_i hx he
        refine List.pairwise_cons.mpr ⟨fun k hk => ?_, rise_insU x r h2⟩
        rcases (mem_insU x k r).mp hk with rfl | hk
        · omega
        · exact h1 k hk
theorem rise_sortU : ∀ ns : List Int, (sortU ns).Pairwise (· < ·)
  | [] => .nil
  | n :: ns => rise_insU n _ (rise_sortU ns)
theorem rise_ext : ∀ {xs ys : List Int}, xs.Pairwise (· < ·) → ys.Pairwise (· < ·) → (∀ k, k ∈ xs ↔ k ∈ ys) → xs = ys
  | [], [], _, _, _ => rfl
  | [], y :: ys, _, _, h => absurd ((h y).mpr List.mem_cons_self) (by simp)
  | x :: xs, [], _, _, h => absurd ((h x).mp List.mem_cons_self) (by simp)
  | x :: xs, y :: ys, a, b, h => by
    obtain ⟨a1, a2⟩ := List.pairwise_cons.mp a
    obtain ⟨b1, b2⟩ := List.pairwise_cons.mp b
    have e : x = y := by
      have h1 := (h x).mp List.mem_cons_self
      have h2 := (h y).mpr List.mem_cons_self
      rcases List.mem_cons.mp h1 with h1 | h1
      · exact h1
      · rcases List.mem_cons.mp h2 with h2 | h2
        · exact h2.symm
        · have := a1 _ h2
          have := b1 _ h1
          omega
    subst e
    refine congrArg (x :: ·) (rise_ext a2 b2 fun k => ?_)
    have hk := h k
    simp only [List.mem_cons] at hk
    constructor
    · intro h1
      rcases hk.mp (.inr h1) with e | h2
      · subst e
        exact absurd (a1 _ h1) (by omega)
      · exact h2
    · intro h1
      rcases hk.mpr (.inr h1) with e | h2
      · subst e
        exact absurd (b1 _ h1) (by omega)
      · exact h2
/-! ### set(list), sorted(set), len(set) -/
section
variable {X : Cx}
def rSetI (w : World) (K : Kf) : List V → Hp → VK → Prop := fun xs H Q => ∃ (a : Addr) (ns : List Int), xs = [.ref a] ∧ SqL K H a (ns.map V.int) ∧ ns.length + 1 < scanBound ∧
  ∀ p, H p = none → Q (.ref p) (upd H p (SetO w p (fun j => decide (j ∈ ns)) (sortU ns).length))
theorem setR_size {w : World} {h : Heap} {a : Addr} {ns : List Int} {c : Nat} (R : SetR w h a (fun j => decide (j ∈ ns)) c) : c = (sortU ns).length := by
  obtain ⟨o, es, ep, t, h1, h2, h3, h4, h5, h6, h7, h8, h9, h10⟩ := R
  have nd : (sortU ns).Nodup := (rise_sortU ns).imp fun h e => by omega
  have p : (es.toList.map keyOf).Perm (sortU ns) := (List.perm_ext_iff_of_nodup h5 nd).mpr fun k => by
    rw [← h6 k, mem_sortU]
    simp
  have q := p.length_eq
  rw [List.length_map, Array.length_toList] at q
  omega
theorem call_setI (hc : X.calm = true) : CallR X (.type "set") (rSetI X.w X.K) := by
  intro pins s σ H xs us Q I r h
  obtain ⟨a, ns, rfl, hs, hb, q⟩ := h
  rw [Vals.ref1 r]
  obtain ⟨its, rv, pl, hz⟩ := I.list hs
  refine slSet_list ns (I.ok.hd hc) pl.isList (intsAre_of rv) hb fun h2 tk c R hle kp => ?_
  have e := setR_size R
  subst e
  exact ⟨.ref _, _, I.laid (t' := tk) kp (Nat.le_refl _) (setO_new R), rfl, q _ (I.hok.fresh (Nat.le_refl _))⟩
end
def eSortSet (mk : Mk) (a : SE) : SE := fun env st => obind (a env st) fun x st1 => match asSeq st1 x with
  | some (false, ys) => (intsOf ys).bind fun ns => if ns.length < 1000 ∧ (sortU ns).length < 64 then (mk ((sortU ns).map fun i => .d (.int i)) st1).map fun z => .ok z.1 z.2 else none
  | _ => none
theorem sortU_length : ∀ ns : List Int, (sortU ns).length ≤ ns.length
  | [] => Nat.le_refl 0
  | n :: ns => by
    show (insU n (sortU ns)).length ≤ _
    have ih := sortU_length ns
    have : ∀ r : List Int, (insU n r).length ≤ r.length + 1 := by
      intro r
      induction r with
      | nil => simp [insU]
      | cons y r ih =>
        unfold insU
        split
        · simp
        · split
          · simp
          · simpa using ih
    have := this (sortU ns)
    simp only [List.length_cons]
    omega
section
variable {X : Cx} {P : Par} {E : XK} {a : Expr} {ca : SE} {p1 p2 p3 p4 : Pos}
theorem e_sortSet {mk : Mk} (hm : MkOk X.K mk) (hc : X.calm = true) (hg : Gl X (Str.ofString "sorted")) (hm1 : X.mg (Str.ofString "sorted") = none) (hg2 : Gl X (Str.ofString "set")) (hm2 : X.mg (Str.ofString "set") = none) (ha : PE X a (rdE X.K P E ca))
    (he : starEach [a] X.env = (false, eval a X.env) :: starEach [] X.env := by rfl) (hpl : (backTo p2 (starEach [] X.env)).any (·.1) = false := by rfl)
    (he2 : starEach [.Call (.Name (Str.ofString "set") p1) [a] [] p2] X.env = (false, eval (.Call (.Name (Str.ofString "set") p1) [a] [] p2) X.env) :: starEach [] X.env := by rfl) (hpl2 : (backTo p4 (starEach [] X.env)).any (·.1) = false := by rfl) :
    PE X (.Call (.Name (Str.ofString "sorted") p3) [.Call (.Name (Str.ofString "set") p1) [a] [] p2] [] p4) (rdE X.K P E (eSortSet mk ca)) :=
  pe_weak (pe_callB (cr_sortedSet hc) hg hm1 boot_sorted (pa_cons (pe_callTy (call_setI hc) hg2 hm2 boot_set (pa_cons ha pa_nil he) (by decide) (by decide) he hpl) pa_nil he2) (by decide) (by decide) he2 hpl2) fun σ H Q ⟨ρ, F, st, env, o, I, R, h, p⟩ => by
    refine rdE_bind I R h p fun v ρ1 F1 H1 x st1 t1 I1 R1 r1 h1 p1 => ?_
    split at h1
    · rename_i ys hy
      obtain ⟨ns, h2, h3⟩ := Option.bind_eq_some_iff.mp h1
      split at h3
      · rename_i hl
        obtain ⟨z, h4, h5⟩ := Option.map_eq_some_iff.mp h3
        subst h5
        obtain ⟨b, ws, rfl, g1, g2, g3⟩ := asSeq_ok I1 r1 hy
        have e := intsOf_ok g3 h2
        subst e
        have hs := g1 rfl
        refine ⟨b, ns, rfl, hs, by have := hl.1; unfold scanBound; omega, fun q hq => ?_⟩
        obtain ⟨t2, I2⟩ := junk I1 hq (SetO X.w q (fun j => decide (j ∈ ns)) (sortU ns).length)
        refine ⟨q, _, _, rfl, upd_same, hl.2, fun ms p' hr hmem hlen hp' => ?_⟩
        have e : ms = sortU ns := rise_ext hr (rise_sortU ns) fun k => by
          rw [hmem k, mem_sortU]
          simp
        subst e
        obtain ⟨ρ', F', t, I', r'⟩ := hm.run I2 hp' (vrs_ints _) h4
        exact p1 _ ρ' F' _ (t2.trans t) I' r'
      · cases h3
    · cases h1
/-- len(set(xs)) -/
def rLenSet (w : World) : List V → Hp → VK → Prop := fun vs H Q => ∃ (a : Addr) (S : Int → Bool) (n : Nat), vs = [V.ref a] ∧ H a = some (SetO w a S n) ∧ n < scanBound ∧ Q (.int n) H
theorem call_lenSet : CallR X (.builtin "len") (rLenSet X.w) := by
  intro pins s σ H vs us Q I r h
  obtain ⟨a, S, n, rfl, ha, hn, q⟩ := h
  rw [Vals.ref1 r]
  obtain ⟨o, es, ep, t, ho, hex, hd, _, _, _, hb, hf, hsz, _⟩ := setO_get I ha
  subst hsz
  refine call_len_set ho hex hd hf (by unfold scanBound at hn; omega) ⟨.int es.size, H, I.tok _, ⟨_, rfl⟩, q⟩
def eLenSet (a : SE) : SE := fun env st => obind (a env st) fun x st1 => match asSeq st1 x with
  | some (false, ys) => (intsOf ys).bind fun ns => if ns.length < 1000 then some (.ok (.d (.int (sortU ns).length)) st1) else none
  | _ => none
theorem e_lenSet (hc : X.calm = true) (hg : Gl X (Str.ofString "len")) (hm1 : X.mg (Str.ofString "len") = none) (hg2 : Gl X (Str.ofString "set")) (hm2 : X.mg (Str.ofString "set") = none) (ha : PE X a (rdE X.K P E ca))
    (he : starEach [a] X.env = (false, eval a X.env) :: starEach [] X.env := by rfl) (hpl : (backTo p2 (starEach [] X.env)).any (·.1) = false := by rfl)
    (he2 : starEach [.Call (.Name (Str.ofString "set") p1) [a] [] p2] X.env = (false, eval (.Call (.Name (Str.ofString "set") p1) [a] [] p2) X.env) :: starEach [] X.env := by rfl) (hpl2 : (backTo p4 (starEach [] X.env)).any (·.1) = false := by rfl) :
    PE X (.Call (.Name (Str.ofString "len") p3) [.Call (.Name (Str.ofString "set") p1) [a] [] p2] [] p4) (rdE X.K P E (eLenSet ca)) :=
  pe_weak (pe_callB call_lenSet hg hm1 PySem.boot_len (pa_cons (pe_callTy (call_setI hc) hg2 hm2 boot_set (pa_cons ha pa_nil he) (by decide) (by decide) he hpl) pa_nil he2) (by decide) (by decide) he2 hpl2) fun σ H Q ⟨ρ, F, st, env, o, I, R, h, p⟩ => by
    refine rdE_bind I R h p fun v ρ1 F1 H1 x st1 t1 I1 R1 r1 h1 p1 => ?_
    split at h1
    · rename_i ys hy
      obtain ⟨ns, h2, h3⟩ := Option.bind_eq_some_iff.mp h1
      split at h3
      · rename_i hl
        cases h3
        obtain ⟨b, ws, rfl, g1, g2, g3⟩ := asSeq_ok I1 r1 hy
        have e := intsOf_ok g3 h2
        subst e
        have hs := g1 rfl
        refine ⟨b, ns, rfl, hs, by unfold scanBound; omega, fun q hq => ?_⟩
        obtain ⟨t2, I2⟩ := junk I1 hq (SetO X.w q (fun j => decide (j ∈ ns)) (sortU ns).length)
        exact ⟨q, _, _, rfl, upd_same, by have := sortU_length ns; unfold scanBound; omega, p1 _ ρ1 F1 _ t2 I2 (.int _)⟩
      · cases h3
    · cases h1
end
end Sl
set_option Elab.async false
set_option linter.all false
set_option autoImplicit false
set_option maxRecDepth 100000
set_option maxHeartbeats 4000000
/-! sorted of lists of two ints -/
namespace SrtO
open PySem PyProof.Rows Srt
section
variable {prog : Program} {w : World} {A : Around} {E : Value → Shared → Prop} {s : Shared}
/-- a list of two ints -/
def IsPairL (h : Heap) (v : Value) (x y : Int) : Prop := ∃ (a : Addr) (t u : Tok), v = .ref a ∧ h.IsList a #[.int x t, .int y u]
theorem IsPairL.keeps {h h' : Heap} {v : Value} {x y : Int} (p : IsPairL h v x y) (k : ∀ b o, v = .ref b → h.get? b = some o → h'.get? b = some o) : IsPairL h' v x y := by
  obtain ⟨a, t, u, e, o, ho, r⟩ := p
  exact ⟨a, t, u, e, o, k _ _ e ho, r⟩
theorem listPair_cmp {vs : List Value} {k : Value → Int × Int} (hu : A.units + 1 < cLine) (hp : ∀ v ∈ vs, IsPairL s.heap v (k v).1 (k v).2) : Cmp prog w A s oneType' (fun p => p.1 ∈ vs) (lt2 fun v u => lexB (k v) (k u)) := by
  intro p q hm hm'
  have h1 := hp _ hm
  have h2 := hp _ hm'
  show wpAny (model prog w) A (keyLt' oneType' p.1 q.1) (fun r s' => s' = s ∧ r = lexB (k p.1) (k q.1)) (fun _ _ => False) s
  generalize (k p.1) = kp at h1 ⊢
  generalize (k q.1) = kq at h2 ⊢
  obtain ⟨a, t, u, e, hl⟩ := h1
  obtain ⟨b, t', u', e', hb⟩ := h2
  rw [e, e', keyLt'_oneType, oneLt'_eq]
  simp only [if_true]
  refine wpAny_bind (wpAny_cRoomFor (by omega) ?_)
  obtain ⟨o, ho, hc, hd⟩ := id hl
  have hT : s.TypeIs (.ref a) "list" := ⟨o, ho, hc⟩
  refine wpAny_bind (wpAny_callSpecialIfBound?_slot hT PySem.F.slot_list_lt ?_)
  refine PySem.SeqAt.call_list_lt (e := fun j => if j = 0 then kp.1 == kq.1 else kp.2 == kq.2) (r := fun j => if j = 0 then decide (kp.1 < kq.1) else decide (kp.2 < kq.2)) hl hb (fun j j1 j2 => ?_) (fun j j1 j2 hn => ?_) ?_
  · match j, j1 with
    | 0, _ => exact SeqAt.EqAt.int_int _ _ _ _
    | 1, _ => exact SeqAt.EqAt.int_int _ _ _ _
  · intro prog' w' E' Q' hq
    match j, j1 with
    | 0, _ => exact PyProof.Rows.lt_int hq
    | 1, _ => exact PyProof.Rows.lt_int hq
  · refine wpAny_truthy_bool ⟨rfl, ?_⟩
    show PySem.SeqAt.firstLt _ _ _ [0, 1] = _
    unfold lexB
    by_cases h0 : kp.1 = kq.1
    · rw [PySem.SeqAt.firstLt_yes (by simp [h0]), if_pos h0]
      by_cases h1 : kp.2 = kq.2
      · rw [PySem.SeqAt.firstLt_yes (by simp [h1])]
        simp [PySem.SeqAt.firstLt, h1]
      · rw [PySem.SeqAt.firstLt_no (by simp [h1])]
        simp
    · rw [PySem.SeqAt.firstLt_no (by simp [h0]), if_neg h0]
      simp
theorem listPair_kind {vs : List Value} {k : Value → Int × Int} {Q : SortKind → Shared → Prop} (h2 : 2 ≤ vs.length) (hp : ∀ v ∈ vs, IsPairL s.heap v (k v).1 (k v).2) (hq : Q oneType' s) : wpAny (model prog w) A (keyKind' vs.toArray) Q E s := by
  have hty : ∀ v ∈ vs, s.TypeIs v "list" := fun v hv => by
    obtain ⟨a, t, u, e, o, ho, hc, _⟩ := hp v hv
    exact e ▸ ⟨o, ho, hc⟩
  rw [keyKind'_eq, List.mapM_toArray, map_eq_pure_bind]
  refine wpAny_bind (wpAny_bind (PySem.W.kas_mapM (r := none) _ (fun v hv Q' hq' => ?_) (wpAny_pure ?_)))
  · show wpAny _ _ (do
      if (← typeOf v) != .type "tuple" then return none
      return (← Builtin.List.listItems v)[0]?) _ _ _
    refine wpAny_bind (wpAny_typeOf (hty v hv) ?_)
    rw [if_pos (by decide)]
    exact wpAny_pure hq'
  · rw [if_neg (by
      match vs, h2 with
      | v1 :: v2 :: r, _ => simp)]
    rw [if_neg (by
      match vs, h2 with
      | v1 :: v2 :: r, _ => simp)]
    rw [oneTypeOnly'_eq, List.mapM_toArray, map_eq_pure_bind]
    refine wpAny_bind (wpAny_bind (wpAny_bind (PySem.W.kas_mapM (r := Value.type "list") _ (fun v hv Q' hq' => wpAny_typeOf (hty v hv) hq') (wpAny_pure ?_))))
    have hall : ((List.map (fun _ => Value.type "list") vs).toArray.all fun x => x == Value.type "list") = true := by
      simp only [List.all_toArray, List.all_map, List.all_eq_true]
      intro _ _
      rfl
    have h0 : (List.map (fun _ => Value.type "list") vs).toArray[0]? = some (Value.type "list") := by
      match vs, h2 with
      | v1 :: v2 :: r, _ => simp
    rw [h0]
    simp only [hall, if_true]
    exact wpAny_pure (wpAny_pure hq)
end
end SrtO
namespace Sl
open PySem PySem.Spec PyProof.Rows L2
theorem isPairL_fun {h : Heap} {v : Value} {p q : Int × Int} (a : SrtO.IsPairL h v p.1 p.2) (b : SrtO.IsPairL h v q.1 q.2) : p = q := by
  obtain ⟨t, t1, t2, e, o, ho, _, n, hd⟩ := a
  obtain ⟨t', t1', t2', e', o', ho', _, n', hd'⟩ := b
  cases e.symm.trans e'
  have eo := Option.some.inj (ho.symm.trans ho')
  have hd2 := hd'
  rw [← eo] at hd2
  have z := hd.symm.trans hd2
  obtain ⟨p1, p2⟩ := p
  obtain ⟨q1, q2⟩ := q
  simp at z
  obtain ⟨⟨⟨a1, _⟩, a2, _⟩, _⟩ := z
  exact Prod.ext a1 a2
open Classical in
noncomputable def kH (h : Heap) (v : Value) : Int × Int := if c : ∃ p : Int × Int, SrtO.IsPairL h v p.1 p.2 then c.choose else (0, 0)
theorem kH_eq {h : Heap} {v : Value} {p : Int × Int} (a : SrtO.IsPairL h v p.1 p.2) : kH h v = p := by
  unfold kH
  have c : ∃ p : Int × Int, SrtO.IsPairL h v p.1 p.2 := ⟨p, a⟩
  rw [dif_pos c]
  exact isPairL_fun c.choose_spec a
/-- the order of pairs -/
def leP (p q : Int × Int) : Prop := p.1 < q.1 ∨ (p.1 = q.1 ∧ p.2 ≤ q.2)
instance (p q : Int × Int) : Decidable (leP p q) := by unfold leP; exact inferInstance
/-- sorted(xs), xs a list of lists of two ints -/
def rSortedLP (K : Kf) : List V → Hp → VK → Prop := fun vs H Q => ∃ (a : Addr) (xs : List V) (ps : List (Int × Int)), vs = [V.ref a] ∧ SqL K H a xs ∧ Paired (fun x p => ∃ t, x = V.ref t ∧ SqL K H t [.int p.1, .int p.2]) xs ps ∧
  ∀ (zs : List (V × Int × Int)) p, zs.Perm (xs.zip ps) → (zs.map (·.2)).Pairwise leP → H p = none → Q (.ref p) (upd H p (.lst (zs.map (·.1))))
theorem zip_map {α β γ : Type} {f : γ → α} {g : γ → β} : ∀ l : List γ, (l.map f).zip (l.map g) = l.map fun x => (f x, g x)
  | [] => rfl
  | x :: l => congrArg ((f x, g x) :: ·) (zip_map l)
theorem cr_sortedLP {X : Cx} (hu : X.A.units + 8 < cLine) : CallR X (.builtin "sorted") (rSortedLP X.K) := by
  intro pins s σ H vs us Q I r h
  obtain ⟨a, xs, ps, rfl, hs, hx, q⟩ := h
  obtain ⟨its, rv, hl, hz⟩ := I.list hs
  obtain ⟨u, rfl, ru⟩ := vals1 r
  obtain rfl : u = Value.ref a := ru
  have hp0 : ∀ {xs : List V} {ps : List (Int × Int)} {its : List Value}, Vals xs its → Paired (fun x p => ∃ t, x = V.ref t ∧ SqL X.K H t [.int p.1, .int p.2]) xs ps →
      xs = its.map backV ∧ ps = its.map (kH s.heap) ∧ ∀ v ∈ its, ∃ t, v = Value.ref t ∧ SrtO.IsPairL s.heap v (kH s.heap v).1 (kH s.heap v).2 := by
    intro xs ps its rv
    induction rv generalizing ps with
    | nil =>
      intro h
      cases h
      exact ⟨rfl, rfl, fun _ h => nomatch h⟩
    | cons r0 rs ih =>
      intro h
      cases h with
      | cons r1 r2 =>
        rename_i x v xs' vs' p ps'
        obtain ⟨e1, e2, e3⟩ := ih r2
        obtain ⟨t, rfl, ht⟩ := r1
        obtain rfl : v = Value.ref t := r0
        obtain ⟨its2, r2, l2, _⟩ := I.list ht
        obtain ⟨u1, u2, rfl, ri, rj⟩ := vals2 r2
        obtain ⟨t1, rfl⟩ := ri
        obtain ⟨t2, rfl⟩ := rj
        have z : SrtO.IsPairL s.heap (.ref t) p.1 p.2 := ⟨t, t1, t2, rfl, l2.isList⟩
        have ek := kH_eq z
        refine ⟨by rw [e1]; rfl, by rw [List.map_cons, ek, e2], fun v hv => ?_⟩
        rcases List.mem_cons.mp hv with e | hv
        · subst e
          rw [ek]
          exact ⟨t, rfl, z⟩
        · exact e3 v hv
  obtain ⟨e1, e2, e3⟩ := hp0 rv hx
  have hp : ∀ v ∈ its, SrtO.IsPairL s.heap v (kH s.heap v).1 (kH s.heap v).2 := fun v hv => by
    obtain ⟨_, _, z⟩ := e3 v hv
    exact z
  refine SrtO.sorted_ord (SrtO.swo_lex fun u => kH s.heap u) hl.isList (by rw [← rv.length]; exact hz) (fun h2 h₁ a' ha kk => ?_) fun out h1 h2 => ?_
  · intro h' keep
    have hp' : ∀ v ∈ its, SrtO.IsPairL h' v (kH s.heap v).1 (kH s.heap v).2 := fun v hv => (hp v hv).keeps fun b o _ e => keep b o (kk b o e).1 (kk b o e).2
    refine ⟨PyProof.Rows.oneType', fun Q' E' hq => SrtO.listPair_kind (s := { s with heap := h' }) h2 hp' hq, SrtO.listPair_cmp (s := { s with heap := h' }) ?_ hp'⟩
    show X.A.in1.in1.units + 1 < cLine
    have e : X.A.in1.in1.units ≤ X.A.units + 2 := by first | exact Nat.le_refl _ | (simp [Around.in1]) | omega
    omega
  · have h3 : ∀ u ∈ out, ∃ a, u = Value.ref a := fun u hu => by
      obtain ⟨t, z, _⟩ := e3 u (h2.perm.mem_iff.mp hu)
      exact ⟨t, z⟩
    obtain ⟨n, hn⟩ := PyProof.Rows.sortedAll_at s.heap its out.toArray
    have hb : (out.map fun u => (backV u, kH s.heap u)).Perm (xs.zip ps) := by
      rw [e1, e2, zip_map]
      exact h2.perm.map _
    have hm : (out.map fun u => (backV u, kH s.heap u)).map (·.1) = out.map backV := by rw [List.map_map]; rfl
    have hk : (out.map fun u => (backV u, kH s.heap u)).map (·.2) = out.map (kH s.heap) := by rw [List.map_map]; rfl
    have q' := q _ (s.heap.objs.size + 1) hb (by
      rw [hk]
      exact List.pairwise_map.mpr (h1.imp fun {x y} h => by
        have z := SrtO.lexB_no.mp h
        unfold leP
        omega)) (I.hok.fresh (Nat.le_succ _))
    rw [hm] at q'
    refine ⟨.ref (s.heap.objs.size + 1), upd H (s.heap.objs.size + 1) (.lst (out.map backV)), I.laid (t' := s.toks) (fun b o e => PyProof.Rows.sortedAll_old e) (Nat.le_succ _) ⟨?_, out, n, vals_back h3, hn⟩, rfl, q'⟩
    have e := h2.perm.length_eq
    rw [List.length_map, e]
    rw [e1, List.length_map] at hz
    exact hz
def sortP (ps : List (Int × Int)) : List (Int × Int) := ps.mergeSort fun a b => decide (leP a b)
theorem sortP_perm (ps : List (Int × Int)) : (sortP ps).Perm ps := List.mergeSort_perm _ _
theorem sortP_rises (ps : List (Int × Int)) : (sortP ps).Pairwise leP := by
  have h := List.pairwise_mergeSort (le := fun a b : Int × Int => decide (leP a b)) (fun a b c h1 h2 => by
    have a := of_decide_eq_true h1
    have b := of_decide_eq_true h2
    refine decide_eq_true ?_
    unfold leP at *
    omega) (fun a b => by
    simp only [Bool.or_eq_true, decide_eq_true_eq]
    unfold leP
    omega) ps
  exact h.imp fun h => of_decide_eq_true h
theorem sortP_only {ns ms : List (Int × Int)} (hp : ms.Perm ns) (hs : ms.Pairwise leP) : ms = sortP ns := by
  refine List.Perm.eq_of_pairwise (le := leP) (fun a b _ _ h1 h2 => ?_) hs (sortP_rises ns) (hp.trans (sortP_perm ns).symm)
  unfold leP at h1 h2
  exact Prod.ext (by omega) (by omega)
def pairsD : List VL → Option (List (Int × Int))
  | [] => some []
  | .d (.list [.int i, .int j]) :: r => (pairsD r).map ((i, j) :: ·)
  | _ => none
def pairD (p : Int × Int) : VL := .d (.list [.int p.1, .int p.2])
def cSortedP (mk : Mk) : OpC := fun st xs => match xs with
  | [x] => match asSeq st x with
    | some (false, ys) => (pairsD ys).bind fun ps => mk ((sortP ps).map pairD) st
    | _ => none
  | _ => none
theorem pairsD_eq : ∀ {ys : List VL} {ps : List (Int × Int)}, pairsD ys = some ps → ys = ps.map pairD
  | [], _, h => by cases h; rfl
  | x :: r, ps, h => by
    unfold pairsD at h
    split at h
    · rename_i e
      cases e
    · rename_i i j r' e
      cases e
      obtain ⟨qs, e1, rfl⟩ := Option.map_eq_some_iff.mp h
      rw [List.map_cons, pairsD_eq e1]
      rfl
    · cases h
section
variable {K : Kf}
theorem pairs_of {ρ : List Addr} {F H : Hp} (e : Evl.Ex F H) : ∀ {vs : List V} {ps : List (Int × Int)}, VRs K ρ F vs (ps.map pairD) → Paired (fun x p => ∃ t, x = V.ref t ∧ SqL K H t [.int p.1, .int p.2]) vs ps
  | _, [], h => by
    cases h
    exact .nil
  | _, p :: ps, h => by
    cases h with
    | cons r rs =>
      refine .cons ?_ (pairs_of e rs)
      have r' : Dq K F _ (.list [.int p.1, .int p.2]) := r
      cases r' with
      | lst s a =>
        cases a with
        | cons a1 a2 =>
          cases a2 with
          | cons a3 a4 =>
            cases a4
            cases a1
            cases a3
            exact ⟨_, rfl, Evl.ex_l e s⟩
theorem zip_mem {ρ : List Addr} {F : Hp} : ∀ {vs : List V} {ps : List (Int × Int)}, VRs K ρ F vs (ps.map pairD) → ∀ z ∈ vs.zip ps, VR K ρ F z.1 (pairD z.2)
  | _, [], h, z, hz => by
    cases h
    cases hz
  | _, p :: ps, h, z, hz => by
    cases h with
    | cons r rs =>
      rcases List.mem_cons.mp hz with e | hz
      · subst e
        exact r
      · exact zip_mem rs z hz
theorem vrs_zip {ρ : List Addr} {F : Hp} : ∀ zs : List (V × Int × Int), (∀ z ∈ zs, VR K ρ F z.1 (pairD z.2)) → VRs K ρ F (zs.map (·.1)) ((zs.map (·.2)).map pairD)
  | [], _ => .nil
  | z :: zs, h => .cons (h z List.mem_cons_self) (vrs_zip zs fun y hy => h y (List.mem_cons_of_mem _ hy))
theorem zip_snd {α β : Type} : ∀ {xs : List α} {ys : List β}, xs.length = ys.length → (xs.zip ys).map (·.2) = ys
  | [], [], _ => rfl
  | _ :: _, _ :: _, h => congrArg _ (zip_snd (Nat.succ.inj h))
theorem pr_sortedP {mk : Mk} (hm : MkOk K mk) : PrC K (rSortedLP K) (cSortedP mk) where
  run := fun {P ρ F H st st' vs xs z Q} I r h q => by
    unfold cSortedP at h
    split at h
    · rename_i x
      obtain ⟨v, rfl, rx⟩ := vrs1 r
      split at h
      · rename_i ys e
        obtain ⟨ps, h1, h2⟩ := Option.bind_eq_some_iff.mp h
        obtain ⟨a, ws, rfl, e1, _, e3⟩ := (asSeq_ok I rx e).ex
        have e1 := e1 rfl
        obtain rfl := pairsD_eq h1
        refine ⟨a, ws, ps, rfl, e1, pairs_of I.ex e3, fun zs p hp hs hn => ?_⟩
        have hlen : ws.length = ps.length := by
          have := paired_len e3
          rw [List.length_map] at this
          exact this
        have e5 : zs.map (·.2) = sortP ps := by
          refine sortP_only ?_ hs
          have := hp.map (·.2)
          rw [zip_snd hlen] at this
          exact this
        have r2 : VRs K ρ F (zs.map (·.1)) ((sortP ps).map pairD) := by
          rw [← e5]
          exact vrs_zip zs fun z hz => zip_mem e3 z (hp.mem_iff.mp hz)
        obtain ⟨ρ', F', t, I', r'⟩ := hm.run I hn r2 h2
        exact q _ _ _ _ t I' r'
      · cases h
    · cases h
end
/-! ### names of built-ins, lengths of argument lists -/
theorem bt_len : bootBuiltins "len" = some (.builtin "len") := by decide +kernel
theorem bt_sorted : bootBuiltins "sorted" = some (.builtin "sorted") := by decide +kernel
theorem bt_abs : bootBuiltins "abs" = some (.builtin "abs") := by decide +kernel
theorem bt_int : bootBuiltins "int" = some (.type "int") := by decide +kernel
theorem bt_bool : bootBuiltins "bool" = some (.type "bool") := by decide +kernel
theorem bt_str : bootBuiltins "str" = some (.type "str") := by decide +kernel
theorem bt_list : bootBuiltins "list" = some (.type "list") := by decide +kernel
theorem bt_tuple : bootBuiltins "tuple" = some (.type "tuple") := by decide +kernel
theorem bt_dict : bootBuiltins "dict" = some (.type "dict") := by decide +kernel
theorem alen_nil (env : Env) (st : Sto) (xs : List VL) (st1 : Sto) (h : aNil env st = some (.ok xs st1)) : xs.length = 0 := by
  cases h
  rfl
theorem alen_cons {c : SE} {cs : SL} {n : Nat} (h : ∀ env st xs st1, cs env st = some (.ok xs st1) → xs.length = n) (env : Env) (st : Sto) (xs : List VL) (st1 : Sto) (e : aCons c cs env st = some (.ok xs st1)) : xs.length = n + 1 := by
  unfold aCons at e
  split at e
  · cases e
  · cases e
  · split at e
    · cases e
    · cases e
    · rename_i rs st2 e2
      cases e
      rw [List.length_cons, h _ _ _ _ e2]
theorem room8 {A : Around} {k : Nat} (h : Room k A) : A.units + 8 < cLine := by
  have := h.units
  omega
end Sl
namespace Sl
open PySem PySem.Spec PyProof.Rows L2
section
variable {X : Cx} {P : Par} {E E' : XK}
variable {elt tg iter : Expr} {ifs : List Expr} {scope : Scope} {own : List (Str × Nat)} {vs : List Nat} {pos : Pos} {T : List Nat} {it : SI} {ca : SE} {g : Tg} {ct ce : SE} {mk : Mk}
theorem e_compV (hm : MkOk X.K mk) (hc : X.calm = true) (hN : X.N.Nodup) (hi : PI X tg iter (rdI X.K P E it)) (ok : BlkOk X.N X.env.scope scope own)
    (hg : ∀ (s : Shared) (H : Hp) (C : Addr) (cl : List (Str × Addr)) (fp : List Addr), PG (X.blk s H scope (compEnvC scope cl C X.env) fp) tg (rdG X.K T g)) (ht : ∀ (s : Shared) (H : Hp) (C : Addr) (cl : List (Str × Addr)) (fp : List Addr), PTs (X.blk s H scope (compEnvC scope cl C X.env) fp) ifs (rdT X.K P E' ct))
    (he : ∀ (s : Shared) (H : Hp) (C : Addr) (cl : List (Str × Addr)) (fp : List Addr), PE (X.blk s H scope (compEnvC scope cl C X.env) fp) elt (rdE X.K P E' ce)) (hv : own.map (·.2) = vs := by rfl) (hT : ∀ i, i ∈ T → i ∈ own.map (·.2) := by decide) (hs : ∀ x, foldedSetIterable iter X.env x = pure x := by intro _; rfl) :
    PE X (.ListComp elt [⟨tg, iter, ifs, 0⟩] scope pos) (rdE X.K P E (eComp mk it g ct ce vs)) := by
  subst hv
  exact e_comp hm hc hN hi ok hg ht he hT hs
theorem e_compSV (hm : MkOk X.K mk) (hc : X.calm = true) (hN : X.N.Nodup) (hi : PE X iter (rdE X.K P E ca)) (ok : BlkOk X.N X.env.scope scope own)
    (hg : ∀ (s : Shared) (H : Hp) (C : Addr) (cl : List (Str × Addr)) (fp : List Addr), PG (X.blk s H scope (compEnvC scope cl C X.env) fp) tg (rdG X.K T g)) (ht : ∀ (s : Shared) (H : Hp) (C : Addr) (cl : List (Str × Addr)) (fp : List Addr), PTs (X.blk s H scope (compEnvC scope cl C X.env) fp) ifs (rdT X.K P E' ct))
    (he : ∀ (s : Shared) (H : Hp) (C : Addr) (cl : List (Str × Addr)) (fp : List Addr), PE (X.blk s H scope (compEnvC scope cl C X.env) fp) elt (rdE X.K P E' ce)) (hv : own.map (·.2) = vs := by rfl) (hT : ∀ i, i ∈ T → i ∈ own.map (·.2) := by decide) (hs : ∀ x, foldedSetIterable iter X.env x = pure x := by intro _; rfl) :
    PE X (.ListComp elt [⟨tg, iter, ifs, 0⟩] scope pos) (rdE X.K P E (eCompS mk ca g ct ce vs)) := by
  subst hv
  exact e_compS hm hc hN hi ok hg ht he hT hs
variable {i : Nat} {y : Str} {py spos : Pos}
theorem s_compV (hm : MkOk X.K mk) (hc : X.calm = true) (hN : X.N.Nodup) (hy : X.N[i]? = some y) (hyl : X.env.scope.names.lookup y = some .local)
    (hsw : swapsWith (.ListComp elt [⟨tg, iter, ifs, 0⟩] scope pos) (some (.Name y py)) spos.line X.env = pure true) (hi : PI X tg iter (rdI X.K P E it)) (ok : BlkOk X.N X.env.scope scope own)
    (hg : ∀ (s : Shared) (H : Hp) (C : Addr) (cl : List (Str × Addr)) (fp : List Addr), PG (X.blk s H scope (compEnvC scope cl C X.env) fp) tg (rdG X.K T g)) (ht : ∀ (s : Shared) (H : Hp) (C : Addr) (cl : List (Str × Addr)) (fp : List Addr), PTs (X.blk s H scope (compEnvC scope cl C X.env) fp) ifs (rdT X.K P E' ct))
    (he : ∀ (s : Shared) (H : Hp) (C : Addr) (cl : List (Str × Addr)) (fp : List Addr), PE (X.blk s H scope (compEnvC scope cl C X.env) fp) elt (rdE X.K P E' ce)) (hv : own.map (·.2) = vs := by rfl) (hT : ∀ i, i ∈ T → i ∈ own.map (·.2) := by decide) (hs : ∀ x, foldedSetIterable iter X.env x = pure x := by intro _; rfl) :
    PS X (.Assign [.Name y py] (.ListComp elt [⟨tg, iter, ifs, 0⟩] scope pos) spos) (rdS X.K P E (sAsg (eComp mk it g ct ce vs) (gN i))) := by
  subst hv
  exact s_comp hm hc hN hy hyl hsw hi ok hg ht he hT hs
theorem s_compSV (hm : MkOk X.K mk) (hc : X.calm = true) (hN : X.N.Nodup) (hy : X.N[i]? = some y) (hyl : X.env.scope.names.lookup y = some .local)
    (hsw : swapsWith (.ListComp elt [⟨tg, iter, ifs, 0⟩] scope pos) (some (.Name y py)) spos.line X.env = pure true) (hi : PE X iter (rdE X.K P E ca)) (ok : BlkOk X.N X.env.scope scope own)
    (hg : ∀ (s : Shared) (H : Hp) (C : Addr) (cl : List (Str × Addr)) (fp : List Addr), PG (X.blk s H scope (compEnvC scope cl C X.env) fp) tg (rdG X.K T g)) (ht : ∀ (s : Shared) (H : Hp) (C : Addr) (cl : List (Str × Addr)) (fp : List Addr), PTs (X.blk s H scope (compEnvC scope cl C X.env) fp) ifs (rdT X.K P E' ct))
    (he : ∀ (s : Shared) (H : Hp) (C : Addr) (cl : List (Str × Addr)) (fp : List Addr), PE (X.blk s H scope (compEnvC scope cl C X.env) fp) elt (rdE X.K P E' ce)) (hv : own.map (·.2) = vs := by rfl) (hT : ∀ i, i ∈ T → i ∈ own.map (·.2) := by decide) (hs : ∀ x, foldedSetIterable iter X.env x = pure x := by intro _; rfl) :
    PS X (.Assign [.Name y py] (.ListComp elt [⟨tg, iter, ifs, 0⟩] scope pos) spos) (rdS X.K P E (sAsg (eCompS mk ca g ct ce vs) (gN i))) := by
  subst hv
  exact s_compS hm hc hN hy hyl hsw hi ok hg ht he hT hs
end
end Sl
set_option Elab.async false
set_option linter.all false
set_option autoImplicit false
set_option maxRecDepth 100000
set_option maxHeartbeats 1000000
/-! reading the combinators: loops, comprehensions, dicts, new objects forgotten -/
namespace Sl
open PySem PySem.Spec PyProof.Rows L2

/-! ### loops -/
/-- what a turn's end means: go on | the loop's end -/
def turnTo (N : Env → Sto → Prop) (R : Fl → Prop) : Fl → Prop
  | .nx e s => N e s
  | .ct e s => N e s
  | .bk e s => R (.nx e s)
  | .rt r s => R (.rt r s)
  | .ex c fs s => R (.ex c fs s)
theorem forL_wp {g : Tg} {body : SS} (I : List VL → Env → Sto → Prop) {R : Fl → Prop} (step : ∀ x xs env st, I (x :: xs) env st → ∃ e1 o, g x env = some e1 ∧ body e1 st = some o ∧ turnTo (I xs) R o) (fin : ∀ env st, I [] env st → R (.nx env st)) :
    ∀ (xs : List VL) (env : Env) (st : Sto), I xs env st → ∃ o, forL g body xs env st = some o ∧ R o
  | [], env, st, h => ⟨_, rfl, fin env st h⟩
  | x :: xs, env, st, h => by
    obtain ⟨e1, o, h1, h2, h3⟩ := step x xs env st h
    unfold forL
    rw [h1]
    dsimp only
    rw [h2]
    cases o with
    | nx e s => exact forL_wp I step fin xs e s h3
    | ct e s => exact forL_wp I step fin xs e s h3
    | bk e s => exact ⟨_, rfl, h3⟩
    | rt r s => exact ⟨_, rfl, h3⟩
    | ex c fs s => exact ⟨_, rfl, h3⟩
/-- over things of Lean: a fold that may end early -/
theorem forL_fold {α σ : Type} {g : Tg} {body : SS} (v : α → VL) (f : σ → α → Option σ) (enc : σ → Env → Sto → Prop) {R : Fl → Prop} {xs : List α}
    (step : ∀ s a env st, a ∈ xs → enc s env st → ∃ e1 o, g (v a) env = some e1 ∧ body e1 st = some o ∧ (match f s a with
      | some s' => ∃ e' st', (o = .nx e' st' ∨ o = .ct e' st') ∧ enc s' e' st'
      | none => R o ∧ ∀ e' st', o ≠ .nx e' st' ∧ o ≠ .ct e' st' ∧ o ≠ .bk e' st')) :
    ∀ (s : σ) (env : Env) (st : Sto), enc s env st → ∃ o, forL g body (xs.map v) env st = some o ∧ (match xs.foldlM f s with
      | some s' => ∃ e' st', o = .nx e' st' ∧ enc s' e' st'
      | none => R o) := by
  induction xs with
  | nil => exact fun s env st h => ⟨_, rfl, _, _, rfl, h⟩
  | cons a xs ih =>
    intro s env st h
    obtain ⟨e1, o, h1, h2, h3⟩ := step s a env st List.mem_cons_self h
    rw [List.map_cons, List.foldlM_cons]
    unfold forL
    rw [h1]
    dsimp only
    rw [h2]
    cases hf : f s a with
    | some s' =>
      rw [hf] at h3
      obtain ⟨e', st', h4, h5⟩ := h3
      obtain ⟨o', k1, k2⟩ := ih (fun s a env st ha => step s a env st (List.mem_cons_of_mem _ ha)) s' e' st' h5
      rcases h4 with rfl | rfl
      · exact ⟨o', k1, k2⟩
      · exact ⟨o', k1, k2⟩
    | none =>
      rw [hf] at h3
      obtain ⟨h4, h5⟩ := h3
      cases o with
      | nx e s => exact absurd rfl (h5 e s).1
      | ct e s => exact absurd rfl (h5 e s).2.1
      | bk e s => exact absurd rfl (h5 e s).2.2
      | rt r s => exact ⟨_, rfl, h4⟩
      | ex c fs s => exact ⟨_, rfl, h4⟩
/-- a loop whose every turn ends normally -/
theorem forL_inv {α : Type} {g : Tg} {body : SS} (v : α → VL) (xs : List α) (I : Nat → Env → Sto → Prop)
    (step : ∀ i a env st, xs[i]? = some a → I i env st → ∃ e1 e2 st2, g (v a) env = some e1 ∧ body e1 st = some (.nx e2 st2) ∧ I (i + 1) e2 st2) {env : Env} {st : Sto} (h0 : I 0 env st) :
    ∃ e' st', forL g body (xs.map v) env st = some (.nx e' st') ∧ I xs.length e' st' := by
  have key : ∀ (ys : List α) (i : Nat) (env : Env) (st : Sto), xs.drop i = ys → I i env st → ∃ e' st', forL g body (ys.map v) env st = some (.nx e' st') ∧ I (i + ys.length) e' st' := by
    intro ys
    induction ys with
    | nil => exact fun i env st _ h => ⟨_, _, rfl, h⟩
    | cons a ys ih =>
      intro i env st hd h
      have ha : xs[i]? = some a := by
        have : (xs.drop i)[0]? = some a := by rw [hd]; rfl
        rw [List.getElem?_drop] at this
        exact this
      obtain ⟨e1, e2, st2, h1, h2, h3⟩ := step i a env st ha h
      have hd2 : xs.drop (i + 1) = ys := by
        rw [← List.drop_drop, hd]
        rfl
      obtain ⟨e', st', k1, k2⟩ := ih (i + 1) e2 st2 hd2 h3
      refine ⟨e', st', ?_, by rw [List.length_cons, Nat.add_comm ys.length 1, ← Nat.add_assoc]; exact k2⟩
      rw [List.map_cons]
      unfold forL
      rw [h1]
      dsimp only
      rw [h2]
      exact k1
  have := key xs 0 env st (by simp) h0
  rw [Nat.zero_add] at this
  exact this
/-! ### comprehensions -/
theorem compL_pure {α : Type} {g : Tg} {t e : SE} {env : Env} {st : Sto} (v : α → VL) (p : α → Bool) (f : α → VL) : ∀ (xs : List α) (acc : List VL), acc.length + xs.length ≤ sizeLine →
    (∀ a, a ∈ xs → ∃ e1, g (v a) env = some e1 ∧ t e1 st = some (.ok (.d (.bool (p a))) st) ∧ (p a = true → e e1 st = some (.ok (f a) st))) →
    compL g t e env (xs.map v) acc st = some (acc ++ (xs.filter p).map f, st)
  | [], acc, _, _ => by simp [compL]
  | a :: xs, acc, hl, h => by
    obtain ⟨e1, h1, h2, h3⟩ := h a List.mem_cons_self
    have ih := fun acc hl => compL_pure (g := g) (t := t) (e := e) (env := env) (st := st) v p f xs acc hl fun a ha => h a (List.mem_cons_of_mem _ ha)
    rw [List.length_cons] at hl
    rw [List.map_cons]
    unfold compL
    rw [h1]
    dsimp only
    rw [h2]
    cases hp : p a with
    | true =>
      dsimp only
      rw [h3 hp]
      dsimp only
      rw [if_pos (by omega), ih _ (by rw [List.length_append, List.length_singleton]; omega), List.filter_cons, if_pos hp]
      simp
    | false =>
      dsimp only
      rw [ih acc (by omega), List.filter_cons, if_neg (by rw [hp]; exact Bool.false_ne_true)]
theorem compL_inv {α : Type} {g : Tg} {t e : SE} {env : Env} (v : α → VL) (I : List VL → Sto → Prop) : ∀ (xs : List α) (acc : List VL) (st : Sto), acc.length + xs.length ≤ sizeLine → I acc st →
    (∀ a acc st, a ∈ xs → I acc st → ∃ e1 b st1, g (v a) env = some e1 ∧ t e1 st = some (.ok (.d (.bool b)) st1) ∧ (b = false → I acc st1) ∧ (b = true → ∃ y st2, e e1 st1 = some (.ok y st2) ∧ I (acc ++ [y]) st2)) →
    ∃ ys st', compL g t e env (xs.map v) acc st = some (ys, st') ∧ I ys st' ∧ ys.length ≤ acc.length + xs.length
  | [], acc, st, _, h, _ => ⟨acc, st, rfl, h, Nat.le_refl _⟩
  | a :: xs, acc, st, hl, h, hs => by
    rw [List.length_cons] at hl
    obtain ⟨e1, b, st1, h1, h2, h3, h4⟩ := hs a acc st List.mem_cons_self h
    have hs' := fun a acc st ha => hs a acc st (List.mem_cons_of_mem _ ha)
    rw [List.map_cons]
    unfold compL
    rw [h1]
    dsimp only
    rw [h2]
    cases b with
    | true =>
      obtain ⟨y, st2, h5, h6⟩ := h4 rfl
      obtain ⟨ys, st', k1, k2, k3⟩ := compL_inv v I xs (acc ++ [y]) st2 (by rw [List.length_append, List.length_singleton]; omega) h6 hs'
      refine ⟨ys, st', ?_, k2, by rw [List.length_append, List.length_singleton] at k3; rw [List.length_cons]; omega⟩
      dsimp only
      rw [h5]
      dsimp only
      rw [if_pos (by omega)]
      exact k1
    | false =>
      obtain ⟨ys, st', k1, k2, k3⟩ := compL_inv v I xs acc st1 (by omega) (h3 rfl) hs'
      exact ⟨ys, st', k1, k2, by rw [List.length_cons]; omega⟩
theorem compL_len {g : Tg} {t e : SE} {env : Env} : ∀ (xs : List VL) (acc : List VL) (st : Sto) (z : List VL × Sto), compL g t e env xs acc st = some z → z.1.length ≤ acc.length + xs.length
  | [], acc, st, z, h => by
    cases h
    exact Nat.le_refl _
  | x :: xs, acc, st, z, h => by
    unfold compL at h
    rw [List.length_cons]
    split at h
    · cases h
    · split at h
      · split at h
        · split at h
          · have := compL_len xs _ _ z h
            rw [List.length_append, List.length_singleton] at this
            omega
          · cases h
        · cases h
      · have := compL_len xs _ _ z h
        omega
      · cases h
/-! ### walks over data -/
theorem sForS_d {a : SE} {g : Tg} {body : SS} {env : Env} {st st1 : Sto} {x : PyData} {ds : List PyData} (h : a env st = some (.ok (.d x) st1)) (hx : x = .list ds ∨ x = .tuple ds) : sForS a g body env st = forL g body (ds.map .d) env st1 := by
  unfold sForS
  rw [h]
  rcases hx with rfl | rfl <;> rfl
theorem eCompS_d {a : SE} {g : Tg} {t e : SE} {vs : List Nat} {mk : Mk} {env : Env} {st st1 : Sto} {x : PyData} {ds : List PyData} (h : a env st = some (.ok (.d x) st1)) (hx : x = .list ds ∨ x = .tuple ds) :
    eCompS mk a g t e vs env st = (compL g t e (wipeE env vs) (ds.map .d) [] st1).bind fun z => (mk z.1 z.2).map fun z => .ok z.1 z.2 := by
  unfold eCompS
  rw [h]
  rcases hx with rfl | rfl <;> rfl
theorem rg1_nat {n : Nat} (hn : n < 2 ^ 62) (st : Sto) : rg1 [.d (.int n)] st = some (.ok ((List.range n).map fun (i : Nat) => VL.d (.int (i : Int))) st) := by
  have h2 : (n : Int) < 2 ^ 62 := by exact_mod_cast hn
  have h1 : -(2 ^ 62) ≤ (n : Int) := Int.le_trans (by decide) (Int.natCast_nonneg n)
  unfold rg1
  dsimp only
  rw [if_pos (by rw [decide_eq_true h1, decide_eq_true h2]; rfl)]
  unfold rgL
  rw [Int.toNat_natCast]
  congr 2
  refine List.map_congr_left fun i _ => ?_
  rw [Int.zero_add]
theorem ibindL_ok (xs : List VL) (st : Sto) (k : List VL → Sto → Option OutI) : ibindL (some (.ok xs st)) k = k xs st := rfl
theorem iR1_ok {c : SL} {env : Env} {st st1 : Sto} {xs : List VL} (h : c env st = some (.ok xs st1)) : iR1 c env st = rg1 xs st1 := by
  unfold iR1
  rw [h, ibindL_ok]
theorem sFor_ok {it : SI} {g : Tg} {body : SS} {env : Env} {st st1 : Sto} {xs : List VL} (h : it env st = some (.ok xs st1)) : sFor it g body env st = forL g body xs env st1 := by
  unfold sFor
  rw [h]
theorem eComp_ok {it : SI} {g : Tg} {t e : SE} {vs : List Nat} {mk : Mk} {env : Env} {st st1 : Sto} {xs : List VL} (h : it env st = some (.ok xs st1)) :
    eComp mk it g t e vs env st = (compL g t e (wipeE env vs) xs [] st1).bind fun z => (mk z.1 z.2).map fun z => .ok z.1 z.2 := by
  unfold eComp
  rw [h]
theorem sFor_r1 {c : SL} {g : Tg} {body : SS} {env : Env} {st st1 : Sto} {n : Nat} (hn : n < 2 ^ 62) (h : c env st = some (.ok [.d (.int n)] st1)) : sFor (iR1 c) g body env st = forL g body ((List.range n).map fun (i : Nat) => VL.d (.int (i : Int))) env st1 :=
  sFor_ok ((iR1_ok h).trans (rg1_nat hn st1))
theorem eComp_r1 {c : SL} {g : Tg} {t e : SE} {vs : List Nat} {mk : Mk} {env : Env} {st st1 : Sto} {n : Nat} (hn : n < 2 ^ 62) (h : c env st = some (.ok [.d (.int n)] st1)) :
    eComp mk (iR1 c) g t e vs env st = (compL g t e (wipeE env vs) ((List.range n).map fun (i : Nat) => VL.d (.int (i : Int))) [] st1).bind fun z => (mk z.1 z.2).map fun z => .ok z.1 z.2 :=
  eComp_ok ((iR1_ok h).trans (rg1_nat hn st1))
/-! ### lists of data -/
theorem allD_map' : ∀ l : List PyData, allD (l.map VL.d) = some l
  | [] => rfl
  | x :: l => by
    show (allD (l.map VL.d)).map (x :: ·) = _
    rw [allD_map' l]
    rfl
theorem mkD_map (l : List PyData) (st : Sto) : mkD (l.map .d) st = some (.d (.list l), st) := by
  unfold mkD
  rw [allD_map']
  rfl
theorem mkT_map (l : List PyData) (st : Sto) : mkT (l.map .d) st = some (.d (.tuple l), st) := by
  unfold mkT
  rw [allD_map']
  rfl
theorem intsOf_map : ∀ l : List Int, intsOf (l.map fun i => VL.d (.int i)) = some l
  | [] => rfl
  | x :: l => by
    show (intsOf (l.map fun i => VL.d (.int i))).map (x :: ·) = _
    rw [intsOf_map l]
    rfl
theorem flats_map : ∀ l : List PyData, (∀ d ∈ l, flatD d = true) → flats (l.map VL.d) = some l
  | [], _ => rfl
  | x :: l, h => by
    show (if flatD x then (flats (l.map VL.d)).map (x :: ·) else none) = _
    rw [h x List.mem_cons_self, flats_map l fun d hd => h d (List.mem_cons_of_mem _ hd)]
    rfl
theorem atI_nat {α : Type} (xs : List α) (i : Nat) : atI xs (i : Int) = xs[i]? := by
  unfold atI ixN
  by_cases h : i < xs.length
  · have h1 : (0 : Int) ≤ i := by omega
    have h2 : (i : Int) < xs.length := by exact_mod_cast h
    simp [h1, h2, h]
  · have h2 : ¬ ((i : Int) < xs.length) := by exact_mod_cast h
    have h3 : xs[i]? = none := List.getElem?_eq_none_iff.mpr (by omega)
    rw [h3]
    simp [h2]
    try omega
theorem inS_ints (neg : Bool) (st : Sto) (i : Int) (y : VL) (b : Bool) (r : List Int) (h : asSeq st y = some (b, (r.map PyData.int).map VL.d)) : oInS neg st (.d (.int i)) y = some (.d (.bool (if neg then !decide (i ∈ r) else decide (i ∈ r))), st) := by
  have q : ((r.map PyData.int).any fun e => PyData.eqv e (.int i)) = decide (i ∈ r) := by
    clear h
    induction r with
    | nil => rfl
    | cons x r ih =>
      rw [List.map_cons, List.any_cons, ih]
      by_cases e : x = i
      · subst e
        simp [PyData.eqv]
      · have e' : ¬ i = x := fun z => e z.symm
        simp [PyData.eqv, e, e']
  have f : flats ((r.map PyData.int).map VL.d) = some (r.map PyData.int) := flats_map _ (by
    intro d hd
    obtain ⟨i, _, rfl⟩ := List.mem_map.mp hd
    rfl)
  unfold oInS
  rw [h]
  show ((flats ((r.map PyData.int).map VL.d)).map fun es => _) = _
  rw [f]
  simp only [Option.map_some, q]
end Sl
set_option Elab.async false
set_option linter.all false
set_option autoImplicit false
set_option maxRecDepth 100000
set_option maxHeartbeats 1000000
/-! what must hold ahead: rules that read a combinator from its end -/
namespace Sl
open PySem PySem.Spec PyProof.Rows L2
def wE (c : SE) (env : Env) (st : Sto) (Q : VL → Sto → Prop) : Prop := ∃ r st', c env st = some (.ok r st') ∧ Q r st'
def wA (c : SL) (env : Env) (st : Sto) (Q : List VL → Sto → Prop) : Prop := ∃ r st', c env st = some (.ok r st') ∧ Q r st'
def wI (c : SI) (env : Env) (st : Sto) (Q : List VL → Sto → Prop) : Prop := ∃ r st', c env st = some (.ok r st') ∧ Q r st'
def wS (c : SS) (env : Env) (st : Sto) (Q : Fl → Prop) : Prop := ∃ o, c env st = some o ∧ Q o
def wO (f : Op2) (st : Sto) (x y : VL) (Q : VL → Sto → Prop) : Prop := ∃ r st', f st x y = some (r, st') ∧ Q r st'
def wC (f : OpC) (st : Sto) (xs : List VL) (Q : VL → Sto → Prop) : Prop := ∃ r st', f st xs = some (r, st') ∧ Q r st'
def wF (m : Fn) (xs : List VL) (st : Sto) (Q : VL → Sto → Prop) : Prop := ∃ r st', m xs st = some (.ok r st') ∧ Q r st'
def wM (mk : Mk) (xs : List VL) (st : Sto) (Q : VL → Sto → Prop) : Prop := ∃ r st', mk xs st = some (r, st') ∧ Q r st'
def wP (c : SO) (env : Env) (st : Sto) (Q : Option Int → Sto → Prop) : Prop := ∃ r st', c env st = some (r, st') ∧ Q r st'
def wL (g : Tg) (body : SS) (xs : List VL) (env : Env) (st : Sto) (Q : Fl → Prop) : Prop := ∃ o, forL g body xs env st = some o ∧ Q o
/-- a test's two ways -/
def wB (x : VL) (Y N : Prop) : Prop := ∃ b, x = .d (.bool b) ∧ (b = true → Y) ∧ (b = false → N)
section
variable {env : Env} {st : Sto} {Q : VL → Sto → Prop} {QL : List VL → Sto → Prop} {R : Fl → Prop} {a b c t : SE} {cs ks : SL} {f g : Op2} {h : OpC} {mk : Mk} {m : Fn} {x y : VL} {s s1 s2 : SS} {tg : Tg}
theorem wE.mono {Q' : VL → Sto → Prop} (w : wE a env st Q) (k : ∀ x st, Q x st → Q' x st) : wE a env st Q' := by
  obtain ⟨r, st', e, q⟩ := w
  exact ⟨r, st', e, k _ _ q⟩
theorem wS.mono {R' : Fl → Prop} (w : wS s env st R) (k : ∀ o, R o → R' o) : wS s env st R' := by
  obtain ⟨o, e, q⟩ := w
  exact ⟨o, e, k _ q⟩
theorem wF.mono {Q' : VL → Sto → Prop} {xs : List VL} (w : wF m xs st Q) (k : ∀ x st, Q x st → Q' x st) : wF m xs st Q' := by
  obtain ⟨r, st', e, q⟩ := w
  exact ⟨r, st', e, k _ _ q⟩
theorem wF_of {xs : List VL} {r : VL} {st' : Sto} (e : m xs st = some (.ok r st')) (q : Q r st') : wF m xs st Q := ⟨r, st', e, q⟩
theorem wB_dec {p : Prop} [Decidable p] {Y N : Prop} (y : p → Y) (n : ¬ p → N) : wB (.d (.bool (decide p))) Y N := ⟨_, rfl, fun e => y (of_decide_eq_true e), fun e => n (of_decide_eq_false e)⟩
theorem wB_not {p : Prop} [Decidable p] {Y N : Prop} (y : ¬ p → Y) (n : p → N) : wB (.d (.bool (!decide p))) Y N := ⟨_, rfl, fun e => y (of_decide_eq_false (by simpa using e)), fun e => n (of_decide_eq_true (by simpa using e))⟩
theorem wB_t {Y N : Prop} (y : Y) : wB (.d (.bool true)) Y N := ⟨_, rfl, fun _ => y, fun e => nomatch e⟩
theorem wB_f {Y N : Prop} (n : N) : wB (.d (.bool false)) Y N := ⟨_, rfl, (fun e => nomatch e), fun _ => n⟩
theorem wB_nb {p : Bool} {Y N : Prop} (y : p = false → Y) (n : p = true → N) : wB (.d (.bool (!p))) Y N := ⟨_, rfl, fun e => y (by simpa using e), fun e => n (by simpa using e)⟩
theorem wB_b {p : Bool} {Y N : Prop} (y : p = true → Y) (n : p = false → N) : wB (.d (.bool p)) Y N := ⟨_, rfl, y, n⟩
theorem wE_var {i : Nat} (e : env[i]? = some (some x)) (q : Q x st) : wE (eVar i) env st Q := ⟨x, st, by unfold eVar; rw [e], q⟩
theorem wE_c {d : PyData} (q : Q (.d d) st) : wE (eC d) env st Q := ⟨_, _, rfl, q⟩
theorem wE_op (w : wE a env st fun x st1 => wE b env st1 fun y st2 => wO f st2 x y Q) : wE (eOp f a b) env st Q := by
  obtain ⟨x, st1, e1, y, st2, e2, z, st3, e3, q⟩ := w
  refine ⟨z, st3, ?_, q⟩
  unfold eOp
  rw [e1]
  show obind (b env st1) _ = _
  rw [e2]
  show (f st2 x y).map _ = _
  rw [e3]
  rfl
theorem wE_and (w : wE a env st fun x st1 => wB x (wE b env st1 Q) (Q (.d (.bool false)) st1)) : wE (eAnd a b) env st Q := by
  obtain ⟨x, st1, e1, c, rfl, hy, hn⟩ := w
  cases c with
  | true =>
    obtain ⟨r, st', e, q⟩ := hy rfl
    refine ⟨r, st', ?_, q⟩
    unfold eAnd
    rw [e1]
    exact e
  | false =>
    refine ⟨_, st1, ?_, hn rfl⟩
    unfold eAnd
    rw [e1]
    rfl
theorem wE_or (w : wE a env st fun x st1 => wB x (Q (.d (.bool true)) st1) (wE b env st1 Q)) : wE (eOr a b) env st Q := by
  obtain ⟨x, st1, e1, c, rfl, hy, hn⟩ := w
  cases c with
  | false =>
    obtain ⟨r, st', e, q⟩ := hn rfl
    refine ⟨r, st', ?_, q⟩
    unfold eOr
    rw [e1]
    exact e
  | true =>
    refine ⟨_, st1, ?_, hy rfl⟩
    unfold eOr
    rw [e1]
    rfl
theorem wE_not (w : wE a env st fun x st1 => ∃ b, x = .d (.bool b) ∧ Q (.d (.bool (!b))) st1) : wE (eNot a) env st Q := by
  obtain ⟨x, st1, e1, c, rfl, q⟩ := w
  refine ⟨_, st1, ?_, q⟩
  unfold eNot
  rw [e1]
  rfl
theorem wE_if (w : wE t env st fun x st1 => wB x (wE a env st1 Q) (wE b env st1 Q)) : wE (eIf t a b) env st Q := by
  obtain ⟨x, st1, e1, c, rfl, hy, hn⟩ := w
  cases c with
  | false =>
    obtain ⟨r, st', e, q⟩ := hn rfl
    refine ⟨r, st', ?_, q⟩
    unfold eIf
    rw [e1]
    exact e
  | true =>
    obtain ⟨r, st', e, q⟩ := hy rfl
    refine ⟨r, st', ?_, q⟩
    unfold eIf
    rw [e1]
    exact e
theorem wA_nil (q : QL [] st) : wA aNil env st QL := ⟨_, _, rfl, q⟩
theorem wA_cons (w : wE a env st fun x st1 => wA cs env st1 fun xs st2 => QL (x :: xs) st2) : wA (aCons a cs) env st QL := by
  obtain ⟨x, st1, e1, xs, st2, e2, q⟩ := w
  refine ⟨_, st2, ?_, q⟩
  unfold aCons
  rw [e1]
  dsimp only
  rw [e2]
theorem wA_app (w : wA cs env st fun xs st1 => wA ks env st1 fun ys st2 => QL (xs ++ ys) st2) : wA (aApp cs ks) env st QL := by
  obtain ⟨x, st1, e1, xs, st2, e2, q⟩ := w
  refine ⟨_, st2, ?_, q⟩
  unfold aApp
  rw [e1]
  dsimp only
  rw [e2]
theorem wE_cb (w : wA cs env st fun xs st1 => wC h st1 xs Q) : wE (eCB h cs) env st Q := by
  obtain ⟨xs, st1, e1, z, st2, e2, q⟩ := w
  refine ⟨z, st2, ?_, q⟩
  unfold eCB
  rw [e1]
  show (h st1 xs).map _ = _
  rw [e2]
  rfl
theorem wE_call {n : Nat} (w : wA cs env st fun xs st1 => xs.length = n ∧ wF m xs st1 Q) : wE (eCall (nFn n m) cs) env st Q := by
  obtain ⟨xs, st1, e1, hl, z, st2, e2, q⟩ := w
  refine ⟨z, st2, ?_, q⟩
  unfold eCall nFn
  rw [e1]
  show (if xs.length = n then m xs st1 else none) = _
  rw [if_pos hl, e2]
theorem wE_lst (w : wA cs env st fun xs st1 => xs.length ≤ sizeLine ∧ wM mk xs st1 Q) : wE (eLst mk cs) env st Q := by
  obtain ⟨xs, st1, e1, hl, z, st2, e2, q⟩ := w
  refine ⟨z, st2, ?_, q⟩
  unfold eLst
  rw [e1]
  show (if xs.length ≤ sizeLine then _ else none) = _
  rw [if_pos hl, e2]
  rfl
theorem wE_tup (w : wA cs env st fun xs st1 => xs.length ≤ sizeLine ∧ wM mkT xs st1 Q) : wE (eTup cs) env st Q := by
  obtain ⟨xs, st1, e1, hl, z, st2, e2, q⟩ := w
  refine ⟨z, st2, ?_, q⟩
  unfold eTup
  rw [e1]
  show (if xs.length ≤ sizeLine then _ else none) = _
  rw [if_pos hl, e2]
  rfl
theorem wM_N {xs : List VL} (q : Q (.o st.length) (st ++ [.lst xs])) : wM mkN xs st Q := ⟨_, _, rfl, q⟩
theorem wM_D {xs : List VL} {ds : List PyData} (e : allD xs = some ds) (q : Q (.d (.list ds)) st) : wM mkD xs st Q := ⟨_, _, by unfold mkD; rw [e]; rfl, q⟩
theorem wM_T {xs : List VL} {ds : List PyData} (e : allD xs = some ds) (q : Q (.d (.tuple ds)) st) : wM mkT xs st Q := ⟨_, _, by unfold mkT; rw [e]; rfl, q⟩
theorem wE_neg (w : wE a env st fun x st1 => ∃ i, x = .d (.int i) ∧ Q (.d (.int (-i))) st1) : wE (eNeg a) env st Q := by
  obtain ⟨x, st1, e1, i, rfl, q⟩ := w
  refine ⟨_, st1, ?_, q⟩
  unfold eNeg
  rw [e1]
  rfl
theorem wE_isi {ts : List Ty} (w : wE a env st fun x st1 => ∃ t, tyOf st1 x = some t ∧ Q (.d (.bool (ts.any fun c => t.sub c))) st1) : wE (eIsi ts a) env st Q := by
  obtain ⟨x, st1, e1, t, e2, q⟩ := w
  refine ⟨_, st1, ?_, q⟩
  unfold eIsi
  rw [e1]
  show (tyOf st1 x).map _ = _
  rw [e2]
  rfl
theorem wE_chain (w : wE a env st fun x st1 => wE b env st1 fun y st2 => wO f st2 x y fun z st3 => wB z (wE c env st3 fun u st4 => wO g st4 y u Q) (Q (.d (.bool false)) st3)) : wE (eChain f g a b c) env st Q := by
  obtain ⟨x, st1, e1, y, st2, e2, z, st3, e3, k, rfl, hy, hn⟩ := w
  cases k with
  | true =>
    obtain ⟨u, st4, e4, r, st5, e5, q⟩ := hy rfl
    refine ⟨r, st5, ?_, q⟩
    unfold eChain
    rw [e1]
    show obind (b env st1) _ = _
    rw [e2]
    show (match f st2 x y with
      | some (.d (.bool true), st3) => _
      | some (.d (.bool false), st3) => _
      | _ => _) = _
    rw [e3]
    show obind (c env st3) _ = _
    rw [e4]
    show (g st4 y u).map _ = _
    rw [e5]
    rfl
  | false =>
    refine ⟨_, st3, ?_, hn rfl⟩
    unfold eChain
    rw [e1]
    show obind (b env st1) _ = _
    rw [e2]
    show (match f st2 x y with
      | some (.d (.bool true), st3) => _
      | some (.d (.bool false), st3) => _
      | _ => _) = _
    rw [e3]
def wZ (st : Sto) (x : VL) (Q : VL → Sto → Prop) : Prop := ∃ d st2, frz st x = some (d, st2) ∧ Q (.d d) st2
theorem wZ_d {d : PyData} (q : Q (.d d) st) : wZ st (.d d) Q := ⟨d, st, rfl, q⟩
theorem wZ_o {n : Nat} {xs : List VL} {ds : List PyData} (h : st[n]? = some (.lst xs)) (e : allD xs = some ds) (q : Q (.d (.list ds)) (st.set n (.fr (.list ds)))) : wZ st (.o n) Q := by
  refine ⟨_, _, ?_, q⟩
  unfold frz
  simp only [h, e, Option.map_some]
theorem wE_frz (w : wE a env st fun x st1 => wZ st1 x Q) : wE (eFrz a) env st Q := by
  obtain ⟨x, st1, e1, d, st2, e2, q⟩ := w
  refine ⟨_, st2, ?_, q⟩
  unfold eFrz
  rw [e1]
  show (frz st1 x).map _ = _
  rw [e2]
  rfl
def isO (st : Sto) (x : VL) (Z : Prop) : Prop := (∃ n xs, x = .o n ∧ st[n]? = some (.lst xs)) ∧ Z
theorem isO_o {n : Nat} {xs : List VL} {Z : Prop} (h : st[n]? = some (.lst xs)) (z : Z) : isO st (.o n) Z := ⟨⟨n, xs, rfl, h⟩, z⟩
/-- x.append(y) -/
def wApp (st : Sto) (x y : VL) (Z : Sto → Prop) : Prop := ∃ n xs, x = .o n ∧ st[n]? = some (.lst xs) ∧ xs.length < sizeLine ∧ Z (st.set n (.lst (xs ++ [y])))
theorem wApp_o {n : Nat} {xs : List VL} {Z : Sto → Prop} (h : st[n]? = some (.lst xs)) (hl : xs.length < sizeLine) (z : Z (st.set n (.lst (xs ++ [y])))) : wApp st (.o n) y Z := ⟨n, xs, rfl, h, hl, z⟩
theorem wE_append (w : wE a env st fun x st1 => isO st1 x (wE b env st1 fun y st2 => wApp st2 x y fun st3 => Q (.d .none) st3)) : wE (eAppend a b) env st Q := by
  obtain ⟨x, st1, e1, ⟨n, xs0, rfl, h0⟩, y, st2, e2, n', xs, e3, h1, h2, q⟩ := w
  cases e3
  refine ⟨_, _, ?_, q⟩
  unfold eAppend
  rw [e1]
  have l1 : lstAt st1 (.o n) = some (n, xs0) := by simp only [lstAt, h0]
  have l2 : lstAt st2 (.o n) = some (n, xs) := by simp only [lstAt, h1]
  show (if (lstAt st1 (.o n)).isSome then _ else none) = _
  rw [l1]
  show obind (b env st1) _ = _
  rw [e2]
  show (match lstAt st2 (.o n) with
    | some (n, xs) => _
    | none => _) = _
  rw [l2]
  show (if xs.length < sizeLine then _ else none) = _
  rw [if_pos h2]
theorem wP_none {QO : Option Int → Sto → Prop} (q : QO none st) : wP oNone env st QO := ⟨_, _, rfl, q⟩
theorem wP_some {QO : Option Int → Sto → Prop} (w : wE a env st fun x st1 => ∃ i, x = .d (.int i) ∧ QO (some i) st1) : wP (oSome a) env st QO := by
  obtain ⟨x, st1, e1, i, rfl, q⟩ := w
  exact ⟨_, st1, by unfold oSome; rw [e1], q⟩
theorem wE_sl {lo hi : SO} (w : wE a env st fun x st1 => wP lo env st1 fun l st2 => wP hi env st2 fun h st3 => ∃ k xs, asSeq st3 x = some (k, xs) ∧ (k = false → wM mk (cutL xs l h) st3 Q) ∧ (k = true → wM mkT (cutL xs l h) st3 Q)) : wE (eSl mk a lo hi) env st Q := by
  obtain ⟨x, st1, e1, l, st2, e2, h, st3, e3, k, xs, e4, k1, k2⟩ := w
  cases k with
  | false =>
    obtain ⟨z, st4, e5, q⟩ := k1 rfl
    refine ⟨z, st4, ?_, q⟩
    unfold eSl
    rw [e1]
    show (match lo env st1 with
      | none => none
      | some (l, st2) => _) = _
    rw [e2]
    show (match hi env st2 with
      | none => none
      | some (h, st3) => _) = _
    rw [e3]
    show (match asSeq st3 x with
      | some (false, xs) => _
      | some (true, xs) => _
      | none => _) = _
    rw [e4]
    show (mk (cutL xs l h) st3).map _ = _
    rw [e5]
    rfl
  | true =>
    obtain ⟨z, st4, e5, q⟩ := k2 rfl
    refine ⟨z, st4, ?_, q⟩
    unfold eSl
    rw [e1]
    show (match lo env st1 with
      | none => none
      | some (l, st2) => _) = _
    rw [e2]
    show (match hi env st2 with
      | none => none
      | some (h, st3) => _) = _
    rw [e3]
    show (match asSeq st3 x with
      | some (false, xs) => _
      | some (true, xs) => _
      | none => _) = _
    rw [e4]
    show (mkT (cutL xs l h) st3).map _ = _
    rw [e5]
    rfl
theorem wE_rev (w : wE a env st fun x st1 => ∃ xs, asSeq st1 x = some (false, xs) ∧ wM mk xs.reverse st1 Q) : wE (eRev mk a) env st Q := by
  obtain ⟨x, st1, e1, xs, e2, z, st2, e3, q⟩ := w
  refine ⟨z, st2, ?_, q⟩
  unfold eRev
  rw [e1]
  show (match asSeq st1 x with
    | some (false, xs) => _
    | _ => _) = _
  rw [e2]
  show (mk xs.reverse st1).map _ = _
  rw [e3]
  rfl
theorem wE_dnew {tu : Bool} (q : Q (.o st.length) (st ++ [if tu then .dt [] else .dk []])) : wE (eDnew tu) env st Q := ⟨_, _, rfl, q⟩
theorem repOk_nat {n k : Nat} (h2 : k < 100) (h3 : n * k ≤ sizeLine) : repOk n (k : Int) = true := by
  have a1 : -(2 ^ 63) ≤ (k : Int) := Int.le_trans (by decide) (Int.natCast_nonneg k)
  have a2 : (k : Int) < 2 ^ 63 := by
    have : (k : Int) < 100 := by omega
    exact Int.lt_trans this (by decide)
  unfold repOk
  rw [Int.toNat_natCast, decide_eq_true a1, decide_eq_true a2, decide_eq_true h3]
  rfl
theorem obind_ok (r : VL) (st : Sto) (k : VL → Sto → Option Out) : obind (some (.ok r st)) k = k r st := rfl
theorem asI_bind {α : Type} (i : Int) (f : Int → Option α) : (asI (.d (.int i))).bind f = f i := rfl
theorem wE_rep (w : wA cs env st fun xs st1 => xs.length ≤ sizeLine ∧ wE b env st1 fun y st2 => ∃ k : Nat, y = .d (.int k) ∧ k < 100 ∧ xs.length * k ≤ sizeLine ∧ wM mk (List.replicate k xs).flatten st2 Q) : wE (eRep mk cs b) env st Q := by
  obtain ⟨xs, st1, e1, h1, y, st2, e2, k, rfl, h2, h3, z, st3, e3, q⟩ := w
  refine ⟨z, st3, ?_, q⟩
  have c1 := repOk_nat h2 h3
  unfold eRep
  rw [e1]
  show (if xs.length ≤ sizeLine then obind (b env st1) _ else none) = _
  rw [if_pos h1, e2, obind_ok, asI_bind, if_pos c1, Int.toNat_natCast, e3]
  rfl
/-! ### statements -/
theorem wS_nx (q : R (.nx env st)) : wS sNx env st R := ⟨_, rfl, q⟩
theorem wS_bk (q : R (.bk env st)) : wS sBk env st R := ⟨_, rfl, q⟩
theorem wS_ct (q : R (.ct env st)) : wS sCt env st R := ⟨_, rfl, q⟩
theorem wS_retN (q : R (.rt (.d .none) st)) : wS sRetN env st R := ⟨_, rfl, q⟩
/-- the next statement, or the end -/
def seqK (b : SS) (R : Fl → Prop) : Fl → Prop
  | .nx env st => wS b env st R
  | o => R o
theorem wS_seq (w : wS s1 env st (seqK s2 R)) : wS (sSeq s1 s2) env st R := by
  obtain ⟨o, e, q⟩ := w
  cases o with
  | nx env1 st1 =>
    obtain ⟨o2, e2, q2⟩ := q
    exact ⟨o2, by simp only [sSeq, e, e2], q2⟩
  | rt r st => exact ⟨_, by simp only [sSeq, e], q⟩
  | bk r st => exact ⟨_, by simp only [sSeq, e], q⟩
  | ct r st => exact ⟨_, by simp only [sSeq, e], q⟩
  | ex c fs st => exact ⟨_, by simp only [sSeq, e], q⟩
theorem wS_asg (w : wE a env st fun x st1 => ∃ e, tg x env = some e ∧ R (.nx e st1)) : wS (sAsg a tg) env st R := by
  obtain ⟨x, st1, e1, e, e2, q⟩ := w
  refine ⟨_, ?_, q⟩
  unfold sAsg
  rw [e1]
  show (tg x env).map _ = _
  rw [e2]
  rfl
theorem wS_set {i : Nat} (w : wE a env st fun x st1 => R (.nx (env.set i (some x)) st1)) : wS (sAsg a (gN i)) env st R := by
  obtain ⟨x, st1, e1, q⟩ := w
  refine ⟨_, ?_, q⟩
  unfold sAsg
  rw [e1]
  rfl
theorem wS_drop (w : wE a env st fun _ st1 => R (.nx env st1)) : wS (sDrop a) env st R := by
  obtain ⟨x, st1, e1, q⟩ := w
  refine ⟨_, ?_, q⟩
  unfold sDrop
  rw [e1]
  rfl
theorem wS_ret (w : wE a env st fun x st1 => R (.rt x st1)) : wS (sRet a) env st R := by
  obtain ⟨x, st1, e1, q⟩ := w
  refine ⟨_, ?_, q⟩
  unfold sRet
  rw [e1]
  rfl
theorem wS_if (w : wE t env st fun x st1 => wB x (wS s1 env st1 R) (wS s2 env st1 R)) : wS (sIf t s1 s2) env st R := by
  obtain ⟨x, st1, e1, c, rfl, hy, hn⟩ := w
  cases c with
  | false =>
    obtain ⟨o, e, q⟩ := hn rfl
    refine ⟨o, ?_, q⟩
    unfold sIf
    rw [e1]
    exact e
  | true =>
    obtain ⟨o, e, q⟩ := hy rfl
    refine ⟨o, ?_, q⟩
    unfold sIf
    rw [e1]
    exact e
/-- x[k] = y, x an object -/
def wU (st : Sto) (x k y : VL) (Z : Sto → Prop) : Prop := ∃ n xs j i, x = .o n ∧ st[n]? = some (.lst xs) ∧ k = .d (.int j) ∧ ixN xs.length j = some i ∧ Z (st.set n (.lst (xs.set i y)))
theorem wU_o {n : Nat} {xs : List VL} {j : Int} {i : Nat} {y : VL} {Z : Sto → Prop} (h : st[n]? = some (.lst xs)) (e : ixN xs.length j = some i) (q : Z (st.set n (.lst (xs.set i y)))) : wU st (.o n) (.d (.int j)) y Z := ⟨n, xs, j, i, rfl, h, rfl, e, q⟩
theorem ixN_nat {n i : Nat} (h : i < n) : ixN n (i : Int) = some i := by
  unfold ixN
  rw [if_pos (Int.natCast_nonneg i), if_pos (by exact_mod_cast h), Int.toNat_natCast]
theorem wS_setL (w : wE a env st fun y st1 => wE b env st1 fun x st2 => wE c env st2 fun k st3 => wU st3 x k y fun st4 => R (.nx env st4)) : wS (sSetL a b c) env st R := by
  obtain ⟨y, st1, e1, x, st2, e2, k, st3, e3, n, xs, j, i, rfl, h1, rfl, h2, q⟩ := w
  refine ⟨_, ?_, q⟩
  have l1 : lstAt st3 (.o n) = some (n, xs) := by simp only [lstAt, h1]
  unfold sSetL
  rw [e1]
  show fbind (b env st1) _ = _
  rw [e2]
  show fbind (c env st2) _ = _
  rw [e3]
  show (match lstAt st3 (.o n), some j with
    | some (n, xs), some j => (ixN xs.length j).map fun j => Fl.nx env (st3.set n (.lst (xs.set j y)))
    | _, _ => none) = _
  rw [l1]
  show (ixN xs.length j).map _ = _
  rw [h2]
  rfl
/-- x[y] = z, x a dict -/
def wD (st : Sto) (x y z : VL) (Z : Sto → Prop) : Prop := ∃ n kvs i, x = .o n ∧ st[n]? = some (.dk kvs) ∧ y = .d (.int i) ∧ kvs.length < sizeLine ∧ Z (st.set n (.dk (putL kvs (.inl i) z)))
theorem wD_o {n : Nat} {kvs : List (Key × VL)} {i : Int} {z : VL} {Z : Sto → Prop} (h : st[n]? = some (.dk kvs)) (hl : kvs.length < sizeLine) (q : Z (st.set n (.dk (putL kvs (.inl i) z)))) : wD st (.o n) (.d (.int i)) z Z := ⟨n, kvs, i, rfl, h, rfl, hl, q⟩
theorem wS_dputK (w : wE a env st fun z st1 => wE b env st1 fun x st2 => wE c env st2 fun y st3 => wD st3 x y z fun st4 => R (.nx env st4)) : wS (sDput a b c) env st R := by
  obtain ⟨z, st1, e1, x, st2, e2, y, st3, e3, n, kvs, i, rfl, h1, rfl, h2, q⟩ := w
  refine ⟨_, ?_, q⟩
  have l1 : dctAt st3 (.o n) (.d (.int i)) = some (.k n kvs (.inl i)) := by
    unfold dctAt
    simp only [h1]
    rfl
  unfold sDput
  rw [e1]
  show fbind (b env st1) _ = _
  rw [e2]
  show fbind (c env st2) _ = _
  rw [e3]
  show (dctAt st3 (.o n) (.d (.int i))).bind _ = _
  rw [l1]
  show (if kvs.length < sizeLine then some (st3.set n (.dk (putL kvs (.inl i) z))) else none).map _ = _
  rw [if_pos h2]
  rfl
theorem wS_forS (w : wE a env st fun x st1 => ∃ ds, (x = .d (.list ds) ∨ x = .d (.tuple ds)) ∧ wL tg s (ds.map .d) env st1 R) : wS (sForS a tg s) env st R := by
  obtain ⟨x, st1, e1, ds, hx, o, e2, q⟩ := w
  refine ⟨o, ?_, q⟩
  rcases hx with rfl | rfl
  · rw [sForS_d e1 (.inl rfl), e2]
  · rw [sForS_d e1 (.inr rfl), e2]
theorem wS_for1 (w : wA cs env st fun xs st1 => ∃ n : Nat, xs = [.d (.int n)] ∧ n < 2 ^ 62 ∧ wL tg s ((List.range n).map fun (i : Nat) => VL.d (.int (i : Int))) env st1 R) : wS (sFor (iR1 cs) tg s) env st R := by
  obtain ⟨xs, st1, e1, n, rfl, hn, o, e2, q⟩ := w
  refine ⟨o, ?_, q⟩
  rw [sFor_r1 hn e1, e2]
theorem wE_comp1 {g : Tg} {vs : List Nat} (w : wA cs env st fun xs st1 => ∃ n : Nat, xs = [.d (.int n)] ∧ n < 2 ^ 62 ∧ ∃ ys st2, compL g t a (wipeE env vs) ((List.range n).map fun (i : Nat) => VL.d (.int (i : Int))) [] st1 = some (ys, st2) ∧ wM mk ys st2 Q) : wE (eComp mk (iR1 cs) g t a vs) env st Q := by
  obtain ⟨xs, st1, e1, n, rfl, hn, ys, st2, e2, z, st3, e3, q⟩ := w
  refine ⟨z, st3, ?_, q⟩
  rw [eComp_r1 hn e1, e2]
  show (mk ys st2).map _ = _
  rw [e3]
  rfl
theorem wE_compS {g : Tg} {vs : List Nat} (w : wE c env st fun x st1 => ∃ ds, (x = .d (.list ds) ∨ x = .d (.tuple ds)) ∧ ∃ ys st2, compL g t a (wipeE env vs) (ds.map .d) [] st1 = some (ys, st2) ∧ wM mk ys st2 Q) : wE (eCompS mk c g t a vs) env st Q := by
  obtain ⟨x, st1, e1, ds, hx, ys, st2, e2, z, st3, e3, q⟩ := w
  refine ⟨z, st3, ?_, q⟩
  have hx' : ∃ d, x = .d d ∧ (d = .list ds ∨ d = .tuple ds) := by
    rcases hx with rfl | rfl
    · exact ⟨_, rfl, .inl rfl⟩
    · exact ⟨_, rfl, .inr rfl⟩
  obtain ⟨d, rfl, hd⟩ := hx'
  rw [eCompS_d e1 hd, e2]
  show (mk ys st2).map _ = _
  rw [e3]
  rfl
/-- a def's call: what its body does -/
def fnQ (Q : VL → Sto → Prop) : Fl → Prop
  | .nx _ st1 => Q (.d .none) st1
  | .rt r st1 => Q r st1
  | _ => False
theorem wF_run {k : Nat} {xs : List VL} (w : wS s (fEnv k xs) st (fnQ Q)) : wF (runFn k s) xs st Q := by
  obtain ⟨o, e, q⟩ := w
  cases o with
  | nx env1 st1 => exact ⟨_, _, by simp only [runFn, e], q⟩
  | rt r st1 => exact ⟨_, _, by simp only [runFn, e], q⟩
  | bk env1 st1 => exact q.elim
  | ct env1 st1 => exact q.elim
  | ex c fs st1 => exact q.elim
/-- .. whose new objects are forgotten -/
theorem wF_cut {xs : List VL} (w : wF m xs st fun r st1 => ∃ d, r = .d d ∧ cutOk st st1 ∧ Q (.d d) (st1.take st.length)) : wF (fCut m) xs st Q := by
  obtain ⟨r, st1, e, d, rfl, hc, q⟩ := w
  refine ⟨.d d, st1.take st.length, ?_, q⟩
  show cutO st (m xs st) = _
  rw [e]
  unfold cutO
  dsimp only
  rw [if_pos hc]
def cutQ (st : Sto) (R : Fl → Prop) : Fl → Prop
  | .nx e st1 => cutOk st st1 ∧ R (.nx (cutE st.length e) (st1.take st.length))
  | .ct e st1 => cutOk st st1 ∧ R (.ct (cutE st.length e) (st1.take st.length))
  | .bk e st1 => cutOk st st1 ∧ R (.bk (cutE st.length e) (st1.take st.length))
  | .rt r st1 => ∃ d, r = .d d ∧ cutOk st st1 ∧ R (.rt (.d d) (st1.take st.length))
  | .ex c fs st1 => R (.ex c fs st1)
theorem wS_cut (w : wS s env st (cutQ st R)) : wS (sCut s) env st R := by
  obtain ⟨o, e, q⟩ := w
  unfold wS
  show ∃ o, cutF st (s env st) = some o ∧ R o
  rw [e]
  unfold cutF
  cases o with
  | nx env1 st1 =>
    refine ⟨_, ?_, q.2⟩
    dsimp only
    rw [if_pos q.1]
  | ct env1 st1 =>
    refine ⟨_, ?_, q.2⟩
    dsimp only
    rw [if_pos q.1]
  | bk env1 st1 =>
    refine ⟨_, ?_, q.2⟩
    dsimp only
    rw [if_pos q.1]
  | rt r st1 =>
    obtain ⟨d, rfl, hc, q⟩ := q
    refine ⟨_, ?_, q⟩
    dsimp only
    rw [if_pos hc]
  | ex c fs st1 => exact ⟨_, rfl, q⟩
/-! ### leaves -/
theorem wO_sub {i j : Int} (q : Q (.d (.int (i - j))) st) : wO oSub st (.d (.int i)) (.d (.int j)) Q := ⟨_, _, rfl, q⟩
theorem wO_lt {i j : Int} (q : Q (.d (.bool (decide (i < j)))) st) : wO oLt st (.d (.int i)) (.d (.int j)) Q := ⟨_, _, rfl, q⟩
theorem wO_le {i j : Int} (q : Q (.d (.bool (decide (i ≤ j)))) st) : wO oLe st (.d (.int i)) (.d (.int j)) Q := ⟨_, _, rfl, q⟩
theorem wO_gt {i j : Int} (q : Q (.d (.bool (decide (j < i)))) st) : wO oGt st (.d (.int i)) (.d (.int j)) Q := ⟨_, _, rfl, q⟩
theorem wO_ge {i j : Int} (q : Q (.d (.bool (decide (j ≤ i)))) st) : wO oGe st (.d (.int i)) (.d (.int j)) Q := ⟨_, _, rfl, q⟩
theorem wO_mul {i j : Int} (hs : (-(2 ^ 64) < j ∧ j < 2 ^ 64) ∨ (-(2 ^ 64) < i ∧ i < 2 ^ 64)) (q : Q (.d (.int (i * j))) st) : wO oMul st (.d (.int i)) (.d (.int j)) Q := by
  refine ⟨_, _, ?_, q⟩
  unfold oMul oI
  show (if ((decide (-(2 ^ 64) < i) && decide (i < 2 ^ 64)) || (decide (-(2 ^ 64) < j) && decide (j < 2 ^ 64))) = true then some _ else none) = _
  rw [if_pos]
  rcases hs with ⟨a, b⟩ | ⟨a, b⟩
  · rw [decide_eq_true a, decide_eq_true b]
    exact Bool.or_true _
  · rw [decide_eq_true a, decide_eq_true b]
    rfl
theorem wO_div {i j : Int} (h1 : 0 < j) (h2 : j < 1073741824) (q : Q (.d (.int (i / j))) st) : wO oDiv st (.d (.int i)) (.d (.int j)) Q := by
  refine ⟨_, _, ?_, q⟩
  unfold oDiv oI
  show (if (decide (0 < j) && decide (j < 1073741824)) = true then some _ else none) = _
  rw [if_pos]
  rw [decide_eq_true h1, decide_eq_true h2]
  rfl
theorem wO_mod {i j : Int} (h1 : 0 < j) (q : Q (.d (.int (i % j))) st) : wO oMod st (.d (.int i)) (.d (.int j)) Q := by
  refine ⟨_, _, ?_, q⟩
  unfold oMod oI
  show (if _ then some _ else none) = _
  rw [if_pos (decide_eq_true h1)]
theorem wO_pow6 (q : Q (.d (.int 1000000)) st) : wO oPow st (.d (.int 10)) (.d (.int 6)) Q := ⟨_, _, by rfl, q⟩
theorem wO_add {i j : Int} (q : Q (.d (.int (i + j))) st) : wO (oAdd mk) st (.d (.int i)) (.d (.int j)) Q := ⟨_, _, rfl, q⟩
theorem wO_addL {xs ys : List VL} (hx : ∀ i : Int, x ≠ .d (.int i)) (hx2 : ∀ i : Str, x ≠ .d (.str i)) (h1 : asSeq st x = some (false, xs)) (h2 : asSeq st y = some (false, ys)) (hl : xs.length + ys.length ≤ sizeLine) (w : wM mk (xs ++ ys) st Q) : wO (oAdd mk) st x y Q := by
  obtain ⟨r, st', e, q⟩ := w
  refine ⟨r, st', ?_, q⟩
  unfold oAdd
  split
  · exact absurd rfl (hx _)
  · exact absurd rfl (hx2 _)
  · rw [h1, h2]
    dsimp only
    rw [if_pos hl, e]
theorem wO_isN (q : Q (.d (.bool (isN x))) st) : wO oIsN st x (.d .none) Q := ⟨_, _, rfl, q⟩
theorem wO_notN (q : Q (.d (.bool (!isN x))) st) : wO oNotN st x (.d .none) Q := ⟨_, _, rfl, q⟩
theorem wO_eqI {i j : Int} (q : Q (.d (.bool (decide (i = j)))) st) : wO oEq st (.d (.int i)) (.d (.int j)) Q := by
  refine ⟨_, _, ?_, q⟩
  have e : PyData.eqv (.int i) (.int j) = decide (i = j) := by
    by_cases h : i = j
    · subst h
      simp [PyData.eqv]
    · simp [PyData.eqv, h]
  unfold oEq oEqC
  show (if _ then some (VL.d (.bool (if false = true then _ else PyData.eqv (.int i) (.int j))), st) else none) = _
  rw [e, if_pos (by rfl)]
  rfl
theorem wO_neI {i j : Int} (q : Q (.d (.bool (!decide (i = j)))) st) : wO oNe st (.d (.int i)) (.d (.int j)) Q := by
  refine ⟨_, _, ?_, q⟩
  have e : PyData.eqv (.int i) (.int j) = decide (i = j) := by
    by_cases h : i = j
    · subst h
      simp [PyData.eqv]
    · simp [PyData.eqv, h]
  unfold oNe oEqC
  show (if _ then some (VL.d (.bool (if true = true then !PyData.eqv (.int i) (.int j) else _)), st) else none) = _
  rw [e, if_pos (by rfl)]
  rfl
theorem wO_ix {xs : List VL} {k : Bool} {i : Nat} {z : VL} (h1 : asSeq st x = some (k, xs)) (h2 : xs[i]? = some z) (q : Q z st) : wO oIx st x (.d (.int (i : Int))) Q := by
  refine ⟨_, _, ?_, q⟩
  unfold oIx
  rw [h1]
  show (atI xs (i : Int)).map _ = _
  rw [atI_nat, h2]
  rfl
theorem wO_ix1 {xs : List VL} {k : Bool} {z : VL} (h1 : asSeq st x = some (k, xs)) (h2 : xs.getLast? = some z) (q : Q z st) : wO oIx st x (.d (.int (-1))) Q := by
  refine ⟨_, _, ?_, q⟩
  unfold oIx
  rw [h1]
  show (atI xs (-1)).map _ = _
  have hne : xs ≠ [] := by
    intro e
    subst e
    cases h2
  have hp : 0 < xs.length := List.length_pos_iff.mpr hne
  have e : atI xs (-1) = xs.getLast? := by
    unfold atI ixN
    rw [if_neg (by decide), if_pos (by omega), List.getLast?_eq_getElem?]
    show xs[((-1 : Int) + xs.length).toNat]? = _
    congr 1
    omega
  rw [e, h2]
  rfl
theorem wO_inS {neg k : Bool} {i : Int} {r : List Int} (h1 : asSeq st y = some (k, (r.map PyData.int).map VL.d)) (q : Q (.d (.bool (if neg then !decide (i ∈ r) else decide (i ∈ r)))) st) : wO (oInS neg) st (.d (.int i)) y Q := ⟨_, _, inS_ints neg st i y k r h1, q⟩
theorem wO_inD {neg : Bool} {i : Int} {n : Nat} {kvs : List (Key × VL)} (h1 : st[n]? = some (.dk kvs)) (q : Q (.d (.bool (if neg then !(valL kvs (.inl i)).isSome else (valL kvs (.inl i)).isSome))) st) : wO (oInD neg) st (.d (.int i)) (.o n) Q := by
  refine ⟨_, _, ?_, q⟩
  have l1 : dctAt st (.o n) (.d (.int i)) = some (.k n kvs (.inl i)) := by
    unfold dctAt
    simp only [h1]
    rfl
  unfold oInD
  rw [l1]
  rfl
theorem wC_len {xs : List VL} {k : Bool} (h1 : asSeq st x = some (k, xs)) (q : Q (.d (.int (xs.length : Nat))) st) : wC cLen st [x] Q := ⟨_, _, by simp only [cLen, h1]; rfl, q⟩
theorem wC_lenD {n : Nat} {kvs : List (Key × VL)} (h1 : st[n]? = some (.dk kvs)) (q : Q (.d (.int (kvs.length : Nat))) st) : wC cLenD st [.o n] Q := ⟨_, _, by unfold cLenD; simp only [h1], q⟩
theorem wC_int {i : Int} (q : Q (.d (.int i)) st) : wC cInt st [.d (.int i)] Q := ⟨_, _, rfl, q⟩
theorem wC_abs {i : Int} (q : Q (.d (.int (if i < 0 then -i else i))) st) : wC cAbs st [.d (.int i)] Q := ⟨_, _, rfl, q⟩
theorem wC_list {xs : List VL} {k : Bool} (h1 : asSeq st x = some (k, xs)) (w : wM mk xs st Q) : wC (cList mk) st [x] Q := by
  obtain ⟨r, st', e, q⟩ := w
  exact ⟨r, st', by unfold cList; simp only [h1, Option.bind_some]; exact e, q⟩
theorem wC_tuple {xs : List VL} {k : Bool} (h1 : asSeq st x = some (k, xs)) (w : wM mkT xs st Q) : wC cTuple st [x] Q := by
  obtain ⟨r, st', e, q⟩ := w
  exact ⟨r, st', by unfold cTuple; simp only [h1, Option.bind_some]; exact e, q⟩
theorem wC_sorted {ns : List Int} (h1 : asSeq st x = some (false, (ns.map PyData.int).map VL.d)) (w : wM mk (((sortI ns).map PyData.int).map VL.d) st Q) : wC (cSorted mk) st [x] Q := by
  obtain ⟨r, st', e, q⟩ := w
  refine ⟨r, st', ?_, q⟩
  have e2 : ∀ l : List Int, (l.map PyData.int).map VL.d = l.map fun i => VL.d (.int i) := fun l => by rw [List.map_map]; rfl
  unfold cSorted
  simp only [h1]
  rw [e2, intsOf_map, Option.bind_some, ← e2]
  exact e
theorem wE_sortSet (w : wE a env st fun x st1 => ∃ ns : List Int, asSeq st1 x = some (false, (ns.map PyData.int).map VL.d) ∧ (ns.length < 1000 ∧ (sortU ns).length < 64) ∧ wM mk (((sortU ns).map PyData.int).map VL.d) st1 Q) : wE (eSortSet mk a) env st Q := by
  obtain ⟨x, st1, e1, ns, h1, hl, r, st', e, q⟩ := w
  refine ⟨r, st', ?_, q⟩
  have e2 : ∀ l : List Int, (l.map PyData.int).map VL.d = l.map fun i => VL.d (.int i) := fun l => by rw [List.map_map]; rfl
  unfold eSortSet
  rw [e1]
  show (match asSeq st1 x with
    | some (false, ys) => _
    | _ => _) = _
  rw [h1]
  dsimp only
  rw [e2, intsOf_map, Option.bind_some, if_pos hl, ← e2, e]
  rfl
theorem wE_lenSet (w : wE a env st fun x st1 => ∃ ns : List Int, asSeq st1 x = some (false, (ns.map PyData.int).map VL.d) ∧ ns.length < 1000 ∧ Q (.d (.int ((sortU ns).length : Nat))) st1) : wE (eLenSet a) env st Q := by
  obtain ⟨x, st1, e1, ns, h1, hl, q⟩ := w
  refine ⟨_, st1, ?_, q⟩
  have e2 : ∀ l : List Int, (l.map PyData.int).map VL.d = l.map fun i => VL.d (.int i) := fun l => by rw [List.map_map]; rfl
  unfold eLenSet
  rw [e1]
  show (match asSeq st1 x with
    | some (false, ys) => _
    | _ => _) = _
  rw [h1]
  dsimp only
  rw [e2, intsOf_map, Option.bind_some, if_pos hl]
end
/-! ### objects forgotten -/
theorem cutOk_app (st : Sto) (l : List Ob) : cutOk st (st ++ l) := ⟨by rw [List.length_append]; omega, fun i hi => .inl (List.getElem?_append_left hi)⟩
theorem cutOk_same {st st' : Sto} (h : st'.take st.length = st) : cutOk st st' := by
  have hl : st.length ≤ st'.length := by
    have := congrArg List.length h
    rw [List.length_take] at this
    omega
  refine ⟨hl, fun i hi => .inl ?_⟩
  have : (st'.take st.length)[i]? = st[i]? := by rw [h]
  rw [List.getElem?_take, if_pos hi] at this
  exact this
theorem take_app (st : Sto) (l : List Ob) : (st ++ l).take st.length = st := by
  rw [List.take_append_of_le_length (Nat.le_refl _), List.take_length]
end Sl
namespace Sl
open PySem PySem.Spec PyProof.Rows L2
section
variable {env : Env} {st : Sto} {Q : VL → Sto → Prop} {R : Fl → Prop} {s : SS} {r : VL} {st0 : Sto} {N : Env → Sto → Prop}
theorem seqK_nx (w : wS s env st R) : seqK s R (.nx env st) := w
theorem seqK_rt (w : R (.rt r st)) : seqK s R (.rt r st) := w
theorem seqK_bk (w : R (.bk env st)) : seqK s R (.bk env st) := w
theorem seqK_ct (w : R (.ct env st)) : seqK s R (.ct env st) := w
theorem fnQ_nx (w : Q (.d .none) st) : fnQ Q (.nx env st) := w
theorem fnQ_rt (w : Q r st) : fnQ Q (.rt r st) := w
theorem turn_nx (w : N env st) : turnTo N R (.nx env st) := w
theorem turn_ct (w : N env st) : turnTo N R (.ct env st) := w
theorem turn_bk (w : R (.nx env st)) : turnTo N R (.bk env st) := w
theorem turn_rt (w : R (.rt r st)) : turnTo N R (.rt r st) := w
theorem cutQ_nx (h : cutOk st0 st) (w : R (.nx (cutE st0.length env) (st.take st0.length))) : cutQ st0 R (.nx env st) := ⟨h, w⟩
theorem cutQ_rt {d : PyData} (h : cutOk st0 st) (w : R (.rt (.d d) (st.take st0.length))) : cutQ st0 R (.rt (.d d) st) := ⟨d, rfl, h, w⟩
theorem wM_Dm {l : List PyData} (q : Q (.d (.list l)) st) : wM mkD (l.map .d) st Q := ⟨_, _, mkD_map l st, q⟩
theorem wM_Tm {l : List PyData} (q : Q (.d (.tuple l)) st) : wM mkT (l.map .d) st Q := ⟨_, _, mkT_map l st, q⟩
theorem wC_lenL {l : List PyData} (q : Q (.d (.int (l.length : Nat))) st) : wC cLen st [.d (.list l)] Q := wC_len rfl (by rw [List.length_map]; exact q)
theorem wC_lenT {l : List PyData} (q : Q (.d (.int (l.length : Nat))) st) : wC cLen st [.d (.tuple l)] Q := wC_len rfl (by rw [List.length_map]; exact q)
theorem wC_lenO {n : Nat} {xs : List VL} (h : st[n]? = some (.lst xs)) (q : Q (.d (.int (xs.length : Nat))) st) : wC cLen st [.o n] Q := wC_len (k := false) (by simp only [asSeq, h]) q
theorem wO_ixZ {x : VL} {xs : List VL} {k : Bool} {i : Int} {z : VL} (h1 : asSeq st x = some (k, xs)) (h2 : atI xs i = some z) (q : Q z st) : wO oIx st x (.d (.int i)) Q := by
  refine ⟨_, _, ?_, q⟩
  unfold oIx
  rw [h1]
  show (atI xs i).map _ = _
  rw [h2]
  rfl
theorem asSeq_o {n : Nat} {xs : List VL} (h : st[n]? = some (.lst xs)) : asSeq st (.o n) = some (false, xs) := by simp only [asSeq, h]
theorem size_small {n : Nat} (h : Nat.ble n 1000 = true) : n ≤ sizeLine := Nat.le_trans (Nat.le_of_ble_eq_true h) (by rw [sizeLine_eq]; decide)
theorem size_le {n : Nat} (h : n ≤ 1000) : n ≤ sizeLine := Nat.le_trans h (by rw [sizeLine_eq]; decide)
theorem size_lt {n : Nat} (h : n < 1000) : n < sizeLine := Nat.lt_of_lt_of_le h (by rw [sizeLine_eq]; decide)
theorem pow_ok : (-(2 ^ 64) < (48271 : Int) ∧ (48271 : Int) < 2 ^ 64) := by decide
theorem pow_ok2 : (-(2 ^ 64) < (69621 : Int) ∧ (69621 : Int) < 2 ^ 64) := by decide
theorem pow_ok3 {i : Int} (h0 : -1000000 < i) (h : i < 1000000) : (-(2 ^ 64) < i ∧ i < 2 ^ 64) := ⟨Int.lt_trans (by decide) h0, Int.lt_trans h (by decide)⟩
def mulOk (j : Int) : Bool := decide (j.natAbs < 1000000)
theorem mulOk_ok {j : Int} (h : mulOk j = true) : (-(2 ^ 64) < j ∧ j < 2 ^ 64) := by
  have := of_decide_eq_true h
  exact pow_ok3 (by omega) (by omega)
theorem wO_mulR {i j : Int} (h : mulOk j = true) (q : Q (.d (.int (i * j))) st) : wO oMul st (.d (.int i)) (.d (.int j)) Q := wO_mul (.inl (mulOk_ok h)) q
theorem wO_mulL {i j : Int} (h : mulOk i = true) (q : Q (.d (.int (i * j))) st) : wO oMul st (.d (.int i)) (.d (.int j)) Q := wO_mul (.inr (mulOk_ok h)) q
end
end Sl
namespace Sl
open PySem PySem.Spec PyProof.Rows L2
section
variable {α σ : Type} {g : Tg} {body : SS} {v : α → VL} {xs : List α} {env : Env} {st : Sto} {R : Fl → Prop}
theorem wL_all (p : α → Bool) (enc : Env → Prop) (henc : enc env)
    (step : ∀ a env, a ∈ xs → enc env → ∃ e1, g (v a) env = some e1 ∧ wS body e1 st fun o => (p a = true ∧ ∃ e2, o = .nx e2 st ∧ enc e2) ∨ (p a = false ∧ o = .rt (.d (.bool false)) st))
    (y : xs.all p = true → ∀ e2, enc e2 → R (.nx e2 st)) (n : xs.all p = false → R (.rt (.d (.bool false)) st)) : wL g body (xs.map v) env st R := by
  induction xs generalizing env with
  | nil => exact ⟨_, rfl, y rfl _ henc⟩
  | cons a xs ih =>
    obtain ⟨e1, h1, o, h2, h3⟩ := step a env List.mem_cons_self henc
    unfold wL
    rw [List.map_cons]
    unfold forL
    rw [h1]
    dsimp only
    rw [h2]
    rcases h3 with ⟨hp, e2, rfl, he⟩ | ⟨hp, rfl⟩
    · exact ih he (fun a env ha => step a env (List.mem_cons_of_mem _ ha)) (fun h => y (by rw [List.all_cons, hp, h]; rfl)) fun h => n (by rw [List.all_cons, hp, h]; rfl)
    · exact ⟨_, rfl, n (by rw [List.all_cons, hp]; rfl)⟩
theorem wL_fold (f : σ → α → Option σ) (enc : σ → Env → Sto → Prop) (bad : Sto → Prop) {s : σ} (henc : enc s env st)
    (step : ∀ s a env st, a ∈ xs → enc s env st → ∃ e1, g (v a) env = some e1 ∧ wS body e1 st fun o => (∃ s', f s a = some s' ∧ ∃ e2 st2, o = .nx e2 st2 ∧ enc s' e2 st2) ∨ (f s a = none ∧ ∃ st2, o = .rt (.d (.bool false)) st2 ∧ bad st2))
    (y : ∀ s' e2 st2, xs.foldlM f s = some s' → enc s' e2 st2 → R (.nx e2 st2)) (n : xs.foldlM f s = none → ∀ st2, bad st2 → R (.rt (.d (.bool false)) st2)) : wL g body (xs.map v) env st R := by
  induction xs generalizing env st s with
  | nil => exact ⟨_, rfl, y s _ _ rfl henc⟩
  | cons a xs ih =>
    obtain ⟨e1, h1, o, h2, h3⟩ := step s a env st List.mem_cons_self henc
    unfold wL
    rw [List.map_cons]
    unfold forL
    rw [h1]
    dsimp only
    rw [h2]
    rcases h3 with ⟨s', hf, e2, st2, rfl, he⟩ | ⟨hf, st2, rfl, hb⟩
    · exact ih he (fun s a env st ha => step s a env st (List.mem_cons_of_mem _ ha)) (fun s2 e3 st3 h => y s2 e3 st3 (by rw [List.foldlM_cons, hf]; exact h)) fun h => n (by rw [List.foldlM_cons, hf]; exact h)
    · exact ⟨_, rfl, n (by rw [List.foldlM_cons, hf]; rfl) st2 hb⟩
/-- a loop that always goes on -/
theorem wL_inv (I : Nat → Env → Sto → Prop) (h0 : I 0 env st)
    (step : ∀ i a env st, xs[i]? = some a → I i env st → ∃ e1, g (v a) env = some e1 ∧ wS body e1 st (turnTo (I (i + 1)) fun _ => False))
    (y : ∀ e2 st2, I xs.length e2 st2 → R (.nx e2 st2)) : wL g body (xs.map v) env st R := by
  have key : ∀ (ys : List α) (i : Nat) (env : Env) (st : Sto), xs.drop i = ys → I i env st → ∃ e' st', forL g body (ys.map v) env st = some (.nx e' st') ∧ I (i + ys.length) e' st' := by
    intro ys
    induction ys with
    | nil => exact fun i env st _ h => ⟨_, _, rfl, h⟩
    | cons a ys ih =>
      intro i env st hd h
      have ha : xs[i]? = some a := by
        have : (xs.drop i)[0]? = some a := by rw [hd]; rfl
        rw [List.getElem?_drop] at this
        exact this
      have hd2 : xs.drop (i + 1) = ys := by
        rw [← List.drop_drop, hd]
        rfl
      obtain ⟨e1, h1, o, h2, h3⟩ := step i a env st ha h
      rw [List.map_cons, List.length_cons, Nat.add_comm ys.length 1, ← Nat.add_assoc]
      unfold forL
      rw [h1]
      dsimp only
      rw [h2]
      cases o with
      | nx e2 st2 => exact ih (i + 1) e2 st2 hd2 h3
      | ct e2 st2 => exact ih (i + 1) e2 st2 hd2 h3
      | bk e2 st2 => exact h3.elim
      | rt e2 st2 => exact h3.elim
      | ex c fs st2 => exact h3.elim
  obtain ⟨e', st', h1, h2⟩ := key xs 0 env st (by simp) h0
  rw [Nat.zero_add] at h2
  exact ⟨_, h1, y _ _ h2⟩
end
section
variable {α : Type} {env : Env} {st : Sto} {Q : VL → Sto → Prop} {R : Fl → Prop} {a b c t e : SE} {cs : SL} {mk : Mk} {m : Fn} {s : SS} {tg : Tg} {vs : List Nat} {v : α → VL} {xs : List α}
/-- loops and comprehensions over things of Lean -/
theorem wS_forV (v : α → VL) (xs : List α) (w : wE a env st fun x st1 => ∃ ds, (x = .d (.list ds) ∨ x = .d (.tuple ds)) ∧ ds.map VL.d = xs.map v ∧ wL tg s (xs.map v) env st1 R) : wS (sForS a tg s) env st R :=
  wS_forS (w.mono fun x st1 ⟨ds, h1, h2, h3⟩ => ⟨ds, h1, h2 ▸ h3⟩)
theorem wE_compV (v : α → VL) (xs : List α) (w : wE a env st fun x st1 => ∃ ds, (x = .d (.list ds) ∨ x = .d (.tuple ds)) ∧ ds.map VL.d = xs.map v ∧ ∃ ys st2, compL tg t e (wipeE env vs) (xs.map v) [] st1 = some (ys, st2) ∧ wM mk ys st2 Q) : wE (eCompS mk a tg t e vs) env st Q :=
  wE_compS (w.mono fun x st1 ⟨ds, h1, h2, h3⟩ => ⟨ds, h1, h2 ▸ h3⟩)
/-- a comprehension whose parts change nothing -/
theorem comp_pure (p : α → Bool) (f : α → VL) (hl : xs.length ≤ sizeLine)
    (h : ∀ x, x ∈ xs → ∃ e1, tg (v x) env = some e1 ∧ wE t e1 st (fun y st1 => y = .d (.bool (p x)) ∧ st1 = st) ∧ (p x = true → wE e e1 st fun y st1 => y = f x ∧ st1 = st)) : compL tg t e env (xs.map v) [] st = some ((xs.filter p).map f, st) := by
  refine compL_pure v p f xs [] (by simpa using hl) fun x hx => ?_
  obtain ⟨e1, h1, ⟨y, st1, h2, rfl, rfl⟩, h3⟩ := h x hx
  refine ⟨e1, h1, h2, fun hp => ?_⟩
  obtain ⟨y, st1, h4, rfl, rfl⟩ := h3 hp
  exact h4
end
theorem asSeqD {st : Sto} {x : PyData} {ds : List PyData} (h : x = .list ds ∨ x = .tuple ds) : ∃ k, asSeq st (.d x) = some (k, ds.map .d) := by
  rcases h with rfl | rfl
  · exact ⟨_, rfl⟩
  · exact ⟨_, rfl⟩
end Sl
namespace Sl
open PySem PySem.Spec PyProof.Rows L2
theorem wB_nt {Y N : Prop} (n : N) : wB (.d (.bool (!true))) Y N := wB_f n
theorem wB_nf {Y N : Prop} (y : Y) : wB (.d (.bool (!false))) Y N := wB_t y
section
variable {st : Sto} {Q : VL → Sto → Prop} {y : VL}
theorem wO_inS0 {k : Bool} {i : Int} {r : List Int} (h1 : asSeq st y = some (k, (r.map PyData.int).map VL.d)) (q : Q (.d (.bool (decide (i ∈ r)))) st) : wO (oInS false) st (.d (.int i)) y Q := wO_inS h1 q
theorem wO_inS1 {k : Bool} {i : Int} {r : List Int} (h1 : asSeq st y = some (k, (r.map PyData.int).map VL.d)) (q : Q (.d (.bool (!decide (i ∈ r)))) st) : wO (oInS true) st (.d (.int i)) y Q := wO_inS h1 q
theorem wO_inD0 {i : Int} {n : Nat} {kvs : List (Key × VL)} (h1 : st[n]? = some (.dk kvs)) (q : Q (.d (.bool (valL kvs (.inl i)).isSome)) st) : wO (oInD false) st (.d (.int i)) (.o n) Q := wO_inD h1 q
theorem wO_inD1 {i : Int} {n : Nat} {kvs : List (Key × VL)} (h1 : st[n]? = some (.dk kvs)) (q : Q (.d (.bool (!(valL kvs (.inl i)).isSome))) st) : wO (oInD true) st (.d (.int i)) (.o n) Q := wO_inD h1 q
end
end Sl
namespace Sl
open PySem PySem.Spec PyProof.Rows L2
/-! ### objects at the store's end -/
section
variable {st : Sto} {a b c : Ob} {l : List Ob}
theorem app_get0 : (st ++ a :: l)[st.length]? = some a := by
  rw [List.getElem?_append_right (Nat.le_refl _), Nat.sub_self]
  rfl
theorem app_get1 : (st ++ a :: b :: l)[st.length + 1]? = some b := by
  rw [List.getElem?_append_right (Nat.le_add_right _ 1), Nat.add_sub_cancel_left]
  rfl
theorem app_get2 : (st ++ a :: b :: c :: l)[st.length + 2]? = some c := by
  rw [List.getElem?_append_right (Nat.le_add_right _ _), Nat.add_sub_cancel_left]
  rfl
theorem app_set0 : (st ++ a :: l).set st.length b = st ++ b :: l := by
  rw [List.set_append_right _ _ (Nat.le_refl _), Nat.sub_self]
  rfl
theorem app_set1 {d : Ob} : (st ++ a :: b :: l).set (st.length + 1) d = st ++ a :: d :: l := by
  rw [List.set_append_right _ _ (Nat.le_add_right _ 1), Nat.add_sub_cancel_left]
  rfl
theorem app_set2 {d : Ob} : (st ++ a :: b :: c :: l).set (st.length + 2) d = st ++ a :: b :: d :: l := by
  rw [List.set_append_right _ _ (Nat.le_add_right _ _), Nat.add_sub_cancel_left]
  rfl
end
/-! ### keys -/
theorem valL_put {kvs : List (Key × VL)} {k y : Key} {z : VL} : valL (putL kvs k z) y = if y = k then some z else valL kvs y := by
  unfold putL
  split
  · rename_i h
    induction kvs with
    | nil => cases h
    | cons p kvs ih =>
      obtain ⟨k', v'⟩ := p
      by_cases e : k' = k
      · subst e
        by_cases e2 : y = k'
        · subst e2
          simp [valL]
        · have e3 : ¬ k' = y := fun h => e2 h.symm
          simp only [valL, List.map_cons, if_pos, List.find?_cons, e3, decide_false, if_neg e2]
          have : ∀ l : List (Key × VL), ((l.map fun kv => if kv.1 = k' then (kv.1, z) else kv).find? fun kv => decide (kv.1 = y)).map (·.2) = (l.find? fun kv => decide (kv.1 = y)).map (·.2) := by
            intro l
            induction l with
            | nil => rfl
            | cons q l ihl =>
              obtain ⟨k2, v2⟩ := q
              by_cases e4 : k2 = k'
              · subst e4
                simp only [List.map_cons, if_true, List.find?_cons, e3, decide_false]
                exact ihl
              · simp only [List.map_cons, if_neg e4, List.find?_cons]
                by_cases e5 : k2 = y
                · simp [e5]
                · simp only [e5, decide_false]
                  exact ihl
          exact this kvs
      · have h' : (kvs.any fun kv => decide (kv.1 = k)) = true := by simpa [e] using h
        have ih' := ih h'
        simp only [valL, List.map_cons, if_neg e, List.find?_cons] at ih' ⊢
        by_cases e2 : k' = y
        · subst e2
          simp [e]
        · simp only [e2, decide_false]
          exact ih'
  · rename_i h
    unfold valL
    rw [List.find?_append]
    cases hf : kvs.find? fun kv => decide (kv.1 = y) with
    | some p =>
      have h1 := List.find?_some hf
      have h2 := List.mem_of_find?_eq_some hf
      have : y ≠ k := fun e => h (List.any_eq_true.mpr ⟨p, h2, by rw [← e]; exact h1⟩)
      rw [if_neg this]
      rfl
    | none =>
      rw [Option.none_or]
      by_cases e : k = y
      · subst e
        simp
      · have e' : ¬ y = k := fun h => e h.symm
        simp [e, e']
theorem putL_len {kvs : List (Key × VL)} {k : Key} {z : VL} : (putL kvs k z).length = if (valL kvs k).isSome = true then kvs.length else kvs.length + 1 := by
  have e : (kvs.any fun kv => decide (kv.1 = k)) = (valL kvs k).isSome := by
    unfold valL
    rw [Option.isSome_map, List.isSome_find?]
  unfold putL
  rw [e]
  split <;> simp
/-! ### counting -/
theorem len_le_of_sub : ∀ {l m : List Nat}, l.Nodup → (∀ x ∈ l, x ∈ m) → l.length ≤ m.length
  | [], _, _, _ => Nat.zero_le _
  | x :: l, m, hn, hs => by
    have hx := hs x List.mem_cons_self
    have hn' := List.nodup_cons.mp hn
    have := len_le_of_sub (l := l) (m := m.erase x) hn'.2 fun y hy => by
      refine (List.mem_erase_of_ne fun e => ?_).mpr (hs y (List.mem_cons_of_mem _ hy))
      subst e
      exact hn'.1 hy
    rw [List.length_erase_of_mem hx] at this
    have hp : 0 < m.length := List.length_pos_of_mem hx
    rw [List.length_cons]
    omega
theorem all_in {o : List Nat} {n : Nat} (hn : o.Nodup) (hr : ∀ x ∈ o, x < n) (hl : n ≤ o.length) {x : Nat} (hx : x < n) : x ∈ o := by
  refine Classical.byContradiction fun h => ?_
  have := len_le_of_sub (l := x :: o) (m := List.range n) (List.nodup_cons.mpr ⟨h, hn⟩) fun y hy => by
    rcases List.mem_cons.mp hy with rfl | hy
    · exact List.mem_range.mpr hx
    · exact List.mem_range.mpr (hr y hy)
  rw [List.length_cons, List.length_range] at this
  omega
theorem some_out {o : List Nat} {n : Nat} (hl : o.length < n) : ∃ x, x < n ∧ x ∉ o := by
  refine Classical.byContradiction fun h => ?_
  have := len_le_of_sub (l := List.range n) (m := o) List.nodup_range fun x hx => Classical.byContradiction fun e => h ⟨x, List.mem_range.mp hx, e⟩
  rw [List.length_range] at this
  omega
end Sl
namespace Sl
open PySem PySem.Spec PyProof.Rows L2
theorem rise_len {r : List Int} {n : Nat} (h : r.Pairwise (· < ·)) (hr : ∀ x ∈ r, 0 ≤ x ∧ x < n) : r.length ≤ n := by
  have hn : (r.map Int.toNat).Nodup := by
    refine List.pairwise_map.mpr (List.Pairwise.imp_of_mem (fun {x y} hx hy hxy => ?_) h)
    have := hr x hx
    have := hr y hy
    omega
  have := len_le_of_sub (m := List.range n) hn fun x hx => by
    obtain ⟨y, hy, rfl⟩ := List.mem_map.mp hx
    have := hr y hy
    exact List.mem_range.mpr (by omega)
  rwa [List.length_map, List.length_range] at this
theorem atI_int {α : Type} (xs : List α) {i : Int} (h : 0 ≤ i) : atI xs i = xs[i.toNat]? := by
  have e : ((i.toNat : Nat) : Int) = i := Int.toNat_of_nonneg h
  rw [← e, atI_nat, Int.toNat_natCast]
theorem ixN_int {n : Nat} {i : Int} (h0 : 0 ≤ i) (h : i < n) : ixN n i = some i.toNat := by
  have e : ((i.toNat : Nat) : Int) = i := Int.toNat_of_nonneg h0
  have := ixN_nat (n := n) (i := i.toNat) (by omega)
  rwa [e] at this
section
variable {st : Sto} {Q : VL → Sto → Prop} {R : Fl → Prop} {env : Env}
theorem wO_addD {a b : List PyData} (hl : a.length + b.length ≤ sizeLine) (q : Q (.d (.list (a ++ b))) st) : wO (oAdd mkD) st (.d (.list a)) (.d (.list b)) Q := by
  refine wO_addL (xs := a.map .d) (ys := b.map .d) (fun _ h => by cases h) (fun _ h => by cases h) rfl rfl (by rw [List.length_map, List.length_map]; exact hl) ?_
  rw [← List.map_append]
  exact wM_Dm q
theorem wS_never (h : False) : wS sNever env st R := h.elim
end
end Sl
namespace Sl
open PySem PySem.Spec PyProof.Rows L2
section
variable {α : Type} {g : Tg} {body : SS} {v : α → VL} {xs : List α} {env : Env} {st : Sto} {R : Fl → Prop}
/-- a loop by its turns' numbers; it may end early -/
theorem wL_ix (I : Nat → Env → Sto → Prop) (h0 : I 0 env st)
    (step : ∀ i a env st, xs[i]? = some a → I i env st → ∃ e1, g (v a) env = some e1 ∧ wS body e1 st (turnTo (I (i + 1)) R))
    (y : ∀ e2 st2, I xs.length e2 st2 → R (.nx e2 st2)) : wL g body (xs.map v) env st R := by
  have key : ∀ (ys : List α) (i : Nat) (env : Env) (st : Sto), xs.drop i = ys → I i env st → ∃ o, forL g body (ys.map v) env st = some o ∧ (R o ∨ ∃ e' st', o = .nx e' st' ∧ I (i + ys.length) e' st') := by
    intro ys
    induction ys with
    | nil => exact fun i env st _ h => ⟨_, rfl, .inr ⟨_, _, rfl, h⟩⟩
    | cons a ys ih =>
      intro i env st hd h
      have ha : xs[i]? = some a := by
        have : (xs.drop i)[0]? = some a := by rw [hd]; rfl
        rw [List.getElem?_drop] at this
        exact this
      have hd2 : xs.drop (i + 1) = ys := by
        rw [← List.drop_drop, hd]
        rfl
      obtain ⟨e1, h1, o, h2, h3⟩ := step i a env st ha h
      rw [List.map_cons, List.length_cons, Nat.add_comm ys.length 1, ← Nat.add_assoc]
      unfold forL
      rw [h1]
      dsimp only
      rw [h2]
      cases o with
      | nx e2 st2 => exact ih (i + 1) e2 st2 hd2 h3
      | ct e2 st2 => exact ih (i + 1) e2 st2 hd2 h3
      | bk e2 st2 => exact ⟨_, rfl, .inl h3⟩
      | rt e2 st2 => exact ⟨_, rfl, .inl h3⟩
      | ex c fs st2 => exact ⟨_, rfl, .inl h3⟩
  obtain ⟨o, h1, h2⟩ := key xs 0 env st (by simp) h0
  rw [Nat.zero_add] at h2
  rcases h2 with h2 | ⟨e', st', rfl, h2⟩
  · exact ⟨_, h1, h2⟩
  · exact ⟨_, h1, y _ _ h2⟩
/-- over range(n) -/
theorem wL_rg {n : Nat} (I : Nat → Env → Sto → Prop) (h0 : I 0 env st)
    (step : ∀ i env st, i < n → I i env st → ∃ e1, g (.d (.int (i : Int))) env = some e1 ∧ wS body e1 st (turnTo (I (i + 1)) R))
    (y : ∀ e2 st2, I n e2 st2 → R (.nx e2 st2)) : wL g body ((List.range n).map fun (i : Nat) => VL.d (.int (i : Int))) env st R := by
  refine wL_ix (v := fun (i : Nat) => VL.d (.int (i : Int))) I h0 (fun i a env st ha hI => ?_) fun e2 st2 h => y e2 st2 (by rwa [List.length_range] at h)
  obtain ⟨hi, e⟩ := List.getElem?_eq_some_iff.mp ha
  rw [List.length_range] at hi
  rw [List.getElem_range] at e
  subst e
  exact step _ env st hi hI
end
theorem lenX {st : Sto} {x : PyData} {ds : List PyData} (h : x = .list ds ∨ x = .tuple ds) {Q : VL → Sto → Prop} (q : Q (.d (.int (ds.length : Nat))) st) : wC cLen st [.d x] Q := by
  rcases h with rfl | rfl
  · exact wC_lenL q
  · exact wC_lenT q
theorem ixX {st : Sto} {x : PyData} {ds : List PyData} {i : Nat} {d : PyData} (h : x = .list ds ∨ x = .tuple ds) (hd : ds[i]? = some d) {Q : VL → Sto → Prop} (q : Q (.d d) st) : wO oIx st (.d x) (.d (.int (i : Int))) Q := by
  obtain ⟨k, e⟩ := asSeqD (st := st) h
  refine wO_ix e (z := .d d) ?_ q
  rw [List.getElem?_map, hd]
  rfl
end Sl
namespace Sl
open PySem PySem.Spec PyProof.Rows L2
/-- a walk by steps that may fail -/
def RunS {α σ : Type} (S : σ → α → σ → Prop) : σ → List α → σ → Prop
  | s, [], s' => s' = s
  | s, d :: ds, s' => ∃ s1, S s d s1 ∧ RunS S s1 ds s'
theorem wL_run {α σ : Type} {g : Tg} {body : SS} {v : α → VL} {xs : List α} {env : Env} {st : Sto} {R : Fl → Prop} (S : σ → α → σ → Prop) (fn : ∀ s d s1 s2, S s d s1 → S s d s2 → s1 = s2) (enc : Nat → σ → Env → Sto → Prop) (bad : Sto → Prop) {s0 : σ} (h0 : enc 0 s0 env st)
    (step : ∀ i s a env st, xs[i]? = some a → enc i s env st → ∃ e1, g (v a) env = some e1 ∧ wS body e1 st fun o => (∃ s1, S s a s1 ∧ ∃ e2 st2, o = .nx e2 st2 ∧ enc (i + 1) s1 e2 st2) ∨ ((∀ s1, ¬ S s a s1) ∧ ∃ st2, o = .rt (.d (.bool false)) st2 ∧ bad st2))
    (y : ∀ s' e2 st2, RunS S s0 xs s' → (∀ s2, RunS S s0 xs s2 → s2 = s') → enc xs.length s' e2 st2 → R (.nx e2 st2)) (n : (∀ s', ¬ RunS S s0 xs s') → ∀ st2, bad st2 → R (.rt (.d (.bool false)) st2)) : wL g body (xs.map v) env st R := by
  have key : ∀ (ys : List α) (i : Nat) (s : σ) (env : Env) (st : Sto), xs.drop i = ys → enc i s env st → ∃ o, forL g body (ys.map v) env st = some o ∧
      ((∃ s', RunS S s ys s' ∧ (∀ s2, RunS S s ys s2 → s2 = s') ∧ ∃ e2 st2, o = .nx e2 st2 ∧ enc (i + ys.length) s' e2 st2) ∨ ((∀ s', ¬ RunS S s ys s') ∧ ∃ st2, o = .rt (.d (.bool false)) st2 ∧ bad st2)) := by
    intro ys
    induction ys with
    | nil => exact fun i s env st _ h => ⟨_, rfl, .inl ⟨s, rfl, fun s2 h2 => h2, _, _, rfl, h⟩⟩
    | cons a ys ih =>
      intro i s env st hd h
      have ha : xs[i]? = some a := by
        have : (xs.drop i)[0]? = some a := by rw [hd]; rfl
        rw [List.getElem?_drop] at this
        exact this
      have hd2 : xs.drop (i + 1) = ys := by
        rw [← List.drop_drop, hd]
        rfl
      obtain ⟨e1, h1, o, h2, h3⟩ := step i s a env st ha h
      rw [List.map_cons, List.length_cons, Nat.add_comm ys.length 1, ← Nat.add_assoc]
      unfold forL
      rw [h1]
      dsimp only
      rw [h2]
      rcases h3 with ⟨s1, hS, e2, st2, rfl, he⟩ | ⟨hS, st2, rfl, hb⟩
      · obtain ⟨o, k1, k2⟩ := ih (i + 1) s1 e2 st2 hd2 he
        refine ⟨o, k1, ?_⟩
        rcases k2 with ⟨s', k3, k4, k5⟩ | ⟨k3, k4⟩
        · exact .inl ⟨s', ⟨s1, hS, k3⟩, fun s2 ⟨s3, k6, k7⟩ => k4 s2 (fn _ _ _ _ hS k6 ▸ k7), k5⟩
        · exact .inr ⟨fun s' ⟨s3, k6, k7⟩ => k3 s' (fn _ _ _ _ hS k6 ▸ k7), k4⟩
      · exact ⟨_, rfl, .inr ⟨fun s' ⟨s3, k6, _⟩ => hS s3 k6, st2, rfl, hb⟩⟩
  obtain ⟨o, h1, h2⟩ := key xs 0 s0 env st (by simp) h0
  rw [Nat.zero_add] at h2
  rcases h2 with ⟨s', k1, k2, e2, st2, rfl, k3⟩ | ⟨k1, st2, rfl, k2⟩
  · exact ⟨_, h1, y s' e2 st2 k1 k2 k3⟩
  · exact ⟨_, h1, n k1 st2 k2⟩
end Sl
namespace Sl
theorem nodup_len {r : List Int} {n : Nat} (h : r.Nodup) (hr : ∀ x ∈ r, 0 ≤ x ∧ x < n) : r.length ≤ n := by
  have hn : (r.map Int.toNat).Nodup := by
    refine List.pairwise_map.mpr (List.Pairwise.imp_of_mem (fun {x y} hx hy hxy => ?_) h)
    have := hr x hx
    have := hr y hy
    intro e
    exact hxy (by omega)
  have := len_le_of_sub (m := List.range n) hn fun x hx => by
    obtain ⟨y, hy, rfl⟩ := List.mem_map.mp hx
    have := hr y hy
    exact List.mem_range.mpr (by omega)
  rwa [List.length_map, List.length_range] at this
theorem rise_nodup {r : List Int} (h : r.Pairwise (· < ·)) : r.Nodup := h.imp fun {x y} h e => by omega
end Sl
namespace Sl
open PySem PySem.Spec PyProof.Rows L2
/-! ### a store that keeps its shape -/
structure Flt (st A : Sto) : Prop where
  len : A.length = st.length
  at_ : ∀ i : Nat, A[i]? = st[i]? ∨ ∃ b : Ob, A[i]? = some b ∧ b.flat = true
theorem Flt.refl (st : Sto) : Flt st st := ⟨rfl, fun _ => .inl rfl⟩
theorem Flt.set {st A : Sto} (h : Flt st A) {n : Nat} {b : Ob} (hb : b.flat = true) : Flt st (A.set n b) where
  len := by rw [List.length_set, h.len]
  at_ := fun i => by
    by_cases e : i = n
    · subst e
      by_cases hl : i < A.length
      · exact .inr ⟨b, List.getElem?_set_self hl, hb⟩
      · rw [List.set_eq_of_length_le (by omega)]
        exact h.at_ i
    · rw [List.getElem?_set_ne (fun k => e k.symm)]
      exact h.at_ i
theorem Flt.app {st A : Sto} (h : Flt st A) {x y : Ob} (hy : y.flat = true) : Flt (st ++ [x]) (A ++ [y]) where
  len := by rw [List.length_append, List.length_append, h.len]; rfl
  at_ := fun i => by
    by_cases hl : i < st.length
    · rw [List.getElem?_append_left (by rw [h.len]; exact hl), List.getElem?_append_left hl]
      exact h.at_ i
    · by_cases e : i = st.length
      · subst e
        rw [← h.len, List.getElem?_append_right (Nat.le_refl _), Nat.sub_self]
        exact .inr ⟨y, rfl, hy⟩
      · left
        rw [List.getElem?_eq_none_iff.mpr (by rw [List.length_append, h.len, List.length_singleton]; omega), List.getElem?_eq_none_iff.mpr (by rw [List.length_append, List.length_singleton]; omega)]
theorem cutOk_flt {st A l : Sto} (h : Flt st A) : cutOk st (A ++ l) := ⟨by rw [List.length_append, h.len]; omega, fun i hi => by
  rw [List.getElem?_append_left (by rw [h.len]; exact hi)]
  exact h.at_ i⟩
theorem take_flt {st A l : Sto} (h : Flt st A) : (A ++ l).take st.length = A := by
  rw [← h.len]
  exact take_app A l
section
variable {A : Sto} {n : Nat} {a b c d : Ob} {l : List Ob}
theorem getA0 (h : A.length = n) : (A ++ a :: l)[n]? = some a := h ▸ app_get0
theorem getA1 (h : A.length = n) : (A ++ a :: b :: l)[n + 1]? = some b := h ▸ app_get1
theorem setA0 (h : A.length = n) : (A ++ a :: l).set n b = A ++ b :: l := h ▸ app_set0
theorem setA1 (h : A.length = n) : (A ++ a :: b :: l).set (n + 1) d = A ++ a :: d :: l := h ▸ app_set1
theorem set_lo {s : Nat} (h : s < A.length) : (A ++ l).set s a = A.set s a ++ l := List.set_append_left _ _ h
theorem set_id {s : Nat} (h : A[s]? = some a) : A.set s a = A := by
  refine List.ext_getElem? fun i => ?_
  by_cases e : i = s
  · subst e
    rw [h, List.getElem?_set_self (List.getElem?_eq_some_iff.mp h).1]
  · rw [List.getElem?_set_ne fun k => e k.symm]
end
end Sl
namespace Sl
open PySem PySem.Spec PyProof.Rows L2
/-- a comprehension by its turns' numbers -/
theorem compL_ix {α : Type} {g : Tg} {t e : SE} {env : Env} (v : α → VL) (I : Nat → List VL → Sto → Prop) (xs : List α) (st : Sto) (hl : xs.length ≤ sizeLine) (h0 : I 0 [] st)
    (hs : ∀ i a acc st, xs[i]? = some a → I i acc st → ∃ e1, g (v a) env = some e1 ∧ wE t e1 st fun y st1 => wB y (wE e e1 st1 fun z st2 => I (i + 1) (acc ++ [z]) st2) (I (i + 1) acc st1)) :
    ∃ ys st', compL g t e env (xs.map v) [] st = some (ys, st') ∧ I xs.length ys st' := by
  have key : ∀ (zs : List α) (i : Nat) (acc : List VL) (st : Sto), xs.drop i = zs → acc.length ≤ i → I i acc st → ∃ ys st', compL g t e env (zs.map v) acc st = some (ys, st') ∧ I (i + zs.length) ys st' := by
    intro zs
    induction zs with
    | nil => exact fun i acc st _ _ h => ⟨acc, st, rfl, h⟩
    | cons a zs ih =>
      intro i acc st hd ha h
      have hx : xs[i]? = some a := by
        have : (xs.drop i)[0]? = some a := by rw [hd]; rfl
        rw [List.getElem?_drop] at this
        exact this
      have hd2 : xs.drop (i + 1) = zs := by
        rw [← List.drop_drop, hd]
        rfl
      have hi := (List.getElem?_eq_some_iff.mp hx).1
      obtain ⟨e1, h1, y, st1, h2, b, rfl, hy, hn⟩ := hs i a acc st hx h
      rw [List.map_cons, List.length_cons, Nat.add_comm zs.length 1, ← Nat.add_assoc]
      unfold compL
      rw [h1]
      dsimp only
      rw [h2]
      cases b with
      | true =>
        obtain ⟨z, st2, h3, h4⟩ := hy rfl
        dsimp only
        rw [h3]
        dsimp only
        rw [if_pos (by omega)]
        exact ih (i + 1) _ st2 hd2 (by rw [List.length_append, List.length_singleton]; omega) h4
      | false => exact ih (i + 1) acc st1 hd2 (by omega) (hn rfl)
  obtain ⟨ys, st', h1, h2⟩ := key xs 0 [] st (by simp) (Nat.le_refl _) h0
  rw [Nat.zero_add] at h2
  exact ⟨ys, st', h1, h2⟩
def pairP (p : Int × Int) : PyData := .list [.int p.1, .int p.2]
theorem pairsD_map : ∀ ps : List (Int × Int), pairsD (ps.map pairD) = some ps
  | [] => rfl
  | p :: ps => by
    show (pairsD (ps.map pairD)).map _ = _
    rw [pairsD_map ps]
    rfl
theorem wC_sortedP {mk : Mk} {st : Sto} {x : VL} {Q : VL → Sto → Prop} {ps : List (Int × Int)} (h1 : asSeq st x = some (false, ps.map pairD)) (w : wM mk ((sortP ps).map pairD) st Q) : wC (cSortedP mk) st [x] Q := by
  obtain ⟨r, st', e, q⟩ := w
  refine ⟨r, st', ?_, q⟩
  unfold cSortedP
  simp only [h1]
  rw [pairsD_map, Option.bind_some]
  exact e
theorem sortI_lt {ns : List Int} (h : ns.Nodup) : (sortI ns).Pairwise (· < ·) := by
  have h1 := sortI_rises ns
  have h2 : (sortI ns).Nodup := (sortI_perm ns).nodup_iff.mpr h
  exact (List.pairwise_and_iff.mpr ⟨h1, h2⟩).imp fun {a b} ⟨h3, h4⟩ => by
    have : a ≠ b := h4
    omega
end Sl
namespace Sl
open PySem PySem.Spec PyProof.Rows L2
section
variable {env : Env} {st : Sto} {Q : VL → Sto → Prop} {a c t e : SE} {mk : Mk} {tg : Tg} {vs : List Nat}
theorem wZ_fr {n : Nat} {d : PyData} (h : st[n]? = some (.fr d)) (q : Q (.d d) st) : wZ st (.o n) Q := by
  refine ⟨_, _, ?_, q⟩
  unfold frz
  simp only [h]
/-- a comprehension over an object, whose parts change nothing -/
theorem compO_pure {α : Type} {n : Nat} (v : α → VL) (p : α → Bool) (f : α → VL) {xs : List α} (hx : st[n]? = some (.lst (xs.map v))) (hl : xs.length ≤ sizeLine)
    (h : ∀ x, x ∈ xs → ∃ e1, tg (v x) env = some e1 ∧ wE t e1 st (fun y st1 => y = .d (.bool (p x)) ∧ st1 = st) ∧ (p x = true → wE e e1 st fun y st1 => y = f x ∧ st1 = st)) :
    compO tg t e env n ((xs.map v).length + 1) 0 [] st = some ((xs.filter p).map f, st) := by
  have key : ∀ (m i : Nat) (acc : List VL), i + m = xs.length + 1 → acc.length ≤ i → compO tg t e env n m i acc st = if m = 0 then none else some (acc ++ ((xs.drop i).filter p).map f, st) := by
    intro m
    induction m with
    | zero => exact fun i acc _ _ => rfl
    | succ m ih =>
      intro i acc hm ha
      rw [if_neg (Nat.succ_ne_zero m)]
      unfold compO
      have l1 : lstAt st (.o n) = some (n, xs.map v) := by simp only [lstAt, hx]
      rw [l1]
      dsimp only
      rw [List.getElem?_map]
      cases hi : xs[i]? with
      | none =>
        have := List.getElem?_eq_none_iff.mp hi
        rw [List.drop_of_length_le this]
        simp
      | some x =>
        have hil := (List.getElem?_eq_some_iff.mp hi).1
        obtain ⟨e1, h1, ⟨y, st1, h2, rfl, rfl⟩, h3⟩ := h x (List.mem_of_getElem? hi)
        have hd : xs.drop i = x :: xs.drop (i + 1) := by
          rw [← (List.getElem?_eq_some_iff.mp hi).2, List.getElem_cons_drop]
        rw [Option.map_some]
        dsimp only
        rw [h1]
        dsimp only
        rw [h2, hd, List.filter_cons]
        cases hp : p x with
        | true =>
          obtain ⟨z, st2, h4, rfl, rfl⟩ := h3 hp
          dsimp only
          rw [h4]
          dsimp only
          rw [if_pos (by omega), ih (i + 1) _ (by omega) (by rw [List.length_append, List.length_singleton]; omega), if_neg (by omega)]
          simp
        | false =>
          dsimp only
          rw [ih (i + 1) acc (by omega) (by omega), if_neg (by omega)]
          simp
  rw [List.length_map, key (xs.length + 1) 0 [] (by omega) (Nat.le_refl _), if_neg (Nat.succ_ne_zero _)]
  rfl
theorem wE_compO {n : Nat} {xs : List VL} (w : wE c env st fun x st1 => x = .o n ∧ st1[n]? = some (.lst xs) ∧ ∃ ys st2, compO tg t e (wipeE env vs) n (xs.length + 1) 0 [] st1 = some (ys, st2) ∧ wM mk ys st2 Q) : wE (eCompS mk c tg t e vs) env st Q := by
  obtain ⟨x, st1, e1, rfl, hx, ys, st2, e2, z, st3, e3, q⟩ := w
  refine ⟨z, st3, ?_, q⟩
  have hw : wlk st1 (.o n) = some (.inr (n, xs.length)) := by simp only [wlk, hx]
  simp only [eCompS, e1, obind, hw, e2, Option.bind_some, e3, Option.map_some]
end
end Sl
namespace Sl
open PySem PySem.Spec PyProof.Rows L2
theorem compW {α : Type} {g : Tg} {t e : SE} {env : Env} {mk : Mk} {Q : VL → Sto → Prop} {v : α → VL} (I : Nat → List VL → Sto → Prop) {xs : List α} {st : Sto} (hl : xs.length ≤ sizeLine) (h0 : I 0 [] st)
    (hs : ∀ i a acc st, xs[i]? = some a → I i acc st → ∃ e1, g (v a) env = some e1 ∧ wE t e1 st fun y st1 => wB y (wE e e1 st1 fun z st2 => I (i + 1) (acc ++ [z]) st2) (I (i + 1) acc st1))
    (fin : ∀ ys st', I xs.length ys st' → wM mk ys st' Q) : ∃ ys st2, compL g t e env (xs.map v) [] st = some (ys, st2) ∧ wM mk ys st2 Q := by
  obtain ⟨ys, st', h1, h2⟩ := compL_ix v I xs st hl h0 hs
  exact ⟨ys, st', h1, fin ys st' h2⟩
end Sl
set_option Elab.async false
set_option linter.all false
set_option autoImplicit false
set_option maxRecDepth 100000
set_option maxHeartbeats 4000000
/-! instances of classes: fields read and set, an instance made -/
namespace Sl
open PySem PySem.Spec PyProof.Rows L2
def putA (f : Str) (v : VL) : List (Str × VL) → List (Str × VL)
  | [] => [(f, v)]
  | (g, x) :: r => if g = f then (g, v) :: r else (g, x) :: putA f v r
/-- e.f, e an instance of the class with this number -/
def eFld (c : Nat) (a : SE) (f : Str) : SE := fun env st => obind (a env st) fun x st1 => match x with
  | .o n => match st1[n]? with
    | some (.ins c' fs) => if c' = c then (fs.lookup f).map fun v => .ok v st1 else none
    | _ => none
  | _ => none
/-- o.f = e -/
def sFldS (c : Nat) (e a : SE) (f : Str) : SS := fun env st => fbind (e env st) fun y st1 => fbind (a env st1) fun x st2 => match x with
  | .o n => match st2[n]? with
    | some (.ins c' fs) => if c' = c ∧ fs.length < 1000 then some (.nx env (st2.set n (.ins c (putA f y fs)))) else none
    | _ => none
  | _ => none
/-- C(args): a new instance, then its __init__ -/
def eMake (c : Nat) (m : Fn) (args : SL) : SE := fun env st => obindL (args env st) fun xs st1 => match m (.o st1.length :: xs) (st1 ++ [.ins c []]) with
  | some (.ok (.d .none) st2) => some (.ok (.o st1.length) st2)
  | some (.ex k fs st2) => some (.ex k fs st2)
  | _ => none
section
variable {K : Kf} {P : Par} {ρ : List Addr} {F H : Hp} {st : Sto}
theorem kvr_look {f : Str} : ∀ {vs : List (Str × V)} {xs : List (Str × VL)} {x : VL}, KVR K ρ F vs xs → xs.lookup f = some x → ∃ v, vs.lookup f = some v ∧ VR K ρ F v x
  | _, _, _, .nil, h => by cases h
  | (k, v) :: vs, (k', y) :: xs, x, .cons ⟨e, r⟩ t, h => by
    obtain rfl : k = k' := e
    by_cases hf : f = k
    · subst hf
      have h' : some y = some x := by simpa [List.lookup] using h
      cases h'
      exact ⟨v, by simp [List.lookup], r⟩
    · have hb : (f == k) = false := by simpa using hf
      have h' : xs.lookup f = some x := by simpa [List.lookup, hb] using h
      obtain ⟨u, h1, h2⟩ := kvr_look t h'
      exact ⟨u, by simp [List.lookup, hb, h1], h2⟩
theorem kvr_putA {f : Str} {v : V} {x : VL} (r : VR K ρ F v x) : ∀ {vs : List (Str × V)} {xs : List (Str × VL)}, KVR K ρ F vs xs → KVR K ρ F (L2.putF f v vs) (putA f x xs)
  | _, _, .nil => .cons ⟨rfl, r⟩ .nil
  | (k, u) :: vs, (k', y) :: xs, .cons ⟨e, r'⟩ t => by
    obtain rfl : k = k' := e
    unfold L2.putF putA
    by_cases hk : k = f
    · rw [if_pos hk, if_pos hk]
      exact .cons ⟨rfl, r⟩ t
    · rw [if_neg hk, if_neg hk]
      exact .cons ⟨rfl, r'⟩ (kvr_putA r t)
theorem Im.ins_ (I : Im K P ρ F H st) {n c : Nat} {fs : List (Str × VL)} {v : V} (r : VR K ρ F v (.o n)) (h : st[n]? = some (.ins c fs)) : ∃ a dx fvs, v = .ref a ∧ ρ[n]? = some a ∧ F a = none ∧ H a = some (.ins (P.cl c) dx fvs) ∧ KVR K ρ F fvs fs := by
  obtain ⟨a, e, ha, hF, dx, fvs, h1, h2⟩ := I.at_ r h
  exact ⟨a, dx, fvs, e, ha, hF, h1, h2⟩
end
section
variable {X : Cx} {P : Par} {E : XK} {a e : Expr} {ca ce : SE} {f : Str} {pos pos' : Pos} {c : Nat}
theorem e_fld (hC : Cls X.K (P.cl c)) (hn : NoAttr X.K (P.cl c) f) (ha : PE X a (rdE X.K P E ca)) (hb : attributeBase a f X.env (eval a X.env) = eval a X.env := by rfl) : PE X (.Attribute a f pos) (rdE X.K P E (eFld c ca f)) :=
  pe_weak (pe_fld ha hb) fun σ H Q ⟨ρ, F, st, env, o, I, R, h, p⟩ => by
    refine rdE_bind I R h p fun v ρ1 F1 H1 x st1 t1 I1 R1 r1 h1 p1 => ?_
    split at h1
    · rename_i n
      split at h1
      · rename_i c' fs hs
        split at h1
        · rename_i hc
          subst hc
          obtain ⟨y, h2, h3⟩ := Option.map_eq_some_iff.mp h1
          subst h3
          obtain ⟨b, dx, fvs, rfl, _, _, hH, hk⟩ := I1.ins_ r1 hs
          obtain ⟨u, h4, h5⟩ := kvr_look hk h2
          exact ⟨b, _, dx, fvs, u, rfl, hH, hC, hn, h4, p1 _ _ _ _ (Tr.refl _ _ _) I1 h5⟩
        · cases h1
      · cases h1
    · cases h1
theorem s_fld (hC : Cls X.K (P.cl c)) (hn : NoAttr X.K (P.cl c) f) (ha : PE X a (rdE X.K P E ca)) (he : PE X e (rdE X.K P E ce)) (hs : swapsWith e (some (.Attribute a f pos')) pos.line X.env = pure false := by rfl) :
    PS X (.Assign [.Attribute a f pos'] e pos) (rdS X.K P E (sFldS c ce ca f)) := ps_weak (ps_fld ha he hs) fun D σ H ⟨ρ, F, st, env, o, I, R, h, p⟩ => by
  refine rdE_bindS I R h p fun v ρ1 F1 H1 y st1 t1 I1 R1 r1 h1 p1 => ?_
  refine rdE_bindS I1 R1 h1 p1 fun w ρ2 F2 H2 x st2 t2 I2 R2 r2 h2 p2 => ?_
  split at h2
  · rename_i n
    split at h2
    · rename_i c' fs hs2
      split at h2
      · rename_i hc
        obtain ⟨rfl, hl⟩ := hc
        cases h2
        obtain ⟨b, dx, fvs, rfl, hb, hF, hH, hk⟩ := I2.ins_ r2 hs2
        have hlen : fvs.length = fs.length := paired_len hk
        obtain ⟨t3, I3⟩ := I2.store (o := .ins (P.cl c') dx (L2.putF f v fvs)) (b := .ins c' (putA f y fs)) hb hF ⟨hF, dx, _, upd_same, kvr_putA (r1.mono t2) hk⟩
        exact ⟨b, _, dx, fvs, rfl, hH, hC, hn, by omega, p2 _ _ _ _ t3 I3 (R2.mono t3)⟩
      · cases h2
    · cases h2
  · cases h2
variable {x : Str} {p : Pos} {es : List Expr} {cs : SL} {CX : CXT} {k n : Nat} {fI : Addr} {fd : FuncData} {ps : List Str} {m : Fn}
theorem e_make (M : L2.Mk X.K (P.cl c) fI) (F : FnOk X.prog X.w X.K X.mg X.base CX k fI fd ps (spF X.K P n m)) (hr : Room (k + 1) X.A) (hg : Gl X x) (hm : X.mg x = some (.ref (P.cl c))) (hb : Binds X.K fd ps []) (hx : Passes CX X E)
    (ha : PA X (e :: es) (rdL X.K P E cs)) (hdb : (x == ("__debug__" : Str)) = false := by decide) (he : starEach (e :: es) X.env = (false, eval e X.env) :: starEach es X.env := by rfl) (hpl : (backTo pos (starEach es X.env)).any (·.1) = false := by rfl) :
    PE X (.Call (.Name x p) (e :: es) [] pos) (rdE X.K P E (eMake c (nFn n m) cs)) :=
  pe_weak (pe_make M F hr hg hm hb .nil hx ha hdb he hpl) fun σ H Q ⟨ρ, F, st, env, o, I, R, h, p⟩ => by
    refine rdL_bind I R h p fun vs ρ1 F1 H1 xs st1 t1 I1 R1 r1 h1 p1 => ?_
    intro a dx ha hd hne
    rw [List.append_nil]
    obtain ⟨t2, I2⟩ := junk I1 hd (.own a)
    have ha2 : upd H1 dx (.own a) a = none := by rw [upd_ne (fun e => hne e.symm)]; exact ha
    obtain ⟨t3, I3⟩ := I2.alloc (o := .ins (P.cl c) dx []) (b := .ins c []) ha2 fun ρ' H' _ hF hH _ => ⟨hF, dx, [], hH, .nil⟩
    have hl : ρ1.length = st1.length := I1.len
    have hv : VR X.K (ρ1 ++ [a]) F1 (.ref a) (.o st1.length) := ⟨a, rfl, by rw [← hl, List.getElem?_append_right (Nat.le_refl _), Nat.sub_self]; rfl⟩
    have t23 := t2.trans t3
    unfold nFn at h1
    split at h1
    · rename_i st2 hmk
      cases h1
      split at hmk
      · rename_i hn
        refine ⟨ρ1 ++ [a], F1, st1 ++ [.ins c []], .o st1.length :: xs, _, I3, .cons hv (r1.mono t23), hn, hmk, ?_⟩
        intro v ρ4 F4 H4 t4 I4 r4
        refine ⟨vr_none r4, p1 _ _ _ _ (t23.trans t4) I4 ?_⟩
        exact VR.mono t4 hv
      · cases hmk
    · rename_i k' fs st2 hmk
      cases h1
      split at hmk
      · rename_i hn
        exact ⟨ρ1 ++ [a], F1, st1 ++ [.ins c []], .o st1.length :: xs, .ex k' fs st2, I3, .cons hv (r1.mono t23), hn, hmk, PostX.mono t23 p1⟩
      · cases hmk
    · cases h1
end
end Sl
set_option Elab.async false
set_option linter.all false
set_option autoImplicit false
set_option maxRecDepth 100000
set_option maxHeartbeats 4000000
/-! sum, min and max of two, targets of a list or tuple, tuple <= tuple, a written number times a tuple, x in a global tuple -/
namespace Sl
open PySem PySem.Spec PyProof.Rows L2
/-! ### targets -/
/-- (a, b, ..) = a list or tuple -/
def gU (n : Nat) (gs : List VL → Env → Option Env) : Tg := fun x env => match x with
  | .d (.tuple ds) => if ds.length = n then gs (ds.map .d) env else none
  | .d (.list ds) => if ds.length = n then gs (ds.map .d) env else none
  | _ => none
section
variable {X : Cx}
theorem pg_or {e : Expr} {t t' : TG} (h : PG X e t) (h' : PG X e t') : PG X e fun v σ H Q => t v σ H Q ∨ t' v σ H Q := ⟨fun pins s σ H v u Q I r q => q.elim (h.run pins s σ H v u Q I r) (h'.run pins s σ H v u Q I r)⟩
theorem g_unp {es : List Expr} {k : Nat} {T : List Nat} {gs : List VL → Env → Option Env} {n : Nat} {pos : Pos} (hc : X.calm = true) (h : PGs X es (rdGs X.K T gs)) (hn : (assignEach es X.env).length = n := by rfl) (hst : (assignEach es X.env).findIdx? (·.1) = none := by rfl) :
    PG X (.Tuple es k pos) (rdG X.K T (gU n gs)) := pg_weak (pg_or (pg_tup hc h hn hst) (pg_unl hc h hn hst)) fun v σ H Q ⟨ρ, F, env, x, env', e, R, r, h, q⟩ => by
  unfold gU at h
  split at h
  · rename_i ds
    split at h
    · rename_i hl
      cases (show Dq X.K F v (.tuple ds) from r) with
      | tup hq hd =>
        have hv : VRs X.K ρ F _ (ds.map .d) := vrs_of hd
        refine .inl ⟨_, _, rfl, SqT.of (e _ _ hq), ?_, ρ, F, env, _, env', e, R, hv, h, q⟩
        rw [paired_len hv, List.length_map]
        exact hl
    · cases h
  · rename_i ds
    split at h
    · rename_i hl
      cases (show Dq X.K F v (.list ds) from r) with
      | lst hq hd =>
        have hv : VRs X.K ρ F _ (ds.map .d) := vrs_of hd
        refine .inr ⟨_, _, rfl, Evl.ex_l e hq, ?_, ρ, F, env, _, env', e, R, hv, h, q⟩
        rw [paired_len hv, List.length_map]
        exact hl
    · cases h
  · cases h
end
/-! ### sum, min, max -/
section
variable {K : Kf}
def cSum : OpC := fun st xs => match xs with
  | [x] => match asSeq st x with
    | some (false, ys) => (intsOf ys).map fun ns => (.d (.int ns.sum), st)
    | _ => none
  | _ => none
theorem pr_sum : PrC K (rSum K) cSum := ⟨fun {P ρ F H st st' vs xs z Q} I r h q => by
  unfold cSum at h
  split at h
  · split at h
    · rename_i ys hy
      obtain ⟨v, rfl, rv⟩ := vrs1 r
      obtain ⟨ns, h1, h2⟩ := Option.map_eq_some_iff.mp h
      cases h2
      obtain ⟨a, ws, rfl, h3, h4, h5⟩ := asSeq_ok I rv hy
      have e := intsOf_ok h5 h1
      subst e
      exact ⟨a, ns, rfl, h3 rfl, q _ ρ F H (Tr.refl ..) I (.int _)⟩
    · cases h
  · cases h⟩
def cMin2 : OpC := fun st xs => match xs with
  | [x, y] => (asI x).bind fun i => (asI y).map fun j => (.d (.int (min i j)), st)
  | _ => none
def cMax2 : OpC := fun st xs => match xs with
  | [x, y] => (asI x).bind fun i => (asI y).map fun j => (.d (.int (max i j)), st)
  | _ => none
theorem pr_min2 : PrC K (fun xs H Q => ∃ i j, xs = [.int i, .int j] ∧ Q (.int (if j < i then j else i)) H) cMin2 := ⟨fun {P ρ F H st st' vs xs z Q} I r h q => by
  unfold cMin2 at h
  split at h
  · obtain ⟨v, w, rfl, rv, rw⟩ := vrs2 r
    obtain ⟨i, h1, h2⟩ := Option.bind_eq_some_iff.mp h
    obtain ⟨j, h3, h4⟩ := Option.map_eq_some_iff.mp h2
    cases h4
    rw [asI_eq h1] at rv
    rw [asI_eq h3] at rw
    have e : (if j < i then j else i) = min i j := by
      split <;> omega
    refine ⟨i, j, by rw [vr_int rv, vr_int rw], ?_⟩
    rw [e]
    exact q _ ρ F H (Tr.refl ..) I (.int _)
  · cases h⟩
theorem pr_max2 : PrC K (fun xs H Q => ∃ i j, xs = [.int i, .int j] ∧ Q (.int (if j > i then j else i)) H) cMax2 := ⟨fun {P ρ F H st st' vs xs z Q} I r h q => by
  unfold cMax2 at h
  split at h
  · obtain ⟨v, w, rfl, rv, rw⟩ := vrs2 r
    obtain ⟨i, h1, h2⟩ := Option.bind_eq_some_iff.mp h
    obtain ⟨j, h3, h4⟩ := Option.map_eq_some_iff.mp h2
    cases h4
    rw [asI_eq h1] at rv
    rw [asI_eq h3] at rw
    have e : (if j > i then j else i) = max i j := by
      split <;> omega
    refine ⟨i, j, by rw [vr_int rv, vr_int rw], ?_⟩
    rw [e]
    exact q _ ρ F H (Tr.refl ..) I (.int _)
  · cases h⟩
end
end Sl
set_option Elab.async false
set_option linter.all false
set_option autoImplicit false
set_option maxRecDepth 100000
set_option maxHeartbeats 4000000
/-! a tuple times a small number, tuple <= tuple, x in a tuple that stands in the kept table -/
namespace Sl
open PySem PySem.Spec PyProof.Rows L2
theorem tuple_mul1 (l : Addr) (items : Array Value) (n : Nat) (dd : Option Addr) (sl : Array (Option Value)) (u : Tok) :
    Meets (Builtin.«tuple.__mul__» ⟨[.ref l, .int 1 u], []⟩) (fun _ R s => s.heap.get? l = some { cls := .type "tuple", dict := dd, data := .seq items n, slots := sl } ∧ R (.ok (.ret (Value.ref l))) s) :=
  .of_wp fun prog w A R s h => by
    obtain ⟨hp, g, d, tk, os⟩ := s
    obtain ⟨hl, h⟩ := h
    have f1 := AutoSeq1.idx_int
    wp_walk using wpAny_loadPart' hl
    repeat (first
      | (refine wpAny_ite_true (by simp) ?_; wp_walk using wpAny_loadPart' hl))
    exact ⟨_, rfl, h⟩
theorem tuple_mul0 (l : Addr) (items : Array Value) (n : Nat) (dd : Option Addr) (sl : Array (Option Value)) (x : Int) (u : Tok) (c0 : (decide (x < -(2 ^ 63)) || decide (x ≥ 2 ^ 63)) = false) (c1 : (items.isEmpty || x == 1) = false) (c2 : (decide (x ≤ 0) || items.isEmpty) = true) :
    Meets (Builtin.«tuple.__mul__» ⟨[.ref l, .int x u], []⟩) (fun _ R s => s.heap.get? l = some { cls := .type "tuple", dict := dd, data := .seq items n, slots := sl } ∧
      R (.ok (.ret (Value.ref s.heap.objs.size))) { s with heap := s.heap.push { cls := Value.type "tuple", data := Data.seq #[] }, toks := s.toks }) :=
  .of_wp fun prog w A R s h => by
    obtain ⟨hp, g, d, tk, os⟩ := s
    obtain ⟨hl, h⟩ := h
    have f1 := AutoSeq1.idx_int
    wp_walk using wpAny_loadPart' hl
    repeat (first
      | (refine wpAny_ite_false (decide_eq_false (by rw [c0]; exact Bool.false_ne_true)) ?_; wp_walk using wpAny_loadPart' hl)
      | (refine wpAny_ite_false (decide_eq_false (by rw [c1]; exact Bool.false_ne_true)) ?_; wp_walk using wpAny_loadPart' hl)
      | (refine wpAny_ite_true (decide_eq_true (by rw [c2])) ?_; wp_walk using wpAny_loadPart' hl))
    exact ⟨_, rfl, h⟩
def rRepT1 (K : Kf) : R2 := fun x y H Q => ∃ l xs, x = .ref l ∧ y = .int 1 ∧ SqT K H l xs ∧ Q (.ref l) H
def rRepT0 (K : Kf) : R2 := fun x y H Q => ∃ l k xs, x = .ref l ∧ y = .int k ∧ SqT K H l xs ∧ xs ≠ [] ∧ k ≤ 0 ∧ -1000 ≤ k ∧ ∀ p, H p = none → Q (.ref p) (upd H p (.tup []))
section
variable {X : Cx}
theorem op_repT1 : OpR X (binaryOp .Mult) (rRepT1 X.K) := by
  intro pins s σ H x y v u Q I rx ry h
  obtain ⟨l, xs, rfl, rfl, hT, q⟩ := h
  cases rx
  obtain ⟨t, rfl⟩ := ry
  obtain ⟨its, r, ⟨⟨cls, dd, data, sl⟩, ho, hc, n, hd⟩, hs⟩ := I.tuple hT
  simp only at hc hd
  subst hc hd
  exact wpAny_binaryOp_repeat_ref (T := "tuple") (U := "int") (by decide) ⟨_, ho, rfl⟩ (fun s' => typeIs_int s' 1 t) noFill_tuple_mul F.fills_int_mul F.slot_int_rmul repeat_tuple F.slot_int_index.lookup
    (call_meets F.slot_int_rmul (typeIs_int s 1 t) F.entry_int_rmul (F.args_int_rmul_2 _ _) (int_rmul_tuple 1 t l its.toArray n dd sl)
      ⟨ho, rfl, ⟨_, ho, rfl⟩, call_meets F.slot_tuple_mul ⟨_, ho, rfl⟩ F.entry_tuple_mul (F.args_tuple_mul_2 _ _) (tuple_mul1 l its.toArray n dd sl t) ⟨ho, .ref l, H, I, rfl, q⟩⟩)
theorem op_repT0 : OpR X (binaryOp .Mult) (rRepT0 X.K) := by
  intro pins s σ H x y v u Q I rx ry h
  obtain ⟨l, k, xs, rfl, rfl, hT, hne, h1, h2, q⟩ := h
  cases rx
  obtain ⟨t, rfl⟩ := ry
  obtain ⟨its, r, ⟨⟨cls, dd, data, sl⟩, ho, hc, n, hd⟩, hs⟩ := I.tuple hT
  simp only at hc hd
  subst hc hd
  have hle : its.length = xs.length := r.length.symm
  have hn : its ≠ [] := fun e => hne (by
    rw [e] at hle
    exact List.eq_nil_of_length_eq_zero hle.symm)
  have hi : its.toArray.isEmpty = false := by
    cases its with
    | nil => exact absurd rfl hn
    | cons a b => rfl
  have c0 : (decide (k < -(2 ^ 63)) || decide (k ≥ 2 ^ 63)) = false := by
    rw [decide_eq_false (by omega), decide_eq_false (by omega)] <;> rfl
  have c1 : (its.toArray.isEmpty || k == 1) = false := by
    rw [hi, Bool.false_or]
    exact beq_eq_false_iff_ne.mpr (by omega)
  have c2 : (decide (k ≤ 0) || its.toArray.isEmpty) = true := by
    rw [hi, Bool.or_false]
    exact decide_eq_true h1
  refine wpAny_binaryOp_repeat_ref (T := "tuple") (U := "int") (by decide) ⟨_, ho, rfl⟩ (fun s' => typeIs_int s' k t) noFill_tuple_mul F.fills_int_mul F.slot_int_rmul repeat_tuple F.slot_int_index.lookup
    (call_meets F.slot_int_rmul (typeIs_int s k t) F.entry_int_rmul (F.args_int_rmul_2 _ _) (int_rmul_tuple k t l its.toArray n dd sl)
      ⟨ho, rfl, ⟨_, ho, rfl⟩, call_meets F.slot_tuple_mul ⟨_, ho, rfl⟩ F.entry_tuple_mul (F.args_tuple_mul_2 _ _) (tuple_mul0 l its.toArray n dd sl k t c0 c1 c2) ⟨ho, ?_⟩⟩)
  refine ⟨.ref s.heap.objs.size, _, I.laid (t' := s.toks) (o := .tup []) (fun b ob q => Heap.get?_push_of_some _ q) (Nat.le_refl _) ?_, rfl, q _ (I.hok.fresh (Nat.le_refl _))⟩
  exact ⟨Nat.zero_le _, [], .nil, IsTup.new _ _⟩
def rRepS (K : Kf) : R2 := fun x y H Q => rRepT K x y H Q ∨ (fun x y H Q => rRepT1 K x y H Q ∨ rRepT0 K x y H Q) x y H Q
theorem op_repS : OpR X (binaryOp .Mult) (rRepS X.K) := OpR.or op_repT (OpR.or op_repT1 op_repT0)
end
/-- how often a tuple may be said -/
def repTOk (ds : List PyData) (k : Int) : Bool := (!ds.isEmpty && decide (ds.length ≤ 1000)) && (decide (-1000 ≤ k) && decide (k ≤ 1000))
def oRepT : Op2 := fun st x y => match x, y with
  | .d (.tuple ds), .d (.int k) => if repTOk ds k then some (.d (.tuple (List.replicate k.toNat ds).flatten), st) else none
  | _, _ => none
theorem pr_repT {K : Kf} : Pr2 K (rRepS K) oRepT := ⟨fun {P ρ F H st st' v w x y z Q} I rx ry h q => by
  unfold oRepT at h
  split at h
  · rename_i ds k
    split at h
    · rename_i hk
      cases h
      simp only [repTOk, Bool.and_eq_true, decide_eq_true_eq, Bool.not_eq_true', List.isEmpty_eq_false_iff] at hk
      obtain ⟨⟨hne, hl⟩, hk1, hk2⟩ := hk
      have ry' := vr_int ry
      cases (show Dq K F v (.tuple ds) from rx) with
      | tup hq hd =>
        rename_i a vs
        have hv : VRs K ρ F vs (ds.map .d) := vrs_of hd
        have hlen : vs.length = ds.length := by rw [paired_len hv, List.length_map]
        have hS : SqT K H a vs := SqT.of (I.ex _ _ hq)
        have hne' : vs ≠ [] := fun e => hne (List.eq_nil_of_length_eq_zero (by rw [← hlen, e]; rfl))
        have hm : ∀ n : Nat, mkT (List.replicate n (ds.map VL.d)).flatten st = some (.d (.tuple (List.replicate n ds).flatten), st) := fun n => by
          unfold mkT
          rw [show (List.replicate n (ds.map VL.d)).flatten = (List.replicate n ds).flatten.map VL.d by rw [List.map_flatten, List.map_replicate], allD_map]
          rfl
        by_cases h1 : k = 1
        · subst h1
          refine .inr (.inl ⟨a, vs, rfl, ry', hS, q _ ρ F H (Tr.refl ..) I ?_⟩)
          have e : (List.replicate (1 : Int).toNat ds).flatten = ds := by simp
          rw [e]
          exact .tup hq hd
        · by_cases h0 : k ≤ 0
          · refine .inr (.inr ⟨a, k, vs, rfl, ry', hS, hne', h0, hk1, fun p hp => ?_⟩)
            have e : k.toNat = 0 := by omega
            obtain ⟨ρ', F', t, I', r'⟩ := mkT_ok I hp (show VRs K ρ F [] [] from .nil) (hm 0)
            exact q _ ρ' F' _ t I' (by rw [e]; exact r')
          · refine .inl ⟨a, k, vs, rfl, ry', hS, hne', by omega, hk2, by omega, fun p hp => ?_⟩
            obtain ⟨ρ', F', t, I', r'⟩ := mkT_ok I hp (vrs_rep hv _) (hm k.toNat)
            exact q _ ρ' F' _ t I' r'
    · cases h
  · cases h⟩
/-! ### tuple <= tuple, of ints -/
def lexLe (ns ms : List Int) : Bool := _root_.Ob.lexAt (fun j => decide (ns.getD j 0 = ms.getD j 0)) (fun j => decide (ns.getD j 0 ≤ ms.getD j 0)) (decide (ns.length ≤ ms.length)) 0 (min ns.length ms.length)
theorem lexLe2 (a b c d : Int) : lexLe [a, b] [c, d] = decide (a < c ∨ (a = c ∧ b ≤ d)) := by
  unfold lexLe
  simp only [List.length_cons, List.length_nil, Nat.min_self, _root_.Ob.lexAt, List.getD_cons_zero, List.getD_cons_succ, decide_eq_true_eq]
  by_cases h : a = c
  · rw [if_pos h]
    by_cases h2 : b = d
    · rw [if_pos h2]
      simp
      omega
    · rw [if_neg h2]
      simp [h]
  · rw [if_neg h]
    simp [h]
    omega
def oLeT : Op2 := fun st x y => match x, y with
  | .d (.tuple as), .d (.tuple bs) => (intsOf (as.map .d)).bind fun ns => (intsOf (bs.map .d)).map fun ms => (.d (.bool (lexLe ns ms)), st)
  | _, _ => none
theorem pr_leT {K : Kf} : Pr2 K (rLeT K) oLeT := ⟨fun {P ρ F H st st' v w x y z Q} I rx ry h q => by
  unfold oLeT at h
  split at h
  · rename_i as bs
    obtain ⟨ns, h1, h2⟩ := Option.bind_eq_some_iff.mp h
    obtain ⟨ms, h3, h4⟩ := Option.map_eq_some_iff.mp h2
    cases h4
    cases (show Dq K F v (.tuple as) from rx) with
    | tup hq hd =>
      cases (show Dq K F w (.tuple bs) from ry) with
      | tup hq' hd' =>
        have e1 := intsOf_ok (ρ := ρ) (vrs_of hd) h1
        have e2 := intsOf_ok (ρ := ρ) (vrs_of hd') h3
        subst e1
        subst e2
        exact ⟨_, _, ns, ms, rfl, rfl, SqT.of (I.ex _ _ hq), SqT.of (I.ex _ _ hq'), q _ ρ F H (Tr.refl ..) I (.bl _)⟩
  · cases h⟩
/-! ### x in a tuple of the module -/
def eInG (neg : Bool) (ns : List Int) (a : SE) : SE := fun env st => obind (a env st) fun x st1 => match asF x with
  | some d => some (.ok (.d (.bool (if neg then !(ns.any fun n => PyData.eqv (.int n) d) else ns.any fun n => PyData.eqv (.int n) d))) st1)
  | none => none
theorem flats_ints : ∀ ns : List Int, flats (ns.map fun n => VL.d (.int n)) = some (ns.map PyData.int)
  | [] => rfl
  | n :: r => by
    show (if flatD (.int n) then (flats (r.map fun n => VL.d (.int n))).map (PyData.int n :: ·) else none) = _
    rw [flats_ints r]
    rfl
section
variable {X : Cx} {P : Par} {E : XK} {e : Expr} {ce : SE} {pos p : Pos} {g : Str} {a : Addr} {ns : List Int}
theorem inG_rd {neg : Bool} (hT : ∀ H, SqT X.K H a (ns.map V.int)) {σ : L2.St} {H : Hp} {Q : VK} (h : rdE X.K P E (eInG neg ns ce) σ H Q) :
    rdE X.K P E ce σ H fun x H1 => rIn X.K neg x (.ref a) H1 Q := by
  obtain ⟨ρ, F, st, env, o, I, R, h, p⟩ := h
  refine rdE_bind I R h p fun v ρ1 F1 H1 x st1 t1 I1 R1 r1 h1 p1 => ?_
  split at h1
  · rename_i d hd
    cases h1
    cases x with
    | o n => cases hd
    | d x =>
      have hd' : (if flatD x then some x else none) = some d := hd
      split at hd'
      · rename_i fx
        cases hd'
        obtain ⟨a1, a2⟩ := flats_ok (show Dq X.K F1 v _ from r1) fx (vrs_ints (ρ := ρ1) (F := F1) ns) (flats_ints ns)
        refine ⟨a, _, rfl, .inr (hT H1), flat_ok (show Dq X.K F1 v _ from r1) fx, a1, ?_⟩
        rw [a2, List.any_map]
        exact p1 _ ρ1 F1 H1 (Tr.refl ..) I1 (.bl _)
      · cases hd'
  · cases h1
theorem e_inG (hg : Gl X g) (hm : X.mg g = some (.ref a)) (hT : ∀ H, SqT X.K H a (ns.map V.int)) (ha : PE X e (rdE X.K P E ce)) (hb : behindInMarks .In (.Name g p) = false := by rfl) (hd : (g == ("__debug__" : Str)) = false := by decide) :
    PE X (.Compare e [.In] [.Name g p] pos) (rdE X.K P E (eInG false ns ce)) :=
  pe_weak (pe_cmpR op_in_seq ha (pe_glob (v := .ref a) hg hm rfl hd) hb) fun _ _ _ h => inG_rd hT h
theorem e_ninG (hg : Gl X g) (hm : X.mg g = some (.ref a)) (hT : ∀ H, SqT X.K H a (ns.map V.int)) (ha : PE X e (rdE X.K P E ce)) (hb : behindInMarks .NotIn (.Name g p) = false := by rfl) (hd : (g == ("__debug__" : Str)) = false := by decide) :
    PE X (.Compare e [.NotIn] [.Name g p] pos) (rdE X.K P E (eInG true ns ce)) :=
  pe_weak (pe_cmpR op_notIn_seq ha (pe_glob (v := .ref a) hg hm rfl hd) hb) fun _ _ _ h => inG_rd hT h
end
end Sl
set_option Elab.async false
set_option linter.all false
set_option autoImplicit false
set_option maxRecDepth 100000
set_option maxHeartbeats 4000000
/-! [e for x in xs if t for y in ys(x) if t1] -/
namespace Sl
open PySem PySem.Spec PyProof.Rows L2
def compL2 (g : Tg) (t : SE) (it1 : SI) (g1 : Tg) (t1 e : SE) (vs1 : List Nat) (env : Env) : List VL → List VL → Sto → Option (List VL × Sto)
  | [], acc, st => some (acc, st)
  | x :: xs, acc, st => match g x env with
    | none => none
    | some env1 => match t env1 st with
      | some (.ok (.d (.bool true)) st1) => match it1 env1 st1 with
        | some (.ok ys st2) => match compL g1 t1 e (wipeE env1 vs1) ys acc st2 with
          | some (acc2, st3) => compL2 g t it1 g1 t1 e vs1 env xs acc2 st3
          | none => none
        | _ => none
      | some (.ok (.d (.bool false)) st1) => compL2 g t it1 g1 t1 e vs1 env xs acc st1
      | _ => none
def eComp2 (mk : Mk) (it : SI) (g : Tg) (t : SE) (it1 : SI) (g1 : Tg) (t1 e : SE) (vs vs1 : List Nat) : SE := fun env st => match it env st with
  | none => none
  | some (.ex c fs st1) => some (.ex c fs st1)
  | some (.ok xs st1) => (compL2 g t it1 g1 t1 e vs1 (wipeE env vs) xs [] st1).bind fun z => (mk z.1 z.2).map fun z => .ok z.1 z.2
section
variable {X : Cx} {P : Par} {E E' : XK}
theorem comp2_rd {K : Kf} {mk : Mk} (hm : MkOk K mk) {it it1 : SI} {T T1 : List Nat} {g g1 : Tg} {t t1 e : SE} {vs vs1 : List Nat} (hT : ∀ i, i ∈ T → i ∈ vs) (hT1 : ∀ i, i ∈ T1 → i ∈ vs1) {σ : L2.St} {H : Hp} {Q : VK} (h : rdE K P E (eComp2 mk it g t it1 g1 t1 e vs vs1) σ H Q) :
    tLc2 (rdI K P E it) (rdG K T g) (rdT K P E' t) (rdI K P E' it1) (rdG K T1 g1) (rdT K P E' t1) (rdE K P E' e) vs vs1 σ H Q := by
  obtain ⟨ρ, F, st, env, o, I, R, h, p⟩ := h
  unfold eComp2 at h
  cases hc : it env st with
  | none => rw [hc] at h; cases h
  | some o1 =>
    rw [hc] at h
    refine ⟨ρ, F, st, env, o1, I, R, hc, ?_⟩
    cases o1 with
    | ex c fs st1 =>
      cases h
      exact p
    | ok xs st1 =>
      intro J ρ1 F1 H1 t0 I1 hJ D hD
      obtain ⟨z, hz, h2⟩ := Option.bind_eq_some_iff.mp (show (compL2 g t it1 g1 t1 e vs1 (wipeE env vs) xs [] st1).bind _ = some o from h)
      obtain ⟨w, hw, hk⟩ := Option.map_eq_some_iff.mp h2
      subst hk
      have R1 := R.mono t0
      have p1 := p.mono t0
      have hF1 : F1 D = none := by
        cases q : F1 D with
        | none => rfl
        | some u =>
          rw [I1.ex D u q] at hD
          cases hD
      have hr1 : D ∉ ρ1 := fun hm => I1.dom D hm hD
      obtain ⟨T0, I0⟩ := junk I1 hD (.lst [])
      have step : ∀ {ρ' F' H' ρ'' F'' H''} {o : HO}, Tr ρ' F' H' ρ'' F'' H'' → H' D = some o → D ∉ ρ' → F' D = none → H'' D = some o ∧ D ∉ ρ'' ∧ F'' D = none := by
        intro ρ' F' H' ρ'' F'' H'' o T' hD' hr' hF'
        refine ⟨T'.keep D o hD' hr', fun h => ?_, ?_⟩
        · rcases T'.fresh D h with h | h
          · exact hr' h
          · rw [hD'] at h
            cases h
        · cases q : F'' D with
          | none => rfl
          | some u =>
            rcases T'.newF D (by rw [q]; exact fun z => nomatch z) with h | h | h
            · exact absurd hF' h
            · rw [hD'] at h
              cases h
            · exact absurd h hr'
      refine ⟨fun i m H' => i ≤ xs.length ∧ m = xs.length - i ∧ ∃ ρ' F' st' accV acc, Tr ρ1 F1 H1 ρ' F' H' ∧ Im K P ρ' F' H' st' ∧ H' D = some (.lst accV) ∧ D ∉ ρ' ∧ F' D = none ∧ VRs K ρ' F' accV acc ∧ compL2 g t it1 g1 t1 e vs1 (wipeE env vs) (xs.drop i) acc st' = some z,
        ⟨xs.length, Nat.zero_le _, rfl, ρ1, F1, st1, [], [], T0, I0, upd_same, hr1, hF1, .nil, hz⟩, ?_⟩
      rintro i m H' ⟨hi, rfl, ρ', F', st', accV, acc, T', I', k1, k2, k3, k4, k5⟩
      by_cases hlt : i < xs.length
      · obtain ⟨a1, a2⟩ := hJ.1 i xs[i] (List.getElem?_eq_getElem hlt) H' (T'.exF.trans I'.ex)
        rw [List.drop_eq_getElem_cons hlt] at k5
        refine .inr ⟨a1, fun H2 => ∃ ρ' F' st' accV acc, Tr ρ1 F1 H1 ρ' F' H2 ∧ Im K P ρ' F' H2 st' ∧ H2 D = some (.lst accV) ∧ D ∉ ρ' ∧ F' D = none ∧ VRs K ρ' F' accV acc ∧ compL2 g t it1 g1 t1 e vs1 (wipeE env vs) (xs.drop (i + 1)) acc st' = some z,
          fun H2 q => ⟨xs.length - (i + 1), by omega, hlt, rfl, q⟩, fun v H2 hy => ?_⟩
        obtain ⟨rfl, rv⟩ := a2 v H2 hy
        have rv' : VR K ρ' F' v xs[i] := rv.mono T'
        unfold compL2 at k5
        split at k5
        · cases k5
        · rename_i env1 hg1
          refine ⟨ρ', F', wipeE env vs, xs[i], env1, I'.ex, wipe_env (R1.mono T') vs, rv', hg1, fun σ2 R2 O2 => ⟨wipe_off hT O2, ?_⟩⟩
          split at k5
          · rename_i st2 ht
            refine ⟨ρ', F', st', env1, _, I', R2, ht, true, rfl, fun ρ3 F3 H3 t3 I3 => ?_⟩
            split at k5
            · rename_i ys st3 hy1
              refine ⟨ρ3, F3, st2, env1, _, I3, R2.mono t3, hy1, fun J1 ρ4 F4 H4 t4 I4 hJ1 => ?_⟩
              split at k5
              · rename_i acc2 st4 hz2
                have R4 := R2.mono (t3.trans t4)
                obtain ⟨b1, b2, b3⟩ := step (t3.trans t4) k1 k2 k3
                refine ⟨fun j k H5 => j ≤ ys.length ∧ k = ys.length - j ∧ ∃ ρ5 F5 st5 accV acc, Tr ρ1 F1 H1 ρ5 F5 H5 ∧ Im K P ρ5 F5 H5 st5 ∧ H5 D = some (.lst accV) ∧ D ∉ ρ5 ∧ F5 D = none ∧ VRs K ρ5 F5 accV acc ∧ (∀ v x, VR K ρ4 F4 v x → VR K ρ5 F5 v x) ∧ Evl.Ex F4 F5 ∧ EnvR K ρ5 F5 σ2 env1 ∧
                  compL g1 t1 e (wipeE env1 vs1) (ys.drop j) acc st5 = some (acc2, st4), ⟨ys.length, Nat.zero_le _, rfl, ρ4, F4, st3, accV, acc, (T'.trans t3).trans t4, I4, b1, b2, b3, k4.mono (t3.trans t4), fun _ _ h => h, Evl.Ex.refl F4, R4, hz2⟩, ?_⟩
                rintro j k H5 ⟨hj, rfl, ρ5, F5, st5, accV5, acc5, T5, I5, c1, c2, c3, c4, cu, ce, cR, c5⟩
                by_cases hlj : j < ys.length
                · obtain ⟨d1, d2⟩ := hJ1.1 j ys[j] (List.getElem?_eq_getElem hlj) H5 (ce.trans I5.ex)
                  rw [List.drop_eq_getElem_cons hlj] at c5
                  refine .inr ⟨d1, fun H6 => ∃ ρ5 F5 st5 accV acc, Tr ρ1 F1 H1 ρ5 F5 H6 ∧ Im K P ρ5 F5 H6 st5 ∧ H6 D = some (.lst accV) ∧ D ∉ ρ5 ∧ F5 D = none ∧ VRs K ρ5 F5 accV acc ∧ (∀ v x, VR K ρ4 F4 v x → VR K ρ5 F5 v x) ∧ Evl.Ex F4 F5 ∧ EnvR K ρ5 F5 σ2 env1 ∧
                    compL g1 t1 e (wipeE env1 vs1) (ys.drop (j + 1)) acc st5 = some (acc2, st4), fun H6 q => ⟨ys.length - (j + 1), by omega, hlj, rfl, q⟩, fun v H6 hy => ?_⟩
                  obtain ⟨rfl, rv⟩ := d2 v H6 hy
                  unfold compL at c5
                  split at c5
                  · cases c5
                  · rename_i env2 hg2
                    refine ⟨ρ5, F5, wipeE env1 vs1, ys[j], env2, I5.ex, wipe_env cR vs1, cu _ _ rv, hg2, fun σ3 R3 O3 => ⟨wipe_off hT1 O3, ?_⟩⟩
                    split at c5
                    · rename_i st6 ht6
                      refine ⟨ρ5, F5, st5, env2, _, I5, R3, ht6, true, rfl, fun ρ7 F7 H7 t7 I7 => ?_⟩
                      split at c5
                      · rename_i y st7 he7
                        refine ⟨ρ7, F7, st6, env2, _, I7, R3.mono t7, he7, fun u ρ8 F8 H8 t8 I8 ru => ?_⟩
                        split at c5
                        · rename_i hz8
                          obtain ⟨f1, f2, f3⟩ := step (t7.trans t8) c1 c2 c3
                          have rA : VRs K ρ8 F8 accV5 acc5 := c4.mono (t7.trans t8)
                          refine ⟨accV5, f1, by rw [paired_len rA]; exact hz8, ?_⟩
                          obtain ⟨T9, I9⟩ := Im.poke ((T5.trans t7).trans t8) I8 hD f2 f3 (.lst (accV5 ++ [u]))
                          exact ⟨ρ8, F8, st7, accV5 ++ [u], acc5 ++ [y], T9, I9, upd_same, f2, f3, paired_append rA (.cons ru .nil), fun v x h => (cu v x h).mono (t7.trans t8), ce.trans (t7.trans t8).exF, cR.mono (t7.trans t8), c5⟩
                        · cases c5
                      · cases c5
                    · rename_i st6 ht6
                      refine ⟨ρ5, F5, st5, env2, _, I5, R3, ht6, false, rfl, fun ρ7 F7 H7 t7 I7 => ?_⟩
                      obtain ⟨f1, f2, f3⟩ := step t7 c1 c2 c3
                      exact ⟨ρ7, F7, st6, accV5, acc5, T5.trans t7, I7, f1, f2, f3, c4.mono t7, fun v x h => (cu v x h).mono t7, ce.trans t7.exF, cR.mono t7, c5⟩
                    · cases c5
                · have ej : j = ys.length := by omega
                  subst ej
                  rw [List.drop_of_length_le (Nat.le_refl _)] at c5
                  cases c5
                  exact .inl ⟨hJ1.2 H5 (ce.trans I5.ex), ρ5, F5, _, accV5, _, T5, I5, c1, c2, c3, c4, k5⟩
              · cases k5
            · cases k5
          · rename_i st2 ht
            refine ⟨ρ', F', st', env1, _, I', R2, ht, false, rfl, fun ρ3 F3 H3 t3 I3 => ?_⟩
            obtain ⟨a1, a2, a3⟩ := step t3 k1 k2 k3
            exact ⟨ρ3, F3, st2, accV, acc, T'.trans t3, I3, a1, a2, a3, k4.mono t3, k5⟩
          · cases k5
      · have ei : i = xs.length := by omega
        subst ei
        refine .inl ⟨hJ.2 H' (T'.exF.trans I'.ex), ?_⟩
        rw [List.drop_of_length_le (Nat.le_refl _)] at k5
        cases k5
        obtain ⟨ρ9, F9, T9, I9, r9⟩ := hm.fin T' I' hD k1 k2 k3 k4 hw
        exact p1 _ ρ9 F9 H' T9 I9 r9
variable {elt tg iter tg1 iter1 : Expr} {ifs ifs1 : List Expr} {scope : Scope} {own : List (Str × Nat)} {pos : Pos} {T T1 : List Nat} {it it1 : SI} {g g1 : Tg} {ct ct1 ce : SE} {mk : Mk} {vs1 : List Nat}
theorem e_comp2 (hm : MkOk X.K mk) (hc : X.calm = true) (hN : X.N.Nodup) (hi : PI X tg iter (rdI X.K P E it)) (ok : BlkOk X.N X.env.scope scope own)
    (hg : ∀ (s : Shared) (H : Hp) (C : Addr) (cl : List (Str × Addr)) (fp : List Addr), PG (X.blk s H scope (compEnvC scope cl C X.env) fp) tg (rdG X.K T g)) (ht : ∀ (s : Shared) (H : Hp) (C : Addr) (cl : List (Str × Addr)) (fp : List Addr), PTs (X.blk s H scope (compEnvC scope cl C X.env) fp) ifs (rdT X.K P E' ct))
    (hi1 : ∀ (s : Shared) (H : Hp) (C : Addr) (cl : List (Str × Addr)) (fp : List Addr), PI (X.blk s H scope (compEnvC scope cl C X.env) fp) tg1 iter1 (rdI X.K P E' it1))
    (hg1 : ∀ (s : Shared) (H : Hp) (C : Addr) (cl : List (Str × Addr)) (fp : List Addr), PG (X.blk s H scope (compEnvC scope cl C X.env) fp) tg1 (rdG X.K T1 g1)) (ht1 : ∀ (s : Shared) (H : Hp) (C : Addr) (cl : List (Str × Addr)) (fp : List Addr), PTs (X.blk s H scope (compEnvC scope cl C X.env) fp) ifs1 (rdT X.K P E' ct1))
    (he : ∀ (s : Shared) (H : Hp) (C : Addr) (cl : List (Str × Addr)) (fp : List Addr), PE (X.blk s H scope (compEnvC scope cl C X.env) fp) elt (rdE X.K P E' ce)) (hv : ∀ i ∈ vs1, i ∈ own.map (·.2)) (hT : ∀ i, i ∈ T → i ∈ own.map (·.2) := by decide) (hT1 : ∀ i, i ∈ T1 → i ∈ vs1 := by decide)
    (hs : ∀ x, foldedSetIterable iter X.env x = pure x := by intro _; rfl) (hs1 : ∀ env x, foldedSetIterable iter1 env x = pure x := by intro _ _; rfl) :
    PE X (.ListComp elt [⟨tg, iter, ifs, 0⟩, ⟨tg1, iter1, ifs1, 0⟩] scope pos) (rdE X.K P E (eComp2 mk it g ct it1 g1 ct1 ce (own.map (·.2)) vs1)) :=
  pe_weak (pe_lc2 hc hN hi ok hv hg ht hi1 hg1 ht1 he hs hs1) fun σ H Q h => comp2_rd hm hT hT1 h
end
end Sl
set_option Elab.async false
set_option linter.all false
set_option autoImplicit false
set_option maxRecDepth 100000
set_option maxHeartbeats 4000000
/-! repr of data: it wants that no repr is under way (guards), so the defs down to the one that says repr keep a promise under that premise -/
namespace Sl
open PySem PySem.Spec PyProof.Rows L2
/-- as FnOk, where no repr is under way -/
structure FnG (P : Program) (w : World) (K : Kf) (mg : Str → Option Value) (base : Heap) (CX : CXT) (k : Nat) (f : Addr) (fd : FuncData) (ps : List Str) (sp : Sp) : Prop where
  len : ∀ vs H Q E, sp vs H Q E → vs.length = ps.length
  go : ∀ (A : Around) (outer : List PySem.Env) (s : Shared) (H : Hp) (args : Args) (us : List Value) (vs : List V) (Q : VK) (E : XK), A.guards = some [] → Room k A → Env0 P w K mg base A outer s H → BindsTo s fd args (ps.zip us) → Vals vs us → sp vs H Q E →
    codeAny (model P w) A (.call (.ref f) args) (CR CX outer P w H s Q E) s
/-! ### repr -/
def rReprD (K : Kf) : List V → Hp → VK → Prop := fun xs H Q => ∃ a d, xs = [V.ref a] ∧ Dp K H (.ref a) d ∧ d.showable = true ∧ d.hasDict = false ∧ d.shown.length ≤ sizeLine ∧ d.depth ≤ 60 ∧ Q (.str d.shown) H
theorem call_reprD {X : Cx} (hg : X.A.guards = some []) (hu : X.A.units + 64 < cLine) : CallR X (.builtin "repr") (rReprD X.K) := by
  intro pins s σ H xs us Q I r h
  obtain ⟨a, d, rfl, hd, h1, h2, h3, h4, q⟩ := h
  obtain ⟨u, rfl, ru⟩ := vals1 r
  obtain rfl : u = Value.ref a := ru
  obtain ⟨as, hr⟩ := Dp.reads I d (.ref a) (.ref a) hd rfl
  exact repr_of_reads' hr h1 (PyData.noDict_hsm h2) hg (by omega) (fun _ _ e => e) (fun h' u tk hk => ⟨.str d.shown, H, I.kept hk, ⟨u, rfl⟩, q⟩) h3
def repOkD (d : PyData) : Bool := (d.showable && !d.hasDict) && (decide (d.shown.length ≤ sizeLine) && decide (d.depth ≤ 60))
def cRepr : OpC := fun st xs => match xs with
  | [x] => match asD st x with
    | some (.list ds) => if repOkD (.list ds) then some (.d (.str (PyData.shown (.list ds))), st) else none
    | some (.tuple ds) => if repOkD (.tuple ds) then some (.d (.str (PyData.shown (.tuple ds))), st) else none
    | _ => none
  | _ => none
theorem pr_repr {K : Kf} : PrC K (rReprD K) cRepr := ⟨fun {P ρ F H st st' vs xs z Q} I r h q => by
  have key : ∀ (d : PyData) (x : VL), asD st x = some d → (∃ ds, d = .list ds ∨ d = .tuple ds) → (if repOkD d then some (VL.d (.str d.shown), st) else none) = some (z, st') → VRs K ρ F vs [x] → rReprD K vs H Q := by
    intro d x hx hk h r
    split at h
    · rename_i hok
      cases h
      obtain ⟨v, rfl, rv⟩ := vrs1 r
      have hd := asD_ok I rv hx
      simp only [repOkD, Bool.and_eq_true, Bool.not_eq_true', decide_eq_true_eq] at hok
      obtain ⟨⟨h1, h2⟩, h3, h4⟩ := hok
      have hv : ∃ a, v = .ref a := by
        obtain ⟨ds, e | e⟩ := hk
        · subst e
          cases hd
          exact ⟨_, rfl⟩
        · subst e
          cases hd
          exact ⟨_, rfl⟩
      obtain ⟨a, rfl⟩ := hv
      exact ⟨a, d, rfl, hd, h1, h2, h3, h4, q _ ρ F H (Tr.refl ..) I (.str _)⟩
    · cases h
  unfold cRepr at h
  split at h
  · rename_i x
    split at h
    · rename_i ds hx
      exact key _ _ hx ⟨ds, .inl rfl⟩ h r
    · rename_i ds hx
      exact key _ _ hx ⟨ds, .inr rfl⟩ h r
    · cases h
  · cases h⟩
/-! ### defs that keep their promise where no repr is under way -/
section
variable {P : Program} {w : World} {K : Kf} {mg : Str → Option Value} {base : Heap} {CX : CXT}
theorem fnG_of {k : Nat} {f : Addr} {name qual : Str} {params : Arguments} {body : List Stmt} {scope : Scope} {dV kV doc pm cdv ct oc : Value} {an od : Option Addr} {osl : Array (Option Value)} {N ps : List Str} {sp : Sp}
    (lk : K.lookup f = some ⟨oc, od, .func (PySem.W.fnOf name qual params body scope dV kV doc pm an cdv ct), osl⟩) (hcd : PySem.W.codeIn K cdv qual = true) (S : FnScope N ps scope) (hlen : ∀ vs H Q E, sp vs H Q E → vs.length = ps.length)
    (hb : ∀ (A : Around) (outer : List PySem.Env) (s : Shared) (H : Hp) (vs : List V) (Q : VK) (E : XK), A.guards = some [] → Room k (A.deeper (envOfC qual scope s.heap.objs.size f cdv)) → sp vs H Q E →
      ∃ t, PSs (cxOf CX P w K mg base N qual scope f cdv A outer s H E) body t ∧ t { nx := fun _ H' => Q .non H', rt := Q } (start N vs) H) :
    FnG P w K mg base CX (k + 1) f (PySem.W.fnOf name qual params body scope dV kV doc pm an cdv ct) ps sp := by
  constructor
  · exact hlen
  intro A outer s H args us vs Q E hgd room e0 bnd rel hsp
  have inK : K.In s.heap := e0.mod.kin.keeps fun b o hb => (e0.bs b o hb).1
  have noLim : s.heap.NoLimit := e0.mod.nolimit.keeps fun b o hb => (e0.bs b o hb).1
  refine codeAny_call_function room.depth (inK _ _ lk) rfl S.co S.gen rfl (PySem.W.codeRec_of inK hcd) (bnd _ _ _ _ ?_)
  refine wpAny_newFunctionEnv_cells S.kind (fun y hy => ?_) fun env he s1 made => ?_
  · obtain ⟨nm, val⟩ := y
    have hin := (List.of_mem_zip hy).1
    exact (S.par nm hin).elim Or.inl fun q => .inr ⟨q, PySem.W.cellsFrom_some _ _ _ (.inl q)⟩
  · subst he
    refine ⟨noLim.keeps made.toInCall.keep, codeAny_func ?_⟩
    obtain ⟨t, runs, start_⟩ := hb A outer s H vs Q E hgd (room.deeper _) hsp
    have I0 : Inv (cxOf CX P w K mg base N qual scope f cdv A outer s H E) [] (start N vs) H s1 := inv_start S room.hd e0 (hlen _ _ _ _ hsp) rel made
    refine wpAny_mono (runs.run [] s1 (start N vs) H _ I0 start_) (fun fl s' done => ?_) fun _ _ z => z
    cases fl with
    | ret u =>
      obtain ⟨v, _, H', J, rv, q⟩ := done
      exact ⟨v, H', J.os, J.bare, J.base, J.hok, rv, q⟩
    | next =>
      obtain ⟨_, H', J, q⟩ := done
      exact ⟨.non, H', J.os, J.bare, J.base, J.hok, rfl, q⟩
    | brk =>
      obtain ⟨_, _, _, q⟩ := done
      exact q.elim
    | cont =>
      obtain ⟨_, _, _, q⟩ := done
      exact q.elim
theorem okG_of {N ps : List Str} {k : Nat} {sp : Sp} {x qual : Str} {params : Arguments} {body : List Stmt} {scope : Scope} {dvs : List V} {kws : List (Str × V)} {f : Addr} {fd : FuncData} (D : FunD K x qual params body scope dvs kws f fd) (S : FnScope N ps scope)
    (hlen : ∀ vs H Q E, sp vs H Q E → vs.length = ps.length)
    (hb : ∀ (cdv : Value) (A : Around) (outer : List PySem.Env) (s : Shared) (H : Hp) (vs : List V) (Q : VK) (E : XK), A.guards = some [] → Room k (A.deeper (envOfC qual scope s.heap.objs.size f cdv)) → sp vs H Q E →
      ∃ t, PSs (cxOf CX P w K mg base N qual scope f cdv A outer s H E) body t ∧ t { nx := fun _ H' => Q .non H', rt := Q } (start N vs) H) : FnG P w K mg base CX (k + 1) f fd ps sp := by
  obtain ⟨_, _, _, _, _, _, _, cdv, _, _, rfl, lk, hcd, _⟩ := D.ex
  exact fnG_of lk hcd S hlen (hb cdv)
end
section
variable {X : Cx} {P : Par} {E : XK} {x : Str} {p pos : Pos} {e : Expr} {es : List Expr} {cs : SL} {CX : CXT} {k n : Nat} {f : Addr} {fd : FuncData} {ps : List Str} {m : Fn}
theorem e_callG (hgd : X.A.guards = some []) (F : FnG X.prog X.w X.K X.mg X.base CX k f fd ps (spF X.K P n m)) (hr : Room k X.A) (hg : Gl X x) (hm : X.mg x = some (.ref f)) (hk : PySem.W.keepIn X.K (.ref f) = true) (hb : Binds X.K fd ps []) (hx : Passes CX X E)
    (ha : PA X (e :: es) (rdL X.K P E cs)) (hdb : (x == ("__debug__" : Str)) = false := by decide) (he : starEach (e :: es) X.env = (false, eval e X.env) :: starEach es X.env := by rfl) (hpl : (backTo pos (starEach es X.env)).any (·.1) = false := by rfl) :
    PE X (.Call (.Name x p) (e :: es) [] pos) (rdE X.K P E (eCall (nFn n m) cs)) := by
  constructor
  intro pins s σ H Q I q0
  have q1 : (tCall (spF X.K P n m) [] E (rdL X.K P E cs)) σ H Q := by
    obtain ⟨ρ, F', st, env, o, I', R, h, p'⟩ := q0
    refine rdL_bind I' R h p' fun vs ρ1 F1 H1 xs st1 t1 I1 R1 r1 h1 p1 => ?_
    unfold nFn at h1
    split at h1
    · rw [List.append_nil]
      exact ⟨ρ1, F1, st1, xs, o, I1, r1, by assumption, h1, p1⟩
    · cases h1
  refine wpAny_Call_Name_kw (ld_glob I hg hm ?_ hdb)
  refine PySem.W.callWith_K (h₀ := X.base) I.ok.mod.kin hk (thn (ha.run pos pins s σ H _ I q1) fun us s1 got => ?_) he hpl
  obtain ⟨vs, H1, J, rel, q⟩ := got
  refine ⟨J.kIn, ?_⟩
  have rel2 : Vals (vs ++ []) (us ++ []) := rel.append .nil
  have hl : (us ++ []).length = ps.length := rel2.length.symm.trans (F.len _ _ _ _ q)
  refine wpAny_call (codeAny_mono (F.go X.A X.stack s1 H1 ⟨us, []⟩ (us ++ []) (vs ++ []) Q E hgd hr J.env0 (hb s1 us J.kIn hl) rel2 q) fun r s' hq => ?_)
  cases r with
  | error er => exact hx pins σ H1 s1 er s' J hq
  | ok fl =>
    cases fl with
    | ret u => exact J.after hq
    | next => exact hq.elim
    | brk => exact hq.elim
    | cont => exact hq.elim
end
end Sl
set_option Elab.async false
set_option linter.all false
set_option autoImplicit false
set_option maxRecDepth 100000
set_option maxHeartbeats 4000000
/-! the law's end over defs that keep their promise where no repr is under way -/
namespace Sl
open PySem PySem.Spec PyProof.Rows L2
section
variable {P : Program} {w : World} {K : Kf} {mg mb : Str → Option Value} {CX : CXT} {k : Nat} {fa a : Addr} {fd : FuncData} {x : Str} {sp : Sp} {s : Shared} {vs : List Value} {ns : List Int}
/-- what is asked of the abstract heap at the start -/
structure Root (K : Kf) (P : Program) (w : World) (s : Shared) (a : Addr) (ns : List Int) (H : Hp) : Prop where
  only : Only H
  seq : SqL K H a (ns.map V.int)
  hok : HOk P w H s.heap
  at_ : ∀ b u, H b = some u → b = a
  out : ∀ u, H a = some u → K.lookup a = none
theorem root_of (inK : K.In s.heap) (ha : s.heap.get? a = some { cls := .type "list", data := .seq vs.toArray }) (hi : IntsAre vs ns) (hl : ns.length ≤ sizeLine) : ∃ H, Root K P w s a ns H := by
  have rel := vals_ints hi
  have hlen := hi.length
  cases lk : K.lookup a with
  | none =>
    let o0 : Obj := { cls := .type "list", data := .seq vs.toArray }
    let H0 : Hp := upd (fun _ => none) a (.frz o0 (.lst (ns.map V.int)))
    have hsome : ∀ b u, H0 b = some u → b = a := fun b u z => by
      by_cases hb : b = a
      · exact hb
      · have z' : (fun _ => none : Hp) b = some u := (upd_ne hb).symm.trans z
        cases z'
    refine ⟨H0, ⟨fun b => ?_, .inl (.inr ⟨o0, upd_same⟩), fun b u z => ?_, hsome, fun u _ => lk⟩⟩
    · by_cases hb : b = a
      · exact .inr ⟨o0, ns.map V.int, by rw [hb]; exact upd_same⟩
      · exact .inl (upd_ne hb)
    · obtain rfl := hsome b u z
      obtain rfl : HO.frz o0 (.lst (ns.map V.int)) = u := Option.some.inj (upd_same.symm.trans z)
      exact ⟨ha, by rw [List.length_map]; exact hl, vs, _, rel, ha⟩
  | some o =>
    have e := inK a o lk
    rw [ha] at e
    cases e
    refine ⟨fun _ => none, ⟨fun _ => .inl rfl, .inr ⟨_, vs.toArray, _, lk, rfl, rfl, rfl, by rw [List.size_toArray, hlen]; exact hl, by simpa using rel⟩, ?_, ?_, ?_⟩⟩
    · intro b u z
      exact absurd z (by simp)
    · intro b u z
      exact absurd z (by simp)
    · intro u z
      exact absurd z (by simp)
theorem rootG (inK : K.In s.heap) (hns : s.heap.Ns mainGlobals mg) (hbn : s.heap.Ns builtinsNs mb) (hbb : ∀ x : Str, x ≠ "__name__" → mb x = bootBuiltins x) (hlim : s.heap.NoLimit) (hgen : s.gens = #[])
    (ha : s.heap.get? a = some { cls := .type "list", data := .seq vs.toArray }) (hi : IntsAre vs ns) (hl : ns.length ≤ sizeLine) (hr : Room k callerA)
    (F : ∀ base : Heap, K.In base → base.Ns mainGlobals mg → FnG P w K mg base CX k fa fd [x] sp) (hbind : ∀ (s : Shared) (u : Value), BindsTo s fd ⟨[u], []⟩ [(x, u)])
    (hsp : ∀ H : Hp, Only H → SqL K H a (ns.map V.int) → sp [.ref a] H (fun v _ => v = .bl true) fun _ _ _ => False) (hCX : ∀ H e s', CX [] H s (fun _ _ _ => False) e s' → False) :
    codeAny (model P w) callerA (.call (.ref fa) ⟨[.ref a], []⟩) (fun r s' => r = .ok (.ret (.bool true)) ∧ OldK s.heap s'.heap ∧ s'.os = s.os ∧ AllBare s'.gens) s := by
  obtain ⟨H, R⟩ := root_of (P := P) (w := w) inK ha hi hl
  have isList : ∀ {o : Obj}, s.heap.get? a = some o → o.data = .seq vs.toArray := fun {o} e => by
    rw [ha] at e
    cases e
    rfl
  have hid : ∀ {b : Addr} {o : Obj}, s.heap.get? b = some o → H b = none → (hidT s.heap H).get? b = some o := fun e n => hidT_get e n
  have free : ∀ {b : Addr}, b ≠ a → H b = none := fun {b} hb => by
    cases q : H b with
    | none => rfl
    | some u => exact absurd (R.at_ b u q) hb
  have keepNs : ∀ {b : Addr} {m : Str → Option Value}, s.heap.Ns b m → (hidT s.heap H).Ns b m := fun {b m} h => by
    obtain ⟨o, es, ep, e, d, r⟩ := h
    refine ⟨o, es, ep, hid e (free fun hb => ?_), d, r⟩
    subst hb
    have := isList e
    rw [d] at this
    cases this
  have inB : K.In (hidT s.heap H) := fun b o e => by
    refine hid (inK b o e) ?_
    cases q : H b with
    | none => rfl
    | some u =>
      have hb := R.at_ b u q
      subst hb
      rw [R.out u q] at e
      cases e
  obtain ⟨mc, l1, l2⟩ := hlim
  have md : Mod K mg (hidT s.heap H) := ⟨inB, keepNs hns, ⟨mb, keepNs hbn, hbb⟩, mc, keepNs l1, l2⟩
  have env : Env0 P w K mg (hidT s.heap H) callerA [] s H := ⟨rfl, md, fun _ _ e => of_hidT e, Nat.le_of_eq (hidT_size _ _), trivial, (fun b hb => nomatch (show b ∈ ([] : List Addr) from hb)), R.hok, .of_eq hgen⟩
  refine codeAny_mono ((F _ inB (keepNs hns)).go callerA [] s H ⟨[.ref a], []⟩ [.ref a] [.ref a] _ _ rfl hr env (hbind s (.ref a)) (.cons rfl .nil) (hsp H R.only R.seq)) fun r s' got => ?_
  cases r with
  | error e => exact (hCX H e s' got).elim
  | ok fl =>
    cases fl with
    | ret u =>
      obtain ⟨v, H', hos, bare, un, hok', rv, q⟩ := got
      obtain rfl : v = .bl true := q
      obtain rfl : u = Value.bool true := rv
      refine ⟨rfl, OldK.of_keep fun b o e => ?_, hos, bare⟩
      rcases R.only b with z | ⟨ob, xs, z⟩
      · exact un.keep b o e z (fun z => nomatch (show b ∈ ([] : List Addr) from z)) (by simp)
      · obtain ⟨e1, _⟩ := R.hok b _ z
        obtain ⟨e2, _⟩ := hok' b _ (un.frzs b ob _ z)
        rw [e] at e1
        cases e1
        exact e2
    | next => exact got.elim
    | brk => exact got.elim
    | cont => exact got.elim
/-- as walk_ofE -/
theorem walk_ofG {l : PySem.W.OpenLaw} {n k : Nat} {q : Program} {loose : List Str} {XP : (Str → Option Value) → Heap → Prop} {YP : World → Heap → Prop} {d : DefRec} {CX : CXT} {x : Str} (hn : l.most = some n) (hn2 : n ≤ sizeLine) (hdf : d.params.defaults = []) (hr : Room k callerA)
    (F : ∀ (w : World) (mg : Str → Option Value) (fa : Addr) (h : Heap), YP w h → h.Ns mainGlobals mg → mg d.name = some (.ref fa) → ∃ (K : Kf) (fd : FuncData) (sp : Sp), K.In h ∧ (∀ (s : Shared) (u : Value), BindsTo s fd ⟨[u], []⟩ [(x, u)]) ∧
      (∀ (H : Hp) (a : Addr) (ns : List Int), ns.length ≤ n → Only H → SqL K H a (ns.map V.int) → sp [.ref a] H (fun v _ => v = .bl true) fun _ _ _ => False) ∧ ∀ base : Heap, K.In base → base.Ns mainGlobals mg → FnG l.prog w K mg base CX k fa fd [x] sp)
    (hCX : ∀ (H : Hp) (s : Shared) (e : Value) (s' : Shared), CX [] H s (fun _ _ _ => False) e s' → False) : PySem.W.WalkO q loose XP YP l.row.toRowW d [] (fun f vs => PySem.call f vs) := by
  refine Att.attach_call hn hdf ?_
  intro w s₀ s₁ mg mb fa o pm cd doc a vs ns G Y ho hd hcd hmg hobj hints hlen hgen
  obtain ⟨K, fd, sp, inK, hb, hsp, hF⟩ := F w mg fa _ Y G.T.g hmg
  exact rootG inK G.T.g G.T.b G.T.builtins G.T.nolimit hgen hobj hints (Nat.le_trans hlen hn2) hr hF hb (fun H => hsp H a ns hlen) fun H => hCX H s₁
end
end Sl
set_option Elab.async false
set_option linter.all false
set_option autoImplicit false
set_option maxRecDepth 100000
set_option maxHeartbeats 4000000
/-! x in a tuple of the module as a test; expressions that are never reached -/
namespace Sl
open PySem PySem.Spec PyProof.Rows L2
def eNever : SE := fun _ _ => none
section
variable {X : Cx} {P : Par} {E : XK} {e : Expr} {ce : SE} {pos p : Pos} {g : Str} {a : Addr} {ns : List Int}
theorem inG_rdT {neg : Bool} (hT : ∀ H, SqT X.K H a (ns.map V.int)) {σ : L2.St} {H : Hp} {Q : Bool → Hp → Prop} (h : rdT X.K P E (eInG neg ns ce) σ H Q) :
    rdE X.K P E ce σ H fun x H1 => rIn X.K neg x (.ref a) H1 fun v H2 => ∃ b, v = .bl b ∧ Q b H2 := by
  obtain ⟨ρ, F, st, env, o, I, R, h, p⟩ := h
  have h2 : rdE X.K P E (eInG neg ns ce) σ H fun v H2 => ∃ b, v = .bl b ∧ Q b H2 := by
    refine ⟨ρ, F, st, env, o, I, R, h, ?_⟩
    cases o with
    | ex c fs st1 => exact p
    | ok x st1 =>
      obtain ⟨b, rfl, q⟩ := p
      intro v ρ' F' H' t I' r
      exact ⟨b, vr_bool r, q ρ' F' H' t I'⟩
  exact inG_rd hT h2
theorem t_inG (hg : Gl X g) (hm : X.mg g = some (.ref a)) (hT : ∀ H, SqT X.K H a (ns.map V.int)) (ha : PE X e (rdE X.K P E ce)) (hb : behindInMarks .In (.Name g p) = false := by rfl) (hd : (g == ("__debug__" : Str)) = false := by decide) :
    PT X (.Compare e [.In] [.Name g p] pos) (rdT X.K P E (eInG false ns ce)) :=
  pt_weak (pt_cmpR op_in_seq ha (pe_glob (v := .ref a) hg hm rfl hd) hb) fun _ _ _ h => inG_rdT hT h
theorem t_ninG (hg : Gl X g) (hm : X.mg g = some (.ref a)) (hT : ∀ H, SqT X.K H a (ns.map V.int)) (ha : PE X e (rdE X.K P E ce)) (hb : behindInMarks .NotIn (.Name g p) = false := by rfl) (hd : (g == ("__debug__" : Str)) = false := by decide) :
    PT X (.Compare e [.NotIn] [.Name g p] pos) (rdT X.K P E (eInG true ns ce)) :=
  pt_weak (pt_cmpR op_notIn_seq ha (pe_glob (v := .ref a) hg hm rfl hd) hb) fun _ _ _ h => inG_rdT hT h
theorem e_never : PE X e (rdE X.K P E eNever) := ⟨fun _ _ _ _ _ _ ⟨_, _, _, _, _, _, _, h, _⟩ => by cases h⟩
theorem t_never : PT X e (rdT X.K P E eNever) := ⟨fun _ _ _ _ _ _ ⟨_, _, _, _, _, _, _, h, _⟩ => by cases h⟩
end
theorem ss_never {X : Cx} {P : Par} {E : XK} {ss : List Stmt} : PSs X ss (rdS X.K P E sNever) := ⟨fun _ _ _ _ _ _ ⟨_, _, _, _, _, _, _, h, _⟩ => by cases h⟩
theorem bt_min : bootBuiltins "min" = some (.builtin "min") := by decide +kernel
theorem bt_max : bootBuiltins "max" = some (.builtin "max") := by decide +kernel
theorem bt_sum : bootBuiltins "sum" = some (.builtin "sum") := by decide +kernel
theorem bt_repr : bootBuiltins "repr" = some (.builtin "repr") := by decide +kernel
end Sl
set_option Elab.async false
set_option linter.all false
set_option autoImplicit false
set_option maxRecDepth 100000
set_option maxHeartbeats 4000000
/-! a law's Hook with one more test of one's own (tables of the module) -/
namespace Sl
open PySem PySem.Spec PyProof.Rows L2
def obsX (fa : List He.Fa) (fn : List He.DefD) (tb : PySem.W.Frag → Bool) (K : PySem.W.Frag) : He.AlD := ((He.obsD fa fn K).1 && tb K, (He.obsD fa fn K).2)
def SaysX (fa : List He.Fa) (fn : List He.DefD) (tb : PySem.W.Frag → Bool) (K : PySem.W.Frag) : Prop := obsX fa fn tb K = He.valD fn
def obsXG (as : List Addr) (fa : List He.Fa) (fn : List He.DefD) (tb : PySem.W.Frag → Bool) (g : Addr → Option Obj) : He.AlD := obsX fa fn tb (He.frG g as)
/-- as: the objects that are looked at, written out -/
def hookX (as : List Addr) (fa : List He.Fa) (fn : List He.DefD) (tb : PySem.W.Frag → Bool) : PySem.W.Hook where
  α := He.AlD
  obs := fun s => obsXG as fa fn tb s.heap.get?
  val := fun _ => He.valD fn
  says := fun _ h => ∃ K : PySem.W.Frag, K.In h ∧ SaysX fa fn tb K
  of := fun _ _ e => ⟨_, He.frG_in, e⟩
  keeps := fun _ _ _ ⟨K, hK, c⟩ k => ⟨K, PySem.W.Frag.In.keeps hK k, c⟩
theorem obsXG_eq {as : List Addr} {fa : List He.Fa} {fn : List He.DefD} {tb : PySem.W.Frag → Bool} {g : Addr → Option Obj} {s : Shared} (h : ∀ a, g a = s.heap.get? a) : obsXG as fa fn tb g = (hookX as fa fn tb).obs s := by
  have e : g = s.heap.get? := funext h
  rw [e] <;> rfl
theorem SaysX.d {fa : List He.Fa} {fn : List He.DefD} {tb : PySem.W.Frag → Bool} {K : PySem.W.Frag} (c : SaysX fa fn tb K) : He.SaysD fa fn K := by
  have h1 : ((He.obsD fa fn K).1 && tb K) = true := congrArg (fun z : He.AlD => z.1) c
  have h2 : (obsX fa fn tb K).2 = (He.valD fn).2 := congrArg (fun z : He.AlD => z.2) c
  exact Prod.ext (He.ba h1).1 h2
theorem SaysX.t {fa : List He.Fa} {fn : List He.DefD} {tb : PySem.W.Frag → Bool} {K : PySem.W.Frag} (c : SaysX fa fn tb K) : tb K = true := by
  have h1 : ((He.obsD fa fn K).1 && tb K) = true := congrArg (fun z : He.AlD => z.1) c
  exact (He.ba h1).2
end Sl
set_option Elab.async false
set_option linter.all false
set_option autoImplicit false
set_option maxRecDepth 100000
set_option maxHeartbeats 4000000
/-! super().__init__('..') in the __init__ of an own exception -/
namespace Sl
open PySem PySem.Spec PyProof.Rows L2
/-- what a class C says, so that super().__init__(..) said in the class D reaches ValueError's -/
structure SupC (K : Kf) (C D : Addr) : Prop where
  sup : PySem.W.ks_superIn K C D "__init__" = some (some (.builtin "ValueError.__init__"))
  sub : PySem.W.subIn K (.ref C) (.ref D) = some true
  ve : PySem.W.subIn K (.ref C) (.type "ValueError") = some true
  op : PySem.W.nsIn K cStatics "thirdparty.any" = some none
  cl : (PySem.W.clsIn K D).isSome = true
theorem cls_at {K : Kf} {D : Addr} (h : (PySem.W.clsIn K D).isSome = true) : ∃ (o : Obj) (cd : ClassData), K.lookup D = some o ∧ o.data = .cls cd := by
  unfold PySem.W.clsIn at h
  split at h
  · rename_i c d cd sl e
    exact ⟨_, cd, e, rfl⟩
  · cases h
section
variable {X : Cx} {pins : List (Addr × Obj)} {σ : L2.St} {H : Hp} {s : Shared} {a C D : Addr} {E : Value → Shared → Prop}
theorem exo_inst (I : Inv X pins σ H s) (e : H a = some (exo a C none)) : ∃ t1 : Addr, PySem.W.InstAt s.heap a ({ cls := .ref C, dict := none, data := .fields #[.ref t1, .none, .none, .none, .bool false, .none] } : Obj) C none ∧ s.heap.get? a = some ({ cls := .ref C, dict := none, data := .fields #[.ref t1, .none, .none, .none, .bool false, .none] } : Obj) := by
  obtain ⟨t1, ho⟩ := exo_at I.hok e
  exact ⟨t1, ⟨ho, rfl, rfl, trivial⟩, ho⟩
/-- super(D, self) -/
theorem sup_obj {Q : Value → Shared → Prop} (S : SupC X.K C D) (I : Inv X pins σ H s) (e : H a = some (exo a C none))
    (h : ∀ so s', Inv X pins σ H s' → s'.heap.get? so = some { cls := .type "super", dict := none, data := .fields #[.ref D, .ref a, .ref C], slots := #[] } → Q (.ref so) s') :
    wpAny (model X.prog X.w) X.A (call (.type "super") [.ref D, .ref a]) Q E s := by
  obtain ⟨t1, J, ho⟩ := exo_inst I e
  obtain ⟨oD, cd, lD, hd⟩ := cls_at S.cl
  have sub : PySem.W.Looks (model X.prog X.w) s.heap (isSubtype (.ref C) (.ref D)) true := PySem.W.looks_subIn I.kIn S.sub
  obtain ⟨hp, g, d, t, os⟩ := s
  refine PySem.ks_wpAny_call_super (I.kIn _ _ lD) hd ho rfl (fun c hc => by cases hc) sub fun h' e1 k => ?_
  exact h _ _ (I.kept (h' := h') (t' := t) k) e1
/-- super(..).__init__ -/
theorem sup_meth {so : Addr} {pl : Sem Bool} {Q : Value × List Value → Shared → Prop} (S : SupC X.K C D) (I : Inv X pins σ H s) (e : H a = some (exo a C none))
    (hso : s.heap.get? so = some { cls := .type "super", dict := none, data := .fields #[.ref D, .ref a, .ref C], slots := #[] })
    (h : ∀ u s', Inv X pins σ H s' → s'.heap.get? u = some (PySem.W.kxs_mw "ValueError.__init__" a) → Q (.ref u, []) s') :
    wpAny (model X.prog X.w) X.A (getMethod (.ref so) "__init__" pl) Q E s := by
  obtain ⟨t1, J, ho⟩ := exo_inst I e
  have hm := S.sup
  have hI : PySem.W.Looks (model X.prog X.w) s.heap (isInstance (.ref a) (.type "ValueError")) true := J.type.andThen (PySem.W.looks_subIn I.kIn S.ve)
  obtain ⟨hp, g, d, t, os⟩ := s
  cases hc : PySem.W.clsIn X.K C with
  | none =>
    unfold PySem.W.ks_superIn at hm
    rw [hc] at hm
    cases hm
  | some cd =>
    unfold PySem.W.ks_superIn at hm
    rw [hc] at hm
    refine PySem.W.kxs_getMethod PySem.W.kxs_ValueError hso (PySem.W.looks_opaque I.kIn S.op) (l₀ := cd.mro) ?_ rfl I.kIn hm hI (PySem.W.ks_ne I.kIn J hc) (by decide) ?_
    · exact fun A Q E s k q => wpAny_bind ((PySem.W.looks_clsIn I.kIn hc) A _ E s k (wpAny_pure q))
    · refine h _ _ (I.kept (t' := t + 1) fun b o eb => Heap.get?_push_of_some _ eb) (Heap.get?_push_at rfl rfl)
/-- ValueError's __init__, bound -/
theorem sup_init {u : Addr} {us : List Value} {Q : Value → Shared → Prop} (O : OexC X.K C) (I : Inv X pins σ H s) (e : H a = some (exo a C none)) (hu : s.heap.get? u = some (PySem.W.kxs_mw "ValueError.__init__" a)) (hl : us.length ≤ sizeLine)
    (h : ∀ s', Inv X pins σ H s' → Q .none s') : wpAny (model X.prog X.w) X.A (call (.ref u) us) Q E s := by
  obtain ⟨nm, q, N, bs, bm, sn, sub, ab, col, dd, k0, k1, k2, k3, k5, hC, hbm⟩ := O.cls
  obtain ⟨t1, ho⟩ := exo_at I.hok e
  have hC' := I.kIn _ _ hC
  have fin : ∀ h', (∀ b o, b ≠ a → s.heap.get? b = some o → h'.get? b = some o) → (∃ t2 : Addr, h'.get? a = some ({ cls := .ref C, dict := none, data := .fields #[.ref t2, .none, .none, .none, .bool false, .none] } : Obj)) → Q .none { s with heap := h' } := fun h' k ⟨t2, e'⟩ => by
    have J := I.write (t' := s.toks) (x := a) (e := a) (o := exo a C none) (by rw [e]; exact True.intro) (.inl rfl) k ⟨_, e'⟩ (exo_ok e')
    have eu : upd H a (exo a C none) = H := by
      funext b
      by_cases hb : b = a
      · rw [hb, upd_same, e]
      · rw [upd_ne hb]
    rw [eu] at J
    exact h _ J
  obtain ⟨hh, g, d, tk, os⟩ := s
  refine wpAny_call (codeAny_of_tree ?_)
  show wpAny _ X.A.in1 (callAny (.ref u) ⟨us, []⟩) _ _ _
  simp only [callAny]
  refine wpAny_bind (wpAny_load hu ?_)
  simp only [PySem.W.kxs_mw, show (Value.type "method-wrapper" == Value.type "method" || Value.type "method-wrapper" == Value.type "builtin_function_or_method" || Value.type "method-wrapper" == Value.type "method-wrapper") = true by decide, if_true]
  refine PySem.W.KFB.if_so (by decide) ?_
  refine wpAny_bind (PySem.W.check_bound_init F.excBase_ValueError.toExcCallFacts hC' ho rfl ?_)
  refine wpAny_bind (wpAny_pure (wpAny_pure ?_))
  refine ⟨PySem.plainId_quiet F.excBase_ValueError.init.plain _, codeAny_builtin F.excBase_ValueError.initEntry ?_⟩
  exact PySem.W.exc_init_tree (cls := .ref C) (t0 := t1) (dv := none) (c2 := .none) (c3 := .none) (b4 := .bool false) ho hl fun h' k e' _ => fin h' k ⟨_, e'⟩
/-- what is known of the frame of an __init__ that says super(): i0, ic: where self and __class__ stand -/
structure SupE (X : Cx) (i0 ic : Nat) : Prop where
  ks : X.env.kindOf "super" = some .globalImplicit
  kc : X.env.kindOf "__class__" = some .free
  fu : ∃ (f : Addr) (o : Obj) (fd : FuncData) (ar : Arg), X.env.func = some f ∧ X.K.lookup f = some o ∧ o.data = .func fd ∧ (fd.params.posonlyargs ++ fd.params.args).head? = some ar ∧ ar.arg = "self"
  co : ∃ (cc : Addr) (oc : Obj) (vs : Array Value) (file : Str) (tf : Tok), X.env.code = .ref cc ∧ X.K.lookup cc = some oc ∧ oc.data = .fields vs ∧ vs[2]? = some (.str file tf) ∧ ((X.prog.main.file : Str) == file) = true
  top : (X.prog.main.scope.names.lookup ("super" : Str)).isSome = false
  nm : X.mg "super" = none
  n0 : X.N[i0]? = some "self"
  nc : X.N[ic]? = some "__class__"
  v0 : Vis X.env.scope "self"
  vc : Vis X.env.scope "__class__"
theorem ld_name {i : Nat} {x : Str} {v : V} {Q : Value → Shared → Prop} (I : Inv X pins σ H s) (hN : X.N[i]? = some x) (hv : Vis X.env.scope x) (e : σ[i]? = some (some v)) (h : ∀ u, RelV v u → Q u s) (hcd : (x == ("__classdict__" : Str)) = false := by decide) :
    wpAny (model X.prog X.w) X.A (loadName X.env x) Q E s := by
  obtain ⟨m, hn, hl⟩ := I.loc
  obtain ⟨u, r, l⟩ := hl i x v hN e hv
  rcases l with ⟨hk, hm⟩ | ⟨hk, c, hc, hcell⟩
  · exact wpAny_loadName_local I.ok.kind hk hn hm (h u r)
  · rcases hk with hk | hk
    · exact wpAny_loadName_cell I.ok.kind hk hc hcell (h u r)
    · exact wpAny_loadName_free I.ok.kind hk hc hcell (h u r) hcd
theorem sup_at {body : List Stmt} {i0 ic : Nat} {m : Str} {j : Nat} {p0 p1 p2 p3 p4 p5 : Pos} {Q : Flow → Shared → Prop} (Y : SupE X i0 ic) (O : OexC X.K C) (S : SupC X.K C D) (I : Inv X pins σ H s) (e : H a = some (exo a C none)) (h0 : σ[i0]? = some (some (.ref a))) (hc : σ[ic]? = some (some (.ref D)))
    (hi : interactive X.env = false) {pl : Sem Bool} (he : eval (.Call (.Attribute (.Call (.Name "super" p0) [] [] p1) "__init__" p2) [.Constant (.str m) j p3] [] p4) X.env = (do
      let ov ← attributeBase (.Call (.Name "super" p0) [] [] p1) "__init__" X.env (eval (.Call (.Name "super" p0) [] [] p1) X.env)
      standAt p2.atName
      let (f, first) ← holding [ov] (getMethod ov "__init__" pl)
      callWith p4 f first (backTo p4 (starEach [.Constant (.str m) j p3] X.env)) [])) (hs : swapsWith (.Call (.Attribute (.Call (.Name "super" p0) [] [] p1) "__init__" p2) [.Constant (.str m) j p3] [] p4) none p5.line X.env = pure false) (h : ∀ s', Inv X pins σ H s' → Q .next s') :
    PySem.wpAt (model X.prog X.w) X.A (.func body X.env) (exec (.Expr (.Call (.Attribute (.Call (.Name "super" p0) [] [] p1) "__init__" p2) [.Constant (.str m) j p3] [] p4) p5) X.env) Q E s := by
  refine PySem.ks_wpAt_Expr_any ?_ hi hs
  refine PySem.ks_wpAt_MethodCall ?_ he
  obtain ⟨f, o, fd, ar, f1, f2, f3, f4, f5⟩ := Y.fu
  obtain ⟨cc, oc, vs, file, tf, c1, c2, c3, c4, c5⟩ := Y.co
  refine PySem.ks_wpAt_super_base Y.ks Y.kc (by decide) f1 (I.kIn _ _ f2) f3 f4 c1 (I.kIn _ _ c2) c3 c4 c5 Y.top ?_
  obtain ⟨mb, b1, b2⟩ := I.mod.blt
  rw [loadName_read I.ok.kind Y.ks]
  refine Calls.loadGlobal_builtin (by rw [I.ok.glob]; exact I.mod.glob.keeps I.bk) Y.nm (by rw [I.ok.blt]; exact b1.keeps I.bk) ((b2 "super" (by decide)).trans (show bootBuiltins "super" = some (.type "super") by kernel_rfl)) ⟨rfl, ?_⟩
  refine ld_name I Y.nc Y.vc hc fun u ru => ?_
  obtain rfl : u = Value.ref D := ru
  rw [f5]
  refine ld_name I Y.n0 Y.v0 h0 fun u ru => ?_
  obtain rfl : u = Value.ref a := ru
  obtain ⟨oD, cd, lD, hd⟩ := cls_at S.cl
  obtain ⟨hp, g, d, t, os⟩ := s
  refine PySem.ks_wpAny_isType_cls (I.kIn _ _ lD) hd ⟨rfl, ?_⟩
  refine sup_obj S I e fun so s1 I1 hso => ?_
  refine sup_meth S I1 e hso fun u s2 I2 hu => ?_
  refine PySem.W.kxs_callWith (i := "ValueError.__init__") (x := a) rfl ?_
  refine Calls.evalArgs_plain ?_
  refine Calls.spliced_cons (Calls.Constant_str (pos := p3) (k := j) (Calls.spliced_nil ⟨hu, ?_⟩))
  exact sup_init O (I2.tok _) e hu (by show 1 ≤ sizeLine; rw [sizeLine_eq]; decide) fun s3 I3 => h s3 I3
end
end Sl
set_option Elab.async false
set_option linter.all false
set_option autoImplicit false
set_option maxRecDepth 100000
set_option maxHeartbeats 4000000
/-! the __init__ of an own exception keeps its promise -/
namespace Sl
open PySem PySem.Spec PyProof.Rows L2 NdefX
theorem lk_hd {x : Str} {c : Addr} {l : List (Str × Addr)} : ((x, c) :: l).lookup x = some c := by simp [List.lookup]
theorem lk_tl {x y : Str} {c : Addr} {l : List (Str × Addr)} (h : y ≠ x) : ((x, c) :: l).lookup y = l.lookup y := by
  have e : (y == x) = false := by simpa using h
  simp [List.lookup, e]
/-- the method at f: its cell __class__ holds the class D -/
structure SupF (K : Kf) (file name qual : Str) (params : Arguments) (body : List Stmt) (scope : Scope) (D f cc : Addr) (fd : FuncData) : Prop where
  ex : ∃ (oc : Value) (od : Option Addr) (osl : Array (Option Value)) (cell : Addr) (kV doc pm : Value) (an : Option Addr) (ct : Value) (co : Obj), fd = PySem.W.fnX name qual params body scope [("__class__", cell)] .none kV doc pm an (.ref cc) ct ∧ K.lookup f = some ⟨oc, od, .func fd, osl⟩ ∧
    K.lookup cell = some co ∧ co.data = .cell (some (.ref D)) ∧ PySem.W.codeIn K (.ref cc) qual = true
  file : ∃ (oc : Obj) (vs : Array Value) (tf : Tok), K.lookup cc = some oc ∧ oc.data = .fields vs ∧ vs[2]? = some (.str file tf)
/-- what it promises: self has no dict as yet; then it has one with the fields fs -/
def spI (K : Kf) (D : Addr) (fs : List Str) : Sp := fun vs H Q _ => ∃ (a C : Addr) (ys : List V), vs = .ref a :: ys ∧ ys.length = fs.length ∧ OexC K C ∧ SupC K C D ∧ (∀ f ∈ fs, PySem.W.findIn K (.ref C) f = some none) ∧ H a = some (exo a C none) ∧
  ((fs = [] ∧ Q .non H) ∨ (fs ≠ [] ∧ ∀ dx H', H dx = none → dx ≠ a → H' a = some (exo a C (some dx)) → H' dx = some (exd dx (fs.zip ys).reverse) → (∀ b, b ≠ a → b ≠ dx → H' b = H b) → Q .non H'))
section
variable {CX : CXT} {P : Program} {w : World} {K : Kf} {mg : Str → Option Value} {base : Heap} {name qual : Str} {params : Arguments} {body rest : List Stmt} {scope : Scope} {D f cc : Addr} {fd : FuncData} {N ps fs : List Str} {k : Nat} {t : TS} {m : Str} {j : Nat} {p0 p1 p2 p3 p4 p5 : Pos} {ar : Arg} {pl : PySem.Env → Sem Bool} {file : Str}
theorem init_of (SF : SupF K file name qual params body scope D f cc fd) (hfile : ((P.main.file : Str) == file) = true) (S : NScope N ps ["__class__"] scope) (hps : ps.length = fs.length + 1) (hN0 : N[0]? = some ("self" : Str)) (hNc : N[fs.length + 1]? = some ("__class__" : Str)) (hself : scope.names.lookup ("self" : Str) = some .local) (hsup : scope.names.lookup ("super" : Str) = some .globalImplicit)
    (hpar : (params.posonlyargs ++ params.args).head? = some ar) (har : ar.arg = "self") (htop : (P.main.scope.names.lookup ("super" : Str)).isSome = false) (hmg : mg "super" = none)
    (hbody : body = .Expr (.Call (.Attribute (.Call (.Name "super" p0) [] [] p1) "__init__" p2) [.Constant (.str m) j p3] [] p4) p5 :: rest)
    (hi : ∀ L cell, interactive (PySem.W.envX qual scope L f (.ref cc) [("__class__", cell)]) = false)
    (he : ∀ env : PySem.Env, eval (.Call (.Attribute (.Call (.Name "super" p0) [] [] p1) "__init__" p2) [.Constant (.str m) j p3] [] p4) env = (do
      let ov ← attributeBase (.Call (.Name "super" p0) [] [] p1) "__init__" env (eval (.Call (.Name "super" p0) [] [] p1) env)
      standAt p2.atName
      let (f, first) ← holding [ov] (getMethod ov "__init__" (pl env))
      callWith p4 f first (backTo p4 (starEach [.Constant (.str m) j p3] env)) []))
    (hs : ∀ env : PySem.Env, swapsWith (.Call (.Attribute (.Call (.Name "super" p0) [] [] p1) "__init__" p2) [.Constant (.str m) j p3] [] p4) none p5.line env = pure false)
    (hr : ∀ (cell : Addr) (A : Around) (outer : List PySem.Env) (s : Shared) (H : Hp) (E : XK), PSs (ncx CX P w K mg base N ⟨name, qual, params, body, scope, [("__class__", cell)], cc⟩ f A outer s H E) rest t)
    (hq : ∀ (a C : Addr) (ys : List V) (H : Hp) (Q : VK), ys.length = fs.length → OexC K C → (∀ f ∈ fs, PySem.W.findIn K (.ref C) f = some none) → H a = some (exo a C none) →
      ((fs = [] ∧ Q .non H) ∨ (fs ≠ [] ∧ ∀ dx H', H dx = none → dx ≠ a → H' a = some (exo a C (some dx)) → H' dx = some (exd dx (fs.zip ys).reverse) → (∀ b, b ≠ a → b ≠ dx → H' b = H b) → Q .non H')) →
      t { nx := fun _ H' => Q .non H', rt := Q } (startF N (.ref a :: ys) [some (.ref D)]) H) :
    FnOk P w K mg base CX (k + 1) f fd ps (spI K D fs) := by
  obtain ⟨oc, od, osl, cell, kV, doc, pm, an, ct, co, rfl, lk, lc, hc, hcd⟩ := SF.ex
  have len : ∀ vs H Q E, spI K D fs vs H Q E → vs.length = ps.length := fun vs H Q E h => by
    obtain ⟨a, C, ys, rfl, hl, _⟩ := h
    rw [List.length_cons]
    omega
  refine ⟨len, fun A outer s H args us vs Q E hr0 e0 hb r hsp => ?_⟩
  have KX : K.In s.heap := e0.mod.kin.keeps fun b o e => (e0.bs b o e).1
  have hl := len _ _ _ _ hsp
  have lim : s.heap.NoLimit := e0.mod.nolimit.keeps fun b o e => (e0.bs b o e).1
  refine codeAny_call_function hr0.depth (KX _ _ lk) rfl S.co S.gen rfl (PySem.W.codeRec_of KX hcd) (hb _ _ _ _ ?_)
  refine wpAny_newFunctionEnv S.nocell (fun ⟨n, _⟩ hy => S.par n (List.of_mem_zip hy).1) (fun h₁ hns hsb => ⟨lim.fresh _ hsb, ?_⟩) S.kind
  let F : NF := ⟨name, qual, params, body, scope, [("__class__", cell)], cc⟩
  show codeAny _ _ (.func body (envF F f s.heap.objs.size)) _ _
  refine PySem.ks_codeAny_funcAt ?_
  have kp : ∀ b o, s.heap.get? b = some o → h₁.get? b = some o := fun b o e => hsb.extBut b o (Nat.ne_of_lt (Heap.lt_size e)) (Heap.get?_push_of_some _ e)
  have hKB : ∀ {b : Addr} {o : Obj}, K.lookup b = some o → H b = none := fun {b o} e => (e0.bs b o (e0.mod.kin b o e)).2
  have cellH : s.heap.IsCell cell (some (.ref D)) := ⟨co, KX _ _ lc, hc⟩
  have cla : CellsAt F.cl ["__class__"] [some (.ref D)] s.heap H := by
    refine ⟨rfl, fun y c e => ?_, fun x y c e1 e2 => ?_, fun i y e => ?_⟩
    · have e' : ([("__class__", cell)] : List (Str × Addr)).lookup y = some c := e
      by_cases hy : y = "__class__"
      · subst hy
        rw [lk_hd] at e'
        cases e'
        exact ⟨hKB lc, _, cellH⟩
      · rw [lk_tl hy] at e'
        cases e'
    · have e1' : ([("__class__", cell)] : List (Str × Addr)).lookup x = some c := e1
      have e2' : ([("__class__", cell)] : List (Str × Addr)).lookup y = some c := e2
      by_cases hx : x = "__class__"
      · by_cases hy : y = "__class__"
        · rw [hx, hy]
        · rw [lk_tl hy] at e2'
          cases e2'
      · rw [lk_tl hx] at e1'
        cases e1'
    · cases i with
      | zero =>
        cases e
        refine ⟨cell, lk_hd, fun v hv => ?_⟩
        cases hv
        exact ⟨.ref D, rfl, cellH⟩
      | succ i => cases e
  obtain ⟨a, C, ys, rfl, hly, O, SC, hno, ea, hend⟩ := hsp
  have I : Inv (ncx CX P w K mg base N F f A outer s H E) [] (startF N (.ref a :: ys) [some (.ref D)]) H { s with heap := h₁, toks := s.toks + (ps.zip us).length } := inv_startN S hr0.hd e0 hl r cla hns kp
  obtain ⟨ocf, vsf, tf, g1, g2, g3⟩ := SF.file
  have Y : SupE (ncx CX P w K mg base N F f A outer s H E) 0 (fs.length + 1) := {
    ks := hsup
    kc := S.frk "__class__" (by simp)
    fu := ⟨f, _, _, ar, rfl, lk, rfl, hpar, har⟩
    co := ⟨cc, ocf, vsf, file, tf, rfl, g1, g2, g3, hfile⟩
    top := htop
    nm := hmg
    n0 := hN0
    nc := hNc
    v0 := .inl hself
    vc := .inr (.inr (S.frk "__class__" (by simp))) }
  have s0 : (startF N (.ref a :: ys) [some (.ref D)])[0]? = some (some (.ref a)) := by
    unfold startF
    rfl
  have sc : (startF N (.ref a :: ys) [some (.ref D)])[fs.length + 1]? = some (some (.ref D)) := by
    unfold startF
    rw [List.getElem?_append_right (by rw [List.length_map, List.length_cons]; omega), List.length_map, List.length_cons, hly, Nat.sub_self]
    rfl
  rw [hbody]
  refine PySem.ks_wpAt_execs_cons (sup_at (X := ncx CX P w K mg base N F f A outer s H E) Y O SC I ea s0 sc (hi _ _) (he _) (hs _) fun s1 I1 => ?_)
  refine PySem.wpAt_of_wpAny ?_
  refine wpAny_mono ((hr cell A outer s H E).run [] s1 _ H _ I1 (hq a C ys H Q hly O hno ea hend)) (fun fl s' hs => ?_) fun e s' hs => hs
  have fin : ∀ {σ' : L2.St} {H' : Hp} {v : V} {u : Value}, Inv (ncx CX P w K mg base N F f A outer s H E) [] σ' H' s' → L2.RelV v u → Q v H' → CE outer P w H s Q u s' :=
    fun {σ' H' v u} J rv q => ⟨v, H', J.os, J.bare, J.base, J.hok, rv, q⟩
  cases fl with
  | ret u =>
    obtain ⟨v, σ', H', J, rv, q⟩ := hs
    exact fin J rv q
  | next =>
    obtain ⟨σ', H', J, q⟩ := hs
    exact fin (v := V.non) (u := Value.none) J rfl q
  | brk =>
    obtain ⟨_, _, _, q⟩ := hs
    exact False.elim q
  | cont =>
    obtain ⟨_, _, _, q⟩ := hs
    exact False.elim q
theorem SupF.binds (SF : SupF K file name qual params body scope D f cc fd) (h : ∀ (cell : Addr) (kV doc pm : Value) (an : Option Addr) (ct : Value) (us : List Value), us.length = ps.length → bindArgs (PySem.W.fnX name qual params body scope [("__class__", cell)] .none kV doc pm an (.ref cc) ct) ⟨us, []⟩ = pure (ps.zip us)) : Binds K fd ps [] := by
  obtain ⟨oc, od, osl, cell, kV, doc, pm, an, ct, co, rfl, _⟩ := SF.ex
  exact .all (h cell kV doc pm an ct)
end
end Sl
set_option Elab.async false
set_option linter.all false
set_option autoImplicit false
set_option maxRecDepth 100000
set_option maxHeartbeats 4000000
/-! own exceptions in hand: made, asked for a field, asked for their class -/
namespace Sl
open PySem PySem.Spec PyProof.Rows L2 NdefX
section
variable {X : Cx} {a C D : Addr} {E : XK}
/-! ### made -/
/-- C(e, ..): its __init__ keeps spI -/
def tExm (K : Kf) (C D : Addr) (fs : List Str) (ta : TA) : TE := fun σ H Q => ta σ H fun vs H1 => vs.length = fs.length ∧ vs.length ≤ 1000 ∧ ∀ a, H1 a = none →
  ((fs = [] ∧ Q (.ref a) (upd H1 a (exo a C none))) ∨ (fs ≠ [] ∧ ∀ dx H', H1 dx = none → dx ≠ a → H' a = some (exo a C (some dx)) → H' dx = some (exd dx (fs.zip vs).reverse) → (∀ b, b ≠ a → b ≠ dx → H' b = H1 b) → Q (.ref a) H'))
structure ExmC (K : Kf) (C D fI : Addr) (fs : List Str) : Prop where
  o : OexC K C
  s : SupC K C D
  no : ∀ f ∈ fs, PySem.W.findIn K (.ref C) f = some none
  ii : PySem.W.findIn K (.ref C) "__init__" = some (some (.ref fI))
  ti : PySem.W.typeIn K (.ref fI) = some (.type "function")
section
variable {CX : CXT} {fI : Addr} {k : Nat} {fd : FuncData} {ps fs : List Str} {pins : List (Addr × Obj)} {σ : L2.St} {H1 : Hp} {s1 : Shared} {us : List Value} {vs : List V} {Q : VK}
theorem exm_call (T : ExmC X.K C D fI fs) (F1 : FnOk X.prog X.w X.K X.mg X.base CX k fI fd ps (spI X.K D fs)) (hr : Room (k + 1) X.A) (hb : Binds X.K fd ps []) (hx : Passes CX X (fun _ _ _ => False)) (I1 : Inv X pins σ H1 s1) (r1 : Vals vs us) (hl : vs.length = fs.length) (hz : vs.length ≤ 1000)
    (q : ∀ a, H1 a = none → ((fs = [] ∧ Q (.ref a) (upd H1 a (exo a C none))) ∨ (fs ≠ [] ∧ ∀ dx H', H1 dx = none → dx ≠ a → H' a = some (exo a C (some dx)) → H' dx = some (exd dx (fs.zip vs).reverse) → (∀ b, b ≠ a → b ≠ dx → H' b = H1 b) → Q (.ref a) H'))) :
    wpAny (model X.prog X.w) X.A (call (.ref C) us) (EP X pins σ Q) X.xe s1 := by
  obtain ⟨nm, qn, N, bs, bm, sn, sub, ab, col, dd, k0, k1, k2, k3, k5, hC, hbm⟩ := T.o.cls
  obtain ⟨hp, g, dr, tk, os⟩ := s1
  have hsz : hp.objs.size ≤ hp.objs.size + 1 := Nat.le_succ _
  have hn : H1 (hp.objs.size + 1) = none := I1.hok.fresh hsz
  have hq := q (hp.objs.size + 1) hn
  have kk : ∀ b o, hp.get? b = some o → ((hp.push (PySem.W.kdv_tup us)).push (PySem.HandSPX.excO C hp.objs.size)).get? b = some o := fun b o e => Heap.get?_push_of_some _ (Heap.get?_push_of_some _ e)
  have hget : ((hp.push (PySem.W.kdv_tup us)).push (PySem.HandSPX.excO C hp.objs.size)).get? (hp.objs.size + 1) = some (PySem.HandSPX.excO C hp.objs.size) := by heap_get
  have I2 : Inv X pins σ (upd H1 (hp.objs.size + 1) (exo (hp.objs.size + 1) C none)) ⟨(hp.push (PySem.W.kdv_tup us)).push (PySem.HandSPX.excO C hp.objs.size), g, dr, tk, os⟩ :=
    I1.laid (t' := tk) (a := hp.objs.size + 1) (o := exo (hp.objs.size + 1) C none) (h' := (hp.push (PySem.W.kdv_tup us)).push (PySem.HandSPX.excO C hp.objs.size)) kk hsz (exo_ok hget)
  have r2 : Vals (V.ref (hp.objs.size + 1) :: (vs ++ [])) (Value.ref (hp.objs.size + 1) :: (us ++ [])) := .cons rfl (r1.append .nil)
  rw [List.append_nil, List.append_nil] at r2
  have hsp : spI X.K D fs (V.ref (hp.objs.size + 1) :: vs) (upd H1 (hp.objs.size + 1) (exo (hp.objs.size + 1) C none)) (fun v H2 => v = .non ∧ Q (.ref (hp.objs.size + 1)) H2) (fun _ _ _ => False) := by
    refine ⟨_, C, vs, rfl, hl, T.o, T.s, T.no, upd_same, ?_⟩
    rcases hq with ⟨e1, e2⟩ | ⟨hne, h⟩
    · exact .inl ⟨e1, rfl, e2⟩
    · refine .inr ⟨hne, fun dx H' d1 d2 d3 d4 d5 => ⟨rfl, h dx H' ?_ d2 d3 d4 fun b h1 h2 => ?_⟩⟩
      · rw [upd_ne d2] at d1
        exact d1
      · rw [d5 b h1 h2, upd_ne h1]
  have hlen : (Value.ref (hp.objs.size + 1) :: us).length = ps.length := by
    have e := r2.length
    rw [F1.len _ _ _ _ hsp] at e
    exact e.symm
  have hus : us.length ≤ sizeLine := by
    rw [← Paired.length r1, sizeLine_eq]
    omega
  have hbb := hb ⟨(hp.push (PySem.W.kdv_tup us)).push (PySem.HandSPX.excO C hp.objs.size), g, dr, tk, os⟩ (Value.ref (hp.objs.size + 1) :: us) I2.kIn (by rw [List.append_nil]; exact hlen)
  rw [List.append_nil] at hbb
  refine wpAny_call (PySem.HandSPX.call_own F.excBase_ValueError (fun Y => PySem.HandSPX.refsVE_contains Y bm hbm) (I1.kIn _ _ hC) (PySem.W.looks_findIn I1.kIn T.ii) (fun self => PySem.W.bind_fn I1.kIn self T.ti) hus
    (codeAny_mono (F1.run _ X.stack _ _ ⟨Value.ref (hp.objs.size + 1) :: us, []⟩ (Value.ref (hp.objs.size + 1) :: us) _ _ (fun _ _ _ => False) (hr.make C us []) (I2.env0.make C us []) hbb r2 hsp) fun r s' hq' => ?_))
  cases r with
  | error er => exact hx pins σ _ _ er s' I2 hq'
  | ok fl =>
    cases fl with
    | ret u =>
      obtain ⟨v, H2, J, rv, rfl, q2⟩ := I2.after hq'
      exact ⟨rv, .ref _, H2, J, rfl, q2⟩
    | next => exact False.elim hq'
    | brk => exact False.elim hq'
    | cont => exact False.elim hq'
variable {x : Str} {p pos : Pos} {e : Expr} {es : List Expr} {ta : TA}
theorem pe_exm (T : ExmC X.K C D fI fs) (F1 : FnOk X.prog X.w X.K X.mg X.base CX k fI fd ps (spI X.K D fs)) (hr : Room (k + 1) X.A) (hb : Binds X.K fd ps []) (hx : Passes CX X (fun _ _ _ => False)) (hg : Gl X x) (hm : X.mg x = some (.ref C)) (ha : PA X (e :: es) ta)
    (hdb : (x == ("__debug__" : Str)) = false := by decide) (he : starEach (e :: es) X.env = (false, eval e X.env) :: starEach es X.env := by rfl) (hpl : (backTo pos (starEach es X.env)).any (·.1) = false := by rfl) :
    PE X (.Call (.Name x p) (e :: es) [] pos) (tExm X.K C D fs ta) := by
  refine ⟨fun pins s σ H Q I h => ?_⟩
  refine wpAny_Call_Name_kw (ld_glob I hg hm ?_ hdb)
  refine PySem.W.callWith_K (h₀ := X.base) I.ok.mod.kin T.o.kC (thn (ha.run pos pins s σ H _ I h) fun us s1 ⟨vs, H1, I1, r1, hl, hz, q1⟩ => ⟨I1.kIn, ?_⟩) he hpl
  exact exm_call T F1 hr hb hx I1 r1 hl hz q1
theorem pe_exm0 (T : ExmC X.K C D fI []) (F1 : FnOk X.prog X.w X.K X.mg X.base CX k fI fd ps (spI X.K D [])) (hr : Room (k + 1) X.A) (hb : Binds X.K fd ps []) (hx : Passes CX X (fun _ _ _ => False)) (hg : Gl X x) (hm : X.mg x = some (.ref C)) (hdb : (x == ("__debug__" : Str)) = false := by decide) :
    PE X (.Call (.Name x p) [] [] pos) (tExm X.K C D [] tNil) := by
  refine ⟨fun pins s σ H Q I h => ?_⟩
  refine wpAny_Call_Name_kw (ld_glob I hg hm ?_ hdb)
  refine PySem.W.callWith_K0 I.kIn T.o.kC ?_
  exact exm_call (vs := []) T F1 hr hb hx I .nil rfl (by simp) h.2.2
end
end
/-! ### the store's picture -/
section
variable {K : Kf} {P : Par} {ρ : List Addr} {F H H' : Hp} {st : Sto} {a dx : Addr} {c : Str}
theorem Im.exc {fvs : List (Str × V)} {fs : List (Str × PyData)} {d : Option Addr} (I : Im K P ρ F H st) (ha : H a = none) (F' : Hp) (eF : Evl.Ex F F') (eH : Evl.Ex F' H') (hnew : ∀ b, F' b ≠ none → F b ≠ none ∨ b = a ∨ H b = none) (h1 : H' a ≠ none) (h3 : ∀ b o, H b = some o → H' b = some o) (hr : ExR K F' a c fs) :
    Tr ρ F H (ρ ++ [a]) F' H' ∧ Im K P (ρ ++ [a]) F' H' (st ++ [.ex c fs]) := by
  have t : Tr ρ F H (ρ ++ [a]) F' H' := by
    refine ⟨⟨[a], rfl⟩, fun b h => ?_, eF, fun b u h _ => h3 b u h, fun b h => ?_, fun b h => ?_⟩
    · rcases List.mem_append.mp h with h | h
      · exact .inl h
      · rw [List.mem_singleton.mp h]
        exact .inr ha
    · cases q : H b with
      | none => exact absurd q h
      | some u => rw [h3 b u q]; exact fun z => nomatch z
    · rcases hnew b h with h | h | h
      · exact .inl h
      · rw [h]
        exact .inr (.inl ha)
      · exact .inr (.inl h)
  refine ⟨t, ⟨by simp [I.len], ?_, eH, fun b h => ?_, fun i b o e1 e2 => ?_⟩⟩
  · refine List.nodup_append.mpr ⟨I.nd, by simp, fun b h d hd e => ?_⟩
    rw [List.mem_singleton.mp hd] at e
    subst e
    exact I.dom _ h ha
  · rcases List.mem_append.mp h with h | h
    · exact t.stay b (I.dom b h)
    · rw [List.mem_singleton.mp h]
      exact h1
  · by_cases hi : i < ρ.length
    · rw [List.getElem?_append_left hi] at e1
      rw [List.getElem?_append_left (by rw [← I.len]; exact hi)] at e2
      have o1 := I.ob i b o e1 e2
      have hm : b ∈ ρ := List.mem_of_getElem? e1
      have eb : H' b = H b := by
        cases q : H b with
        | none => exact absurd q (I.dom b hm)
        | some u => exact h3 b u q
      refine (ObR.up eF (fun hF => ?_) eb o1).more
      cases q : F' b with
      | none => rfl
      | some u =>
        rcases hnew b (by rw [q]; exact fun z => nomatch z) with h | h | h
        · exact absurd hF h
        · subst h
          exact absurd ha (I.dom _ hm)
        · exact absurd h (I.dom _ hm)
    · have hi2 : i = ρ.length := by
        have := (List.getElem?_eq_some_iff.mp e1).1
        simp at this
        omega
      subst hi2
      rw [List.getElem?_append_right (Nat.le_refl _), Nat.sub_self] at e1
      rw [List.getElem?_append_right (by rw [I.len]; exact Nat.le_refl _), I.len, Nat.sub_self] at e2
      cases e1
      cases e2
      exact hr
end
/-! ### in the small semantics -/
def dataAll : List VL → Option (List PyData)
  | [] => some []
  | .d x :: xs => (dataAll xs).map (x :: ·)
  | .o _ :: _ => none
/-- C(e, ..) -/
def eExc (c : Str) (fs : List Str) (cs : SL) : SE := fun env st => obindL (cs env st) fun xs st1 => match dataAll xs with
  | some ds => if ds.length = fs.length ∧ ds.length ≤ 1000 then some (.ok (.o st1.length) (st1 ++ [.ex c (fs.reverse.zip ds.reverse)])) else none
  | none => none
/-- e.f, e an exception of one of the classes cs -/
def eXf (cs : List Str) (f : Str) (ca : SE) : SE := fun env st => obind (ca env st) fun x st1 => match x with
  | .o n => match st1[n]? with
    | some (.ex c fs) => if c ∈ cs then (fs.lookup f).map fun d => .ok (.d d) st1 else none
    | _ => none
  | _ => none
/-- isinstance(e, T), e an exception: T's answers by class -/
def eXis (tb : List (Str × Bool)) (ca : SE) : SE := fun env st => obind (ca env st) fun x st1 => match x with
  | .o n => match st1[n]? with
    | some (.ex c _) => (tb.lookup c).map fun b => .ok (.d (.bool b)) st1
    | _ => none
  | _ => none
section
variable {K : Kf} {ρ : List Addr} {F : Hp}
theorem dataAll_ok : ∀ {vs : List V} {xs : List VL} {ds : List PyData}, VRs K ρ F vs xs → dataAll xs = some ds → DqAll K F vs ds
  | _, _, _, .nil, h => by
    cases h
    exact .nil
  | _, .d x :: xs, ds, .cons r t, h => by
    obtain ⟨es, h1, h2⟩ := Option.map_eq_some_iff.mp h
    subst h2
    exact .cons r (dataAll_ok t h1)
  | _, .o _ :: _, _, .cons _ _, h => by cases h
theorem dqa_len : ∀ {vs : List V} {ds : List PyData}, DqAll K F vs ds → vs.length = ds.length
  | _, _, .nil => rfl
  | _, _, .cons _ t => congrArg (· + 1) (dqa_len t)
theorem dqa_app : ∀ {vs ws : List V} {ds es : List PyData}, DqAll K F vs ds → DqAll K F ws es → DqAll K F (vs ++ ws) (ds ++ es)
  | _, _, _, _, .nil, h => h
  | _, _, _, _, .cons a t, h => .cons a (dqa_app t h)
theorem dqa_rev : ∀ {vs : List V} {ds : List PyData}, DqAll K F vs ds → DqAll K F vs.reverse ds.reverse
  | _, _, .nil => .nil
  | _, _, .cons a t => by
    rw [List.reverse_cons, List.reverse_cons]
    exact dqa_app (dqa_rev t) (.cons a .nil)
theorem zip_lookup : ∀ {ns : List Str} {vs : List V} {ds : List PyData} {f : Str} {d : PyData}, DqAll K F vs ds → vs.length = ns.length → (ns.zip ds).lookup f = some d → ∃ v, (ns.zip vs).lookup f = some v ∧ Dq K F v d
  | [], _, _, _, _, _, _, h => by cases h
  | n :: ns, _, _, f, d, .nil, hl, h => by cases hl
  | n :: ns, v :: vs, e :: ds, f, d, .cons a t, hl, h => by
    rw [List.zip_cons_cons] at h ⊢
    by_cases hf : f = n
    · subst hf
      have h' : ((f, e) :: ns.zip ds).lookup f = some e := by simp [List.lookup]
      rw [h'] at h
      cases h
      exact ⟨v, by simp [List.lookup], a⟩
    · have e0 : (f == n) = false := by simpa using hf
      simp only [List.lookup, e0] at h ⊢
      exact zip_lookup t (by simpa using hl) h
end
end Sl
set_option Elab.async false
set_option linter.all false
set_option autoImplicit false
set_option maxRecDepth 100000
set_option maxHeartbeats 4000000
/-! own exceptions in hand: the rules -/
namespace Sl
open PySem PySem.Spec PyProof.Rows L2 NdefX
theorem zip_rev {α β : Type} {xs : List α} {ys : List β} (h : xs.length = ys.length) : (xs.zip ys).reverse = xs.reverse.zip ys.reverse := by
  simpa [List.zip] using List.reverse_zipWith (f := Prod.mk) h
section
variable {X : Cx} {P : Par} {D : Addr} {E : XK} {CX : CXT} {fI : Addr} {k : Nat} {fd : FuncData} {ps fs : List Str} {x c : Str} {p pos : Pos} {e : Expr} {es : List Expr} {cs : SL}
theorem exc_w {σ : L2.St} {H : Hp} {Q : VK} (h : rdE X.K P E (eExc c fs cs) σ H Q) : tExm X.K (He.ga X.K c) D fs (rdL X.K P E cs) σ H Q := by
  obtain ⟨ρ, F, st, env, o, I, R, h, p⟩ := h
  refine rdL_bind I R h p fun vs ρ1 F1 H1 xs st1 t1 I1 R1 r1 h1 p1 => ?_
  split at h1
  · rename_i ds hds
    split at h1
    · rename_i hc
      cases h1
      have hq := dataAll_ok r1 hds
      have hl := dqa_len hq
      refine ⟨by omega, by omega, fun a ha => ?_⟩
      have hv : ∀ F', VR X.K (ρ1 ++ [a]) F' (.ref a) (.o st1.length) := fun F' => ⟨a, rfl, by rw [← I1.len, List.getElem?_append_right (Nat.le_refl _), Nat.sub_self]; rfl⟩
      have hne : ∀ {b : Addr} {u : HO}, H1 b = some u → b ≠ a := fun {b u} hb e => by
        rw [e, ha] at hb
        cases hb
      by_cases hf : fs = []
      · subst hf
        have hd0 : ds = [] := List.length_eq_zero_iff.mp (by simpa using hc.1)
        subst hd0
        refine .inl ⟨rfl, ?_⟩
        obtain ⟨t2, I2⟩ := I1.exc (a := a) (c := c) (fs := []) (H' := upd H1 a (exo a (He.ga X.K c) none)) (d := none) (fvs := []) ha (upd F1 a (exo a (He.ga X.K c) none)) (fun b u hb => by rw [upd_ne (hne (I1.ex b u hb))]; exact hb) (fun b u hb => by
          by_cases e : b = a
          · subst e
            rw [upd_same] at hb ⊢
            exact hb
          · rw [upd_ne e] at hb ⊢
            exact I1.ex b u hb) (fun b hb => by
          by_cases e : b = a
          · exact .inr (.inl e)
          · rw [upd_ne e] at hb
            exact .inl hb) (by rw [upd_same]; exact fun z => nomatch z) (fun b u hb => by rw [upd_ne (hne hb)]; exact hb) (.inl ⟨rfl, upd_same⟩)
        exact p1 _ _ _ _ t2 I2 (hv _)
      · refine .inr ⟨hf, fun dx H' d1 d2 d3 d4 d5 => ?_⟩
        have hnd : ∀ {b : Addr} {u : HO}, H1 b = some u → b ≠ dx := fun {b u} hb e => by
          rw [e, d1] at hb
          cases hb
        have hz : (fs.zip vs).reverse = fs.reverse.zip vs.reverse := zip_rev (by omega)
        have eF : Evl.Ex F1 (upd (upd F1 dx (exd dx (fs.zip vs).reverse)) a (exo a (He.ga X.K c) (some dx))) := fun b u hb => by
          rw [upd_ne (hne (I1.ex b u hb)), upd_ne (hnd (I1.ex b u hb))]
          exact hb
        obtain ⟨t2, I2⟩ := I1.exc (a := a) (c := c) (fs := fs.reverse.zip ds.reverse) (H' := H') (d := some dx) (fvs := []) ha (upd (upd F1 dx (exd dx (fs.zip vs).reverse)) a (exo a (He.ga X.K c) (some dx))) eF (fun b u hb => by
          by_cases e : b = a
          · subst e
            rw [upd_same] at hb
            rw [d3]
            exact hb
          · rw [upd_ne e] at hb
            by_cases e2 : b = dx
            · subst e2
              rw [upd_same] at hb
              rw [d4]
              exact hb
            · rw [upd_ne e2] at hb
              rw [d5 b e e2]
              exact I1.ex b u hb) (fun b hb => by
          by_cases e : b = a
          · exact .inr (.inl e)
          · rw [upd_ne e] at hb
            by_cases e2 : b = dx
            · rw [e2]
              exact .inr (.inr d1)
            · rw [upd_ne e2] at hb
              exact .inl hb) (by rw [d3]; exact fun z => nomatch z) (fun b u hb => by rw [d5 b (hne hb) (hnd hb)]; exact hb)
          (.inr ⟨dx, fs.reverse, vs.reverse, ds.reverse, upd_same, by rw [upd_ne d2, upd_same, hz], by simp; omega, dqa_rev (dqa_mono eF hq), rfl⟩)
        exact p1 _ _ _ _ t2 I2 (hv _)
    · cases h1
  · cases h1
/-- C(e, ..), C an own exception -/
theorem e_exc (T : ExmC X.K (He.ga X.K c) D fI fs) (F1 : FnOk X.prog X.w X.K X.mg X.base CX k fI fd ps (spI X.K D fs)) (hr : Room (k + 1) X.A) (hb : Binds X.K fd ps []) (hx : Passes CX X (fun _ _ _ => False)) (hg : Gl X x) (hm : X.mg x = some (.ref (He.ga X.K c))) (ha : PA X (e :: es) (rdL X.K P E cs))
    (hdb : (x == ("__debug__" : Str)) = false := by decide) (he : starEach (e :: es) X.env = (false, eval e X.env) :: starEach es X.env := by rfl) (hpl : (backTo pos (starEach es X.env)).any (·.1) = false := by rfl) :
    PE X (.Call (.Name x p) (e :: es) [] pos) (rdE X.K P E (eExc c fs cs)) := pe_weak (pe_exm T F1 hr hb hx hg hm ha hdb he hpl) fun σ H Q h => exc_w h
/-- C() -/
theorem e_exc0 (T : ExmC X.K (He.ga X.K c) D fI []) (F1 : FnOk X.prog X.w X.K X.mg X.base CX k fI fd ps (spI X.K D [])) (hr : Room (k + 1) X.A) (hb : Binds X.K fd ps []) (hx : Passes CX X (fun _ _ _ => False)) (hg : Gl X x) (hm : X.mg x = some (.ref (He.ga X.K c))) (hdb : (x == ("__debug__" : Str)) = false := by decide) :
    PE X (.Call (.Name x p) [] [] pos) (rdE X.K P E (eExc c [] (fun _ st => some (.ok [] st)))) := pe_weak (pe_exm0 T F1 hr hb hx hg hm hdb) fun σ H Q h => by
  have w := exc_w (D := D) h
  obtain ⟨ρ, F, st, env, o, I, R, h1, p1⟩ := w
  cases h1
  exact p1 [] ρ F H (Tr.refl ..) I .nil
/-! ### a field -/
def tXfo (K : Kf) (n : Str) (te : TE) : TE := fun σ H Q => te σ H fun x H1 => ∃ (a C dx : Addr) (fvs : List (Str × V)) (v : V), x = .ref a ∧ XfC K C ∧ PySem.W.findIn K (.ref C) n = some none ∧ H1 a = some (exo a C (some dx)) ∧ H1 dx = some (exd dx fvs) ∧ fvs.lookup n = some v ∧ Q v H1
theorem pe_xfo {te : TE} {n : Str} (he : PE X e te) (hb : attributeBase e n X.env (eval e X.env) = eval e X.env := by rfl) : PE X (.Attribute e n pos) (tXfo X.K n te) := by
  refine ⟨fun pins s σ H Q I h => ?_⟩
  refine attr_of hb (thn (he.run pins s σ H _ I h) fun u s1 hh => ?_)
  obtain ⟨x, H1, I1, rx, a, C, dx, fvs, v, ex, T, hno, ea, ed, l, q⟩ := hh
  subst ex
  obtain rfl : u = Value.ref a := rx
  obtain ⟨t1, ho⟩ := exo_at I1.hok ea
  obtain ⟨mA, hns, hr⟩ := exd_at I1.hok ed
  obtain ⟨od, hod, hl⟩ := lookIn_ns hns
  obtain ⟨u, hu, ru⟩ := RelO.some_of (v := v) (o := mA n) (by rw [← l]; exact hr n)
  have J : PySem.W.InstAt s1.heap a ({ cls := .ref C, dict := some dx, data := .fields #[.ref t1, .none, .none, .none, .bool false, .none] } : Obj) C (some od) := ⟨ho, rfl, rfl, hod⟩
  exact HandSPX.exc_get I1.kIn J T.ga T.gg T.exC (PySem.W.findObj_own T.hdC hno rfl (by rw [hl, hu])) (handed_of ru) ⟨v, H1, I1.tok _, ru, q⟩
theorem e_xf {n : Str} {ce : SE} {ns : List Str} (hall : ∀ c ∈ ns, XfC X.K (He.ga X.K c) ∧ PySem.W.findIn X.K (.ref (He.ga X.K c)) n = some none) (he : PE X e (rdE X.K P E ce)) (hb : attributeBase e n X.env (eval e X.env) = eval e X.env := by rfl) : PE X (.Attribute e n pos) (rdE X.K P E (eXf ns n ce)) :=
  pe_weak (pe_xfo he hb) fun σ H Q ⟨ρ, F, st, env, o, I, R, h, p⟩ => by
    refine rdE_bind I R h p fun v ρ1 F1 H1 x st1 t1 I1 R1 r1 h1 p1 => ?_
    split at h1
    · rename_i m
      split at h1
      · rename_i c fs hs
        split at h1
        · rename_i hc
          obtain ⟨d, h2, h3⟩ := Option.map_eq_some_iff.mp h1
          subst h3
          obtain ⟨a, rfl, ha, hob⟩ := I1.at_ r1 hs
          obtain ⟨hx, hno⟩ := hall c hc
          rcases hob with ⟨rfl, _⟩ | ⟨dx, ns, vs, ds, f1, f2, hl, hq, rfl⟩
          · cases h2
          · obtain ⟨w, h4, h5⟩ := zip_lookup hq hl h2
            exact ⟨a, _, dx, _, w, rfl, hx, hno, I1.ex _ _ f1, I1.ex _ _ f2, h4, p1 _ _ _ _ (Tr.refl ..) I1 h5⟩
        · cases h1
      · cases h1
    · cases h1
/-! ### its class -/
def rIsX (K : Kf) : List V → Hp → VK → Prop := fun xs H Q => ∃ (a C : Addr) (d : Option Addr) (c : V) (cv : Value) (b : Bool), xs = [.ref a, c] ∧ (∀ u, RelV c u → u = cv) ∧ ExcC K C ∧ H a = some (exo a C d) ∧ (∀ dx, d = some dx → ∃ fvs, H dx = some (exd dx fvs)) ∧ PySem.W.kitOne K (.ref C) cv = some b ∧ Q (.bl b) H
theorem call_isX : CallR X (.builtin "isinstance") (rIsX X.K) := by
  intro pins s σ H xs us Q I r h
  obtain ⟨a, C, d, c, cv, b, rfl, hcv, T, ea, ed, e, q⟩ := h
  cases r with
  | cons rx rr =>
    cases rr with
    | cons rt rr =>
      cases rr
      cases rx
      have ec := hcv _ rt
      subst ec
      obtain ⟨t1, ho⟩ := exo_at I.hok ea
      have J : ∃ od, PySem.W.InstAt s.heap a ({ cls := .ref C, dict := d, data := .fields #[.ref t1, .none, .none, .none, .bool false, .none] } : Obj) C od := by
        cases d with
        | none => exact ⟨none, ho, rfl, rfl, trivial⟩
        | some dx =>
          obtain ⟨fvs, hd⟩ := ed dx rfl
          obtain ⟨mA, hns, _⟩ := exd_at I.hok hd
          obtain ⟨od, hod, _⟩ := lookIn_ns hns
          exact ⟨some od, ho, rfl, rfl, hod⟩
      obtain ⟨od, J⟩ := J
      have hcl : (PySem.W.clsIn X.K C).isSome = true := by
        obtain ⟨cd, hc, _⟩ := PySem.W.any_some T.hd
        rw [hc]
        rfl
      exact PySem.W.kia_one (PySem.W.kitx_exc hcl T.hg T.hk T.hs T.ha T.hn T.ht T.hm) I.kIn J e (fun z => nomatch z) fun tk => ⟨.bl b, H, I.kept (t' := tk) fun _ _ z => z, rfl, q⟩
theorem e_xis {a b : Expr} {ca : SE} {cV : V} {cv : Value} {tb : List (Str × Bool)} (hcv : ∀ u, RelV cV u → u = cv) (hall : ∀ c b, tb.lookup c = some b → ExcC X.K (He.ga X.K c) ∧ PySem.W.kitOne X.K (.ref (He.ga X.K c)) cv = some b)
    (hg : Gl X "isinstance") (hm : X.mg "isinstance" = none) (ha : PE X a (rdE X.K P E ca)) (hb : PE X b (tC cV))
    (he : starEach [a, b] X.env = (false, eval a X.env) :: starEach [b] X.env := by rfl) (he2 : starEach [b] X.env = (false, eval b X.env) :: starEach [] X.env := by rfl) (hpl : (backTo pos (starEach [b] X.env)).any (·.1) = false := by rfl) :
    PE X (.Call (.Name "isinstance" p) [a, b] [] pos) (rdE X.K P E (eXis tb ca)) :=
  pe_weak (pe_callB call_isX hg hm (by decide +kernel) (pa_cons ha (pa_cons hb pa_nil he2) he) (by decide) (by decide) he hpl) fun σ H Q ⟨ρ, F, st, env, o, I, R, h, p⟩ => by
    refine rdE_bind I R h p fun v ρ1 F1 H1 x st1 t1 I1 R1 r1 h1 p1 => ?_
    split at h1
    · rename_i m
      split at h1
      · rename_i c fs hs
        obtain ⟨t, h2, h3⟩ := Option.map_eq_some_iff.mp h1
        subst h3
        obtain ⟨w, rfl, ha, hob⟩ := I1.at_ r1 hs
        obtain ⟨hx, hk⟩ := hall c t h2
        rcases hob with ⟨rfl, f1⟩ | ⟨dx, ns, vs, ds, f1, f2, hl, hq, rfl⟩
        · exact ⟨w, _, none, cV, cv, t, rfl, hcv, hx, I1.ex _ _ f1, (fun dx z => nomatch z), hk, p1 _ _ _ _ (Tr.refl ..) I1 (.bl _)⟩
        · exact ⟨w, _, some dx, cV, cv, t, rfl, hcv, hx, I1.ex _ _ f1, (fun dx' z => by cases z; exact ⟨_, I1.ex _ _ f2⟩), hk, p1 _ _ _ _ (Tr.refl ..) I1 (.bl _)⟩
      · cases h1
    · cases h1
end
/-! ### the bodies of __init__ behind super() -/
section
variable {K : Kf} {D : Addr} {N : List Str} {f1 f2 : Str}
theorem stF0 {a : Addr} {ys : List V} {ws : List (Option V)} : (startF N (.ref a :: ys) ws)[0]? = some (some (.ref a)) := rfl
theorem stF1 {a : Addr} {y : V} {ys : List V} {ws : List (Option V)} : (startF N (.ref a :: y :: ys) ws)[1]? = some (some y) := rfl
theorem stF2 {a : Addr} {y z : V} {ys : List V} {ws : List (Option V)} : (startF N (.ref a :: y :: z :: ys) ws)[2]? = some (some z) := rfl
theorem hq0 (a C : Addr) (ys : List V) (H : Hp) (Q : VK) (hl : ys.length = ([] : List Str).length) (_ : OexC K C) (_ : ∀ f ∈ ([] : List Str), PySem.W.findIn K (.ref C) f = some none) (_ : H a = some (exo a C none))
    (h : (([] : List Str) = [] ∧ Q .non H) ∨ (([] : List Str) ≠ [] ∧ ∀ dx H', H dx = none → dx ≠ a → H' a = some (exo a C (some dx)) → H' dx = some (exd dx ((([] : List Str)).zip ys).reverse) → (∀ b, b ≠ a → b ≠ dx → H' b = H b) → Q .non H')) :
    tNext { nx := fun _ H' => Q .non H', rt := Q } (startF N (.ref a :: ys) [some (.ref D)]) H := by
  rcases h with ⟨_, h⟩ | ⟨h, _⟩
  · exact h
  · exact absurd rfl h
theorem hq1 (a C : Addr) (ys : List V) (H : Hp) (Q : VK) (hl : ys.length = [f1].length) (O : OexC K C) (hno : ∀ f ∈ [f1], PySem.W.findIn K (.ref C) f = some none) (ea : H a = some (exo a C none))
    (h : ([f1] = [] ∧ Q .non H) ∨ ([f1] ≠ [] ∧ ∀ dx H', H dx = none → dx ≠ a → H' a = some (exo a C (some dx)) → H' dx = some (exd dx ([f1].zip ys).reverse) → (∀ b, b ≠ a → b ≠ dx → H' b = H b) → Q .non H')) :
    tOst K f1 (tVar 0) (tVar 1) { nx := fun _ H' => Q .non H', rt := Q } (startF N (.ref a :: ys) [some (.ref D)]) H := by
  match ys, hl with
  | [y], _ =>
    rcases h with ⟨h, _⟩ | ⟨_, h⟩
    · cases h
    · refine ⟨y, stF1, .ref a, stF0, a, C, rfl, O, hno f1 (by simp), .inl ⟨ea, fun dx d1 d2 => ?_⟩⟩
      refine h dx _ d1 d2 upd_same (by rw [upd_ne d2, upd_same]; rfl) fun b b1 b2 => by rw [upd_ne b1, upd_ne b2]
theorem hq2 (a C : Addr) (ys : List V) (H : Hp) (Q : VK) (hl : ys.length = [f1, f2].length) (O : OexC K C) (hno : ∀ f ∈ [f1, f2], PySem.W.findIn K (.ref C) f = some none) (ea : H a = some (exo a C none))
    (h : ([f1, f2] = [] ∧ Q .non H) ∨ ([f1, f2] ≠ [] ∧ ∀ dx H', H dx = none → dx ≠ a → H' a = some (exo a C (some dx)) → H' dx = some (exd dx ([f1, f2].zip ys).reverse) → (∀ b, b ≠ a → b ≠ dx → H' b = H b) → Q .non H')) :
    tSeq (tOst K f1 (tVar 0) (tVar 1)) (tOst K f2 (tVar 0) (tVar 2)) { nx := fun _ H' => Q .non H', rt := Q } (startF N (.ref a :: ys) [some (.ref D)]) H := by
  match ys, hl with
  | [y, z], _ =>
    rcases h with ⟨h, _⟩ | ⟨_, h⟩
    · cases h
    · refine ⟨y, stF1, .ref a, stF0, a, C, rfl, O, hno f1 (by simp), .inl ⟨ea, fun dx d1 d2 => ?_⟩⟩
      refine ⟨z, stF2, .ref a, stF0, a, C, rfl, O, hno f2 (by simp), .inr ⟨dx, [(f1, y)], upd_same, by rw [upd_ne d2, upd_same], by simp, ?_⟩⟩
      refine h dx _ d1 d2 (by rw [upd_ne (Ne.symm d2), upd_same]) (by rw [upd_same]; rfl) fun b b1 b2 => by rw [upd_ne b2, upd_ne b1, upd_ne b2]
end
end Sl
set_option Elab.async false
set_option linter.all false
set_option autoImplicit false
set_option maxRecDepth 100000
set_option maxHeartbeats 4000000
/-! own exceptions: the facts as tests, the Hook -/
namespace Sl
open PySem PySem.Spec PyProof.Rows L2 NdefX
/-- an own exception: its name, the class that says its __init__, its fields, all own classes that it is of -/
structure XCl where
  name : Str
  owner : Str
  fs : List Str
  anc : List Str
abbrev fIn (K : Kf) (o : Str) : Addr := He.ma K (He.ga K o) "__init__"
def oexB (K : Kf) (C : Addr) : Bool := (match K.lookup C with
  | some ⟨.type "type", _, .cls cd, sl⟩ => (match cd.mro, sl.toList with
    | .ref C' :: bm, [_, _, _, _, some (.builtin n), _] => C' == C && n == "ValueError.__new__" && !cd.hasDel && cd.hasDict && HandSPX.refsVE bm
    | _, _ => false)
  | _ => false) && (He.eqO (PySem.W.findIn K (.ref C) "__setattr__") (some (some (.builtin "object.__setattr__"))) && (decide (PySem.W.subIn K (.ref C) (.type "BaseException") = some true) && (decide (PySem.W.typeIn K (.ref C) = some (.type "type")) && PySem.W.keepIn K (.ref C))))
theorem oexB_ok {K : Kf} {C : Addr} (h : oexB K C = true) : OexC K C := by
  obtain ⟨q, h⟩ := He.ba h
  obtain ⟨h1, h⟩ := He.ba h
  obtain ⟨h2, h⟩ := He.ba h
  obtain ⟨h3, h4⟩ := He.ba h
  refine ⟨?_, He.eqO_ok h1, of_decide_eq_true h2, of_decide_eq_true h3, h4⟩
  split at q
  · rename_i dd cd sl ho
    split at q
    · rename_i C' bm k0 k1 k2 k3 n k5 hm hs
      simp only [Bool.and_eq_true, beq_iff_eq, Bool.not_eq_true'] at q
      obtain ⟨⟨⟨⟨rfl, rfl⟩, hdel⟩, hdc⟩, ht⟩ := q
      obtain ⟨nm, bs, mro, ns, qn, hd, sn, sub, ab, col, del⟩ := cd
      dsimp only at hm hdel hdc
      subst hm hdel hdc
      have hsl : sl = #[k0, k1, k2, k3, some (.builtin "ValueError.__new__"), k5] := by
        obtain ⟨l⟩ := sl
        simp only at hs
        rw [hs]
      subst hsl
      exact ⟨nm, qn, ns, bs, bm, sn, sub, ab, col, dd, k0, k1, k2, k3, k5, ho, ht⟩
    · cases q
  · cases q
def supB (K : Kf) (C D : Addr) : Bool := He.eqO (PySem.W.ks_superIn K C D "__init__") (some (some (.builtin "ValueError.__init__"))) && (decide (PySem.W.subIn K (.ref C) (.ref D) = some true) && (decide (PySem.W.subIn K (.ref C) (.type "ValueError") = some true) && (He.eqO (PySem.W.nsIn K cStatics "thirdparty.any") (some none) && (PySem.W.clsIn K D).isSome)))
theorem supB_ok {K : Kf} {C D : Addr} (h : supB K C D = true) : SupC K C D := by
  obtain ⟨h1, h⟩ := He.ba h
  obtain ⟨h2, h⟩ := He.ba h
  obtain ⟨h3, h⟩ := He.ba h
  obtain ⟨h4, h5⟩ := He.ba h
  exact ⟨He.eqO_ok h1, of_decide_eq_true h2, of_decide_eq_true h3, He.eqO_ok h4, h5⟩
def exmB (K : Kf) (x : XCl) : Bool := oexB K (He.ga K x.name) && (supB K (He.ga K x.name) (He.ga K x.owner) && (x.fs.all (fun f => He.eqO (PySem.W.findIn K (.ref (He.ga K x.name)) f) (some none)) && (He.eqO (PySem.W.findIn K (.ref (He.ga K x.name)) "__init__") (some (some (.ref (fIn K x.owner)))) && decide (PySem.W.typeIn K (.ref (fIn K x.owner)) = some (.type "function")))))
theorem exmB_ok {K : Kf} {x : XCl} (h : exmB K x = true) : ExmC K (He.ga K x.name) (He.ga K x.owner) (fIn K x.owner) x.fs := by
  obtain ⟨h1, h⟩ := He.ba h
  obtain ⟨h2, h⟩ := He.ba h
  obtain ⟨h3, h⟩ := He.ba h
  obtain ⟨h4, h5⟩ := He.ba h
  exact ⟨oexB_ok h1, supB_ok h2, fun f hf => He.eqO_ok (List.all_eq_true.mp h3 f hf), He.eqO_ok h4, of_decide_eq_true h5⟩
def excB (K : Kf) (D : Addr) : Bool := He.eqO (PySem.W.findIn K (.ref D) "__getattribute__") (some (some (.builtin "BaseException.__getattribute__"))) && (He.eqO (PySem.W.findIn K (.ref D) "__getattr__") (some none) && (decide (PySem.W.subIn K (.ref D) (.type "BaseException") = some true) && (PySem.W.hasDictIn K D && (He.eqO (PySem.W.findIn K (.ref D) "__class__") (some (some (.builtin "object.__class__"))) &&
  (He.eqO (PySem.W.specialIn K (.builtin "object.__class__") "__get__") (some (some (.builtin "getset_descriptor.__get__"))) && (decide (PySem.W.takesIn K (.builtin "object.__class__") = some true) && decide (PySem.W.mroIn K D (.type "object") = some true)))))))
theorem excB_ok {K : Kf} {D : Addr} (h : excB K D = true) : ExcC K D := by
  obtain ⟨h1, h⟩ := He.ba h
  obtain ⟨h2, h⟩ := He.ba h
  obtain ⟨h3, h⟩ := He.ba h
  obtain ⟨h4, h⟩ := He.ba h
  obtain ⟨h5, h⟩ := He.ba h
  obtain ⟨h6, h⟩ := He.ba h
  obtain ⟨h7, h8⟩ := He.ba h
  exact ⟨He.eqO_ok h1, He.eqO_ok h2, of_decide_eq_true h3, h4, He.eqO_ok h5, He.eqO_ok h6, of_decide_eq_true h7, of_decide_eq_true h8⟩
/-- all of a class; ts: the own classes asked for by isinstance; bt: the built-in ones (all say yes) -/
def XCl.ok (K : Kf) (ts : List Str) (bt : List String) (x : XCl) : Bool := exmB K x && (xfB K (He.ga K x.name) && (excB K (He.ga K x.name) && (ts.all (fun t => decide (PySem.W.kitOne K (.ref (He.ga K x.name)) (.ref (He.ga K t)) = some (x.anc.contains t))) && bt.all (fun t => decide (PySem.W.kitOne K (.ref (He.ga K x.name)) (.type t) = some true)))))
structure XClW (K : Kf) (ts : List Str) (bt : List String) (x : XCl) : Prop where
  m : ExmC K (He.ga K x.name) (He.ga K x.owner) (fIn K x.owner) x.fs
  f : XfC K (He.ga K x.name)
  e : ExcC K (He.ga K x.name)
  ki : ∀ t ∈ ts, PySem.W.kitOne K (.ref (He.ga K x.name)) (.ref (He.ga K t)) = some (x.anc.contains t)
  kb : ∀ t ∈ bt, PySem.W.kitOne K (.ref (He.ga K x.name)) (.type t) = some true
theorem XCl.w {K : Kf} {ts : List Str} {bt : List String} {x : XCl} (h : x.ok K ts bt = true) : XClW K ts bt x := by
  obtain ⟨h1, h⟩ := He.ba h
  obtain ⟨h2, h⟩ := He.ba h
  obtain ⟨h3, h⟩ := He.ba h
  obtain ⟨h4, h5⟩ := He.ba h
  exact ⟨exmB_ok h1, xfB_ok h2, excB_ok h3, fun t ht => of_decide_eq_true (List.all_eq_true.mp h4 t ht), fun t ht => of_decide_eq_true (List.all_eq_true.mp h5 t ht)⟩
/-- the classes that have the field f -/
def withF (xs : List XCl) (f : Str) : List Str := (xs.filter fun x => x.fs.contains f).map (·.name)
/-- isinstance(e, t) by the class of e -/
def isTab (xs : List XCl) (t : Str) : List (Str × Bool) := xs.map fun x => (x.name, x.anc.contains t)
def isTabB (xs : List XCl) : List (Str × Bool) := xs.map fun x => (x.name, true)
section
variable {K : Kf} {ts : List Str} {bt : List String} {xs : List XCl}
theorem withF_ok (h : ∀ x ∈ xs, XClW K ts bt x) {f : Str} : ∀ c ∈ withF xs f, XfC K (He.ga K c) ∧ PySem.W.findIn K (.ref (He.ga K c)) f = some none := fun c hc => by
  obtain ⟨x, hx, rfl⟩ := List.mem_map.mp hc
  obtain ⟨h1, h2⟩ := List.mem_filter.mp hx
  have w := h x h1
  exact ⟨w.f, w.m.no f (by simpa using h2)⟩
theorem look_map {β : Type} (g : XCl → β) : ∀ {xs : List XCl} {c : Str} {b : β}, (xs.map fun x => (x.name, g x)).lookup c = some b → ∃ x ∈ xs, x.name = c ∧ g x = b
  | [], _, _, h => by cases h
  | x :: xs, c, b, h => by
    rw [List.map_cons] at h
    by_cases hc : c = x.name
    · subst hc
      simp [List.lookup] at h
      exact ⟨x, List.mem_cons_self, rfl, h⟩
    · have e : (c == x.name) = false := by simpa using hc
      simp only [List.lookup, e] at h
      obtain ⟨y, h1, h2⟩ := look_map g h
      exact ⟨y, List.mem_cons_of_mem _ h1, h2⟩
theorem isTab_ok (h : ∀ x ∈ xs, XClW K ts bt x) {t : Str} (ht : t ∈ ts) : ∀ c b, (isTab xs t).lookup c = some b → ExcC K (He.ga K c) ∧ PySem.W.kitOne K (.ref (He.ga K c)) (.ref (He.ga K t)) = some b := fun c b e => by
  obtain ⟨x, hx, rfl, hb⟩ := look_map (fun x => x.anc.contains t) e
  have w := h x hx
  exact ⟨w.e, by rw [w.ki t ht, hb]⟩
theorem isTabB_ok (h : ∀ x ∈ xs, XClW K ts bt x) {t : String} (ht : t ∈ bt) : ∀ c b, (isTabB xs).lookup c = some b → ExcC K (He.ga K c) ∧ PySem.W.kitOne K (.ref (He.ga K c)) (.type t) = some b := fun c b e => by
  obtain ⟨x, hx, rfl, hb⟩ := look_map (fun _ => true) e
  have w := h x hx
  exact ⟨w.e, by rw [w.kb t ht, hb]⟩
end
/-! ### methods that say super() -/
/-- where it stands, its words; its cell's address, the class that the cell holds, the file of its code -/
structure XDef where
  at_ : Str × Option Str
  name : Str
  qual : Str
  params : Arguments
  body : List Stmt
  scope : Scope
  cell : Addr
  cls : Str
  file : Str
def XDef.val (d : XDef) : He.FnW := some (d.name, d.qual, d.params, .stmts d.body, d.scope, mainGlobals, [("__class__", d.cell)], builtinsNs)
def fileB (K : Kf) (v : Value) (file : Str) : Bool := match v with
  | .ref cc => (match K.lookup cc with
    | some ⟨_, _, Data.fields vs, _⟩ => (match (vs[2]? : Option Value) with
      | some (Value.str x _) => decide (x = file)
      | _ => false)
    | _ => false)
  | _ => false
def cellB (K : Kf) (c D : Addr) : Bool := match K.lookup c with
  | some ⟨_, _, .cell (some (.ref a)), _⟩ => decide (a = D)
  | _ => false
def XDef.ok (K : Kf) (d : XDef) : Bool := PySem.W.keepIn K (.ref (He.fAd K d.at_)) && (match K.lookup (He.fAd K d.at_) with
  | some ⟨_, _, .func fd, _⟩ => PySem.W.codeIn K fd.code d.qual && (decide (fd.defaults = .none) && (fileB K fd.code d.file && cellB K d.cell (He.ga K d.cls)))
  | _ => false)
theorem fileB_ok {K : Kf} {v : Value} {file : Str} (h : fileB K v file = true) : ∃ (cc : Addr) (oc : Obj) (vs : Array Value) (tf : Tok), v = .ref cc ∧ K.lookup cc = some oc ∧ oc.data = .fields vs ∧ vs[2]? = some (.str file tf) := by
  unfold fileB at h
  split at h
  · split at h
    · rename_i e
      split at h
      · rename_i x t e2
        have := of_decide_eq_true h
        subst this
        exact ⟨_, _, _, t, rfl, e, rfl, e2⟩
      · cases h
    · cases h
  · cases h
theorem cellB_ok {K : Kf} {c D : Addr} (h : cellB K c D = true) : ∃ o : Obj, K.lookup c = some o ∧ o.data = .cell (some (.ref D)) := by
  unfold cellB at h
  split at h
  · rename_i e
    have := of_decide_eq_true h
    subst this
    exact ⟨_, e, rfl⟩
  · cases h
theorem XDef.supF {K : Kf} {d : XDef} (e : He.fnW K d.at_ = d.val) (c : d.ok K = true) : ∃ cc fd, SupF K d.file d.name d.qual d.params d.body d.scope (He.ga K d.cls) (He.fAd K d.at_) cc fd := by
  obtain ⟨kp, c2⟩ := He.ba c
  unfold He.fnW at e
  cases q : K.lookup (He.fAd K d.at_) with
  | none =>
    rw [q] at c2
    cases c2
  | some o =>
    obtain ⟨oc, od, dt, osl⟩ := o
    rw [q] at c2 e
    cases dt with
    | func fd =>
      obtain ⟨n1, n2, n3, n4, n5, n6, n7, n8, n9, n10, n11, n12, n13, n14, n15⟩ := fd
      have e2 : (some (n1, n2, n3, n4, n5, n6, n7, n15) : He.FnW) = some (d.name, d.qual, d.params, FuncBody.stmts d.body, d.scope, mainGlobals, [(("__class__" : Str), d.cell)], builtinsNs) := e
      simp only [Option.some.injEq, Prod.mk.injEq] at e2
      obtain ⟨h1, h2, h3, h4, h5, h6, h7, h8⟩ := e2
      subst h1 h2 h3 h4 h5 h6 h7 h8
      have c3 : (PySem.W.codeIn K n13 d.qual && (decide (n8 = .none) && (fileB K n13 d.file && cellB K d.cell (He.ga K d.cls)))) = true := c2
      obtain ⟨k1, k2⟩ := He.ba c3
      obtain ⟨k3, k4⟩ := He.ba k2
      obtain ⟨k5, k6⟩ := He.ba k4
      have k3 := of_decide_eq_true k3
      subst k3
      obtain ⟨cc, occ, vs, tf, rfl, g1, g2, g3⟩ := fileB_ok k5
      obtain ⟨co, g4, g5⟩ := cellB_ok k6
      exact ⟨cc, _, ⟨oc, od, osl, d.cell, n9, n10, n11, n12, n14, co, rfl, q, g4, g5, k1⟩, occ, vs, tf, g1, g2, g3⟩
    | _ => cases c2
/-! ### the Hook -/
def obsZ (fa : List He.Fa) (fn : List He.DefD) (xd : List XDef) (tb : PySem.W.Frag → Bool) (K : PySem.W.Frag) : He.AlD := ((obsX fa fn tb K).1 && xd.all (fun d => d.ok K), (obsX fa fn tb K).2 ++ xd.map fun d => He.fnW K d.at_)
def valZ (fn : List He.DefD) (xd : List XDef) : He.AlD := (true, fn.map He.DefD.val ++ xd.map XDef.val)
def SaysZ (fa : List He.Fa) (fn : List He.DefD) (xd : List XDef) (tb : PySem.W.Frag → Bool) (K : PySem.W.Frag) : Prop := obsZ fa fn xd tb K = valZ fn xd
def obsZG (as : List Addr) (fa : List He.Fa) (fn : List He.DefD) (xd : List XDef) (tb : PySem.W.Frag → Bool) (g : Addr → Option Obj) : He.AlD := obsZ fa fn xd tb (He.frG g as)
def hookZ (as : List Addr) (fa : List He.Fa) (fn : List He.DefD) (xd : List XDef) (tb : PySem.W.Frag → Bool) : PySem.W.Hook where
  α := He.AlD
  obs := fun s => obsZG as fa fn xd tb s.heap.get?
  val := fun _ => valZ fn xd
  says := fun _ h => ∃ K : PySem.W.Frag, K.In h ∧ SaysZ fa fn xd tb K
  of := fun _ _ e => ⟨_, He.frG_in, e⟩
  keeps := fun _ _ _ ⟨K, hK, c⟩ k => ⟨K, PySem.W.Frag.In.keeps hK k, c⟩
theorem obsZG_eq {as : List Addr} {fa : List He.Fa} {fn : List He.DefD} {xd : List XDef} {tb : PySem.W.Frag → Bool} {g : Addr → Option Obj} {s : Shared} (h : ∀ a, g a = s.heap.get? a) : obsZG as fa fn xd tb g = (hookZ as fa fn xd tb).obs s := by
  have e : g = s.heap.get? := funext h
  rw [e] <;> rfl
section
variable {fa : List He.Fa} {fn : List He.DefD} {xd : List XDef} {tb : PySem.W.Frag → Bool} {K : PySem.W.Frag}
theorem SaysZ.two (c : SaysZ fa fn xd tb K) : (obsX fa fn tb K).2 = fn.map He.DefD.val ∧ (xd.map fun d => He.fnW K d.at_) = xd.map XDef.val := by
  have h : (obsX fa fn tb K).2 ++ (xd.map fun d => He.fnW K d.at_) = fn.map He.DefD.val ++ xd.map XDef.val := congrArg (fun z : He.AlD => z.2) c
  exact List.append_inj h (by show (fn.map fun d => He.fnW K d.at_).length = _; simp)
theorem SaysZ.x (c : SaysZ fa fn xd tb K) : SaysX fa fn tb K := by
  have h1 : ((obsX fa fn tb K).1 && xd.all (fun d => d.ok K)) = true := congrArg (fun z : He.AlD => z.1) c
  exact Prod.ext (He.ba h1).1 c.two.1
theorem SaysZ.sup (c : SaysZ fa fn xd tb K) (i : Nat) {d : XDef} (h : xd[i]? = some d := by rfl) : ∃ cc fd, SupF K d.file d.name d.qual d.params d.body d.scope (He.ga K d.cls) (He.fAd K d.at_) cc fd := by
  have h1 : ((obsX fa fn tb K).1 && xd.all (fun d => d.ok K)) = true := congrArg (fun z : He.AlD => z.1) c
  have h2 := List.all_eq_true.mp (He.ba h1).2 d (List.mem_of_getElem? h)
  have e2 : (xd.map fun d => He.fnW K d.at_)[i]? = (xd.map XDef.val)[i]? := by rw [c.two.2]
  rw [List.getElem?_map, List.getElem?_map, h] at e2
  exact XDef.supF (Option.some.inj e2) h2
end
end Sl
set_option Elab.async false
set_option linter.all false
set_option maxRecDepth 100000
set_option maxHeartbeats 0
namespace K83
open PySem PySem.Spec PyProof.Rows L2 Sl NdefX
def top (i : Nat) : Stmt := PySem.Challenge.pw_lastdoor_k83_errors_made.main.body.getD i (.Pass ⟨0, 0, 0, 0⟩)
def bodyK : Stmt → List Stmt
  | .ClassDef (body := b) .. => b
  | _ => []
abbrev s__law_source : Stmt := top 30
abbrev s__law_draw : Stmt := top 31
abbrev s__law_first_half : Stmt := top 32
abbrev s__law_second_half : Stmt := top 33
abbrev s__law_made : Stmt := top 34
abbrev s__law_fields_one : Stmt := top 35
abbrev s__law_fields_two : Stmt := top 36
abbrev s__law_fields : Stmt := top 37
abbrev s__law_due_one : Stmt := top 38
abbrev s__law_due : Stmt := top 39
abbrev s__law_kinds : Stmt := top 40
abbrev s__law_right : Stmt := top 41
abbrev s__law_number : Stmt := top 42
abbrev s_law : Stmt := top 43
abbrev P : Program := PySem.Challenge.pw_lastdoor_k83_errors_made
def XFILE : Str := "/claim/cut.py"
abbrev s_BadHouse___init__ : Stmt := (bodyK (top 2)).getD 0 (.Pass ⟨0, 0, 0, 0⟩)
abbrev s_TooMany___init__ : Stmt := (bodyK (top 3)).getD 0 (.Pass ⟨0, 0, 0, 0⟩)
abbrev s_NoRoom___init__ : Stmt := (bodyK (top 4)).getD 0 (.Pass ⟨0, 0, 0, 0⟩)
abbrev s_NoDoor___init__ : Stmt := (bodyK (top 5)).getD 0 (.Pass ⟨0, 0, 0, 0⟩)
abbrev s_BadRow___init__ : Stmt := (bodyK (top 6)).getD 0 (.Pass ⟨0, 0, 0, 0⟩)
abbrev s_NeverEntered___init__ : Stmt := (bodyK (top 7)).getD 0 (.Pass ⟨0, 0, 0, 0⟩)
abbrev s_NeverOpened___init__ : Stmt := (bodyK (top 8)).getD 0 (.Pass ⟨0, 0, 0, 0⟩)
abbrev s_NotReady___init__ : Stmt := (bodyK (top 9)).getD 0 (.Pass ⟨0, 0, 0, 0⟩)
abbrev s_NotWay___init__ : Stmt := (bodyK (top 10)).getD 0 (.Pass ⟨0, 0, 0, 0⟩)
abbrev s_NotPlay___init__ : Stmt := (bodyK (top 11)).getD 0 (.Pass ⟨0, 0, 0, 0⟩)
abbrev s_NoState___init__ : Stmt := (bodyK (top 12)).getD 0 (.Pass ⟨0, 0, 0, 0⟩)
abbrev s_NotPlain___init__ : Stmt := (bodyK (top 13)).getD 0 (.Pass ⟨0, 0, 0, 0⟩)
abbrev s_BadTable___init__ : Stmt := (bodyK (top 14)).getD 0 (.Pass ⟨0, 0, 0, 0⟩)
abbrev s_Cyclic___init__ : Stmt := (bodyK (top 15)).getD 0 (.Pass ⟨0, 0, 0, 0⟩)
abbrev s_BadRoute___init__ : Stmt := (bodyK (top 16)).getD 0 (.Pass ⟨0, 0, 0, 0⟩)
abbrev s_TooTight___init__ : Stmt := (bodyK (top 17)).getD 0 (.Pass ⟨0, 0, 0, 0⟩)
abbrev s_NoStory___init__ : Stmt := (bodyK (top 18)).getD 0 (.Pass ⟨0, 0, 0, 0⟩)
abbrev s_NothingBack___init__ : Stmt := (bodyK (top 19)).getD 0 (.Pass ⟨0, 0, 0, 0⟩)
abbrev s_NothingForth___init__ : Stmt := (bodyK (top 20)).getD 0 (.Pass ⟨0, 0, 0, 0⟩)
abbrev s_BadLog___init__ : Stmt := (bodyK (top 21)).getD 0 (.Pass ⟨0, 0, 0, 0⟩)
abbrev s_WrongPaper___init__ : Stmt := (bodyK (top 22)).getD 0 (.Pass ⟨0, 0, 0, 0⟩)
abbrev s_TextError___init__ : Stmt := (bodyK (top 23)).getD 0 (.Pass ⟨0, 0, 0, 0⟩)
def XCS : List XCl := [⟨Str.ofString "BadHouse", Str.ofString "BadHouse", [Str.ofString "part", Str.ofString "number"], [Str.ofString "BadHouse", Str.ofString "RiddleError"]⟩, ⟨Str.ofString "TooMany", Str.ofString "TooMany", [Str.ofString "limit"], [Str.ofString "TooMany", Str.ofString "RiddleError"]⟩, ⟨Str.ofString "NoRoom", Str.ofString "NoRoom", [Str.ofString "room"], [Str.ofString "NoRoom", Str.ofString "RiddleError"]⟩, ⟨Str.ofString "NoDoor", Str.ofString "NoDoor", [Str.ofString "door"], [Str.ofString "NoDoor", Str.ofString "RiddleError"]⟩, ⟨Str.ofString "BadRow", Str.ofString "BadRow", [Str.ofString "place"], [Str.ofString "BadRow", Str.ofString "RiddleError"]⟩, ⟨Str.ofString "NeverEntered", Str.ofString "NeverEntered", [Str.ofString "room"], [Str.ofString "NeverEntered", Str.ofString "RiddleError"]⟩, ⟨Str.ofString "NeverOpened", Str.ofString "NeverOpened", [Str.ofString "door"], [Str.ofString "NeverOpened", Str.ofString "RiddleError"]⟩, ⟨Str.ofString "NotReady", Str.ofString "NotReady", [Str.ofString "door", Str.ofString "kind"], [Str.ofString "NotReady", Str.ofString "RiddleError"]⟩, ⟨Str.ofString "NotWay", Str.ofString "NotWay", [Str.ofString "room"], [Str.ofString "NotWay", Str.ofString "RiddleError"]⟩, ⟨Str.ofString "NotPlay", Str.ofString "NotPlay", [], [Str.ofString "NotPlay", Str.ofString "RiddleError"]⟩, ⟨Str.ofString "NoState", Str.ofString "NoState", [Str.ofString "state"], [Str.ofString "NoState", Str.ofString "RiddleError"]⟩, ⟨Str.ofString "NotPlain", Str.ofString "NotPlain", [Str.ofString "part", Str.ofString "number"], [Str.ofString "NotPlain", Str.ofString "RiddleError"]⟩, ⟨Str.ofString "BadTable", Str.ofString "BadTable", [Str.ofString "task"], [Str.ofString "BadTable", Str.ofString "RiddleError"]⟩, ⟨Str.ofString "Cyclic", Str.ofString "Cyclic", [Str.ofString "task"], [Str.ofString "Cyclic", Str.ofString "RiddleError"]⟩, ⟨Str.ofString "BadRoute", Str.ofString "BadRoute", [Str.ofString "step"], [Str.ofString "BadRoute", Str.ofString "RiddleError"]⟩, ⟨Str.ofString "TooTight", Str.ofString "TooTight", [Str.ofString "gap"], [Str.ofString "TooTight", Str.ofString "RiddleError"]⟩, ⟨Str.ofString "NoStory", Str.ofString "NoStory", [Str.ofString "note"], [Str.ofString "NoStory", Str.ofString "RiddleError"]⟩, ⟨Str.ofString "NothingBack", Str.ofString "NothingBack", [], [Str.ofString "NothingBack", Str.ofString "RiddleError"]⟩, ⟨Str.ofString "NothingForth", Str.ofString "NothingForth", [], [Str.ofString "NothingForth", Str.ofString "RiddleError"]⟩, ⟨Str.ofString "BadLog", Str.ofString "BadLog", [Str.ofString "entry"], [Str.ofString "BadLog", Str.ofString "RiddleError"]⟩, ⟨Str.ofString "WrongPaper", Str.ofString "WrongPaper", [Str.ofString "place"], [Str.ofString "WrongPaper", Str.ofString "RiddleError"]⟩, ⟨Str.ofString "TextError", Str.ofString "TextError", [Str.ofString "line", Str.ofString "word"], [Str.ofString "TextError", Str.ofString "RiddleError"]⟩, ⟨Str.ofString "WrongWord", Str.ofString "TextError", [Str.ofString "line", Str.ofString "word"], [Str.ofString "WrongWord", Str.ofString "TextError", Str.ofString "RiddleError"]⟩, ⟨Str.ofString "WrongNumber", Str.ofString "TextError", [Str.ofString "line", Str.ofString "word"], [Str.ofString "WrongNumber", Str.ofString "TextError", Str.ofString "RiddleError"]⟩, ⟨Str.ofString "WrongTools", Str.ofString "TextError", [Str.ofString "line", Str.ofString "word"], [Str.ofString "WrongTools", Str.ofString "TextError", Str.ofString "RiddleError"]⟩, ⟨Str.ofString "WrongForm", Str.ofString "TextError", [Str.ofString "line", Str.ofString "word"], [Str.ofString "WrongForm", Str.ofString "TextError", Str.ofString "RiddleError"]⟩, ⟨Str.ofString "MissingLine", Str.ofString "TextError", [Str.ofString "line", Str.ofString "word"], [Str.ofString "MissingLine", Str.ofString "TextError", Str.ofString "RiddleError"]⟩]
def XTS : List Str := [Str.ofString "BadHouse", Str.ofString "BadLog", Str.ofString "BadRoute", Str.ofString "BadRow", Str.ofString "BadTable", Str.ofString "Cyclic", Str.ofString "MissingLine", Str.ofString "NeverEntered", Str.ofString "NeverOpened", Str.ofString "NoDoor", Str.ofString "NoRoom", Str.ofString "NoState", Str.ofString "NoStory", Str.ofString "NotPlain", Str.ofString "NotPlay", Str.ofString "NotReady", Str.ofString "NotWay", Str.ofString "NothingBack", Str.ofString "NothingForth", Str.ofString "RiddleError", Str.ofString "TextError", Str.ofString "TooMany", Str.ofString "TooTight", Str.ofString "WrongForm", Str.ofString "WrongNumber", Str.ofString "WrongPaper", Str.ofString "WrongTools", Str.ofString "WrongWord"]
def XBT : List String := ["ValueError"]
def dd__law_source : He.DefD := ⟨("_law_source", none), "_law_source", "_law_source", defArgs s__law_source, defBody s__law_source, defScope s__law_source, [], []⟩
def dd__law_draw : He.DefD := ⟨("_law_draw", none), "_law_draw", "_law_draw", defArgs s__law_draw, defBody s__law_draw, defScope s__law_draw, [], []⟩
def dd__law_first_half : He.DefD := ⟨("_law_first_half", none), "_law_first_half", "_law_first_half", defArgs s__law_first_half, defBody s__law_first_half, defScope s__law_first_half, [], []⟩
def dd__law_second_half : He.DefD := ⟨("_law_second_half", none), "_law_second_half", "_law_second_half", defArgs s__law_second_half, defBody s__law_second_half, defScope s__law_second_half, [], []⟩
def dd__law_made : He.DefD := ⟨("_law_made", none), "_law_made", "_law_made", defArgs s__law_made, defBody s__law_made, defScope s__law_made, [], []⟩
def dd__law_fields_one : He.DefD := ⟨("_law_fields_one", none), "_law_fields_one", "_law_fields_one", defArgs s__law_fields_one, defBody s__law_fields_one, defScope s__law_fields_one, [], []⟩
def dd__law_fields_two : He.DefD := ⟨("_law_fields_two", none), "_law_fields_two", "_law_fields_two", defArgs s__law_fields_two, defBody s__law_fields_two, defScope s__law_fields_two, [], []⟩
def dd__law_fields : He.DefD := ⟨("_law_fields", none), "_law_fields", "_law_fields", defArgs s__law_fields, defBody s__law_fields, defScope s__law_fields, [], []⟩
def dd__law_due_one : He.DefD := ⟨("_law_due_one", none), "_law_due_one", "_law_due_one", defArgs s__law_due_one, defBody s__law_due_one, defScope s__law_due_one, [], []⟩
def dd__law_due : He.DefD := ⟨("_law_due", none), "_law_due", "_law_due", defArgs s__law_due, defBody s__law_due, defScope s__law_due, [], []⟩
def dd__law_kinds : He.DefD := ⟨("_law_kinds", none), "_law_kinds", "_law_kinds", defArgs s__law_kinds, defBody s__law_kinds, defScope s__law_kinds, [], []⟩
def dd__law_right : He.DefD := ⟨("_law_right", none), "_law_right", "_law_right", defArgs s__law_right, defBody s__law_right, defScope s__law_right, [], []⟩
def dd__law_number : He.DefD := ⟨("_law_number", none), "_law_number", "_law_number", defArgs s__law_number, defBody s__law_number, defScope s__law_number, [], []⟩
def dd_law : He.DefD := ⟨("law", none), "law", "law", defArgs s_law, defBody s_law, defScope s_law, [], []⟩
def hFn0 : List He.DefD := [dd__law_source, dd__law_draw, dd__law_first_half, dd__law_second_half, dd__law_made, dd__law_fields_one, dd__law_fields_two, dd__law_fields, dd__law_due_one, dd__law_due, dd__law_kinds, dd__law_right, dd__law_number, dd_law]
def hFn : List He.DefD := hFn0
def hFa0 : List He.Fa := [.glo "_law_source", .glo "_law_draw", .glo "_law_first_half", .glo "_law_second_half", .glo "_law_made", .glo "_law_fields_one", .glo "_law_fields_two", .glo "_law_fields", .glo "_law_due_one", .glo "_law_due", .glo "_law_kinds", .glo "_law_right", .glo "_law_number", .glo "law", .glo "BadHouse", .glo "TooMany", .glo "NoRoom", .glo "NoDoor", .glo "BadRow", .glo "NeverEntered", .glo "NeverOpened", .glo "NotReady", .glo "NotWay", .glo "NotPlay", .glo "NoState", .glo "NotPlain", .glo "BadTable", .glo "Cyclic", .glo "BadRoute", .glo "TooTight"]
def hFa1 : List He.Fa := [.glo "NoStory", .glo "NothingBack", .glo "NothingForth", .glo "BadLog", .glo "WrongPaper", .glo "TextError", .glo "WrongWord", .glo "WrongNumber", .glo "WrongTools", .glo "WrongForm", .glo "MissingLine", .glo "RiddleError", .free "ValueError", .free "abs", .free "int", .free "isinstance", .free "len", .free "range", .free "super"]
def hFa : List He.Fa := hFa0 ++ hFa1
def hLo0 : List PySem.Str := ["RiddleError", "BadHouse", "TooMany", "NoRoom", "NoDoor", "BadRow", "NeverEntered", "NeverOpened", "NotReady", "NotWay", "NotPlay", "NoState", "NotPlain", "BadTable", "Cyclic", "BadRoute", "TooTight", "NoStory", "NothingBack", "NothingForth", "BadLog", "WrongPaper", "TextError", "WrongWord", "WrongNumber", "WrongTools", "WrongForm", "MissingLine", "_law_source", "_law_draw"]
def hLo1 : List PySem.Str := ["_law_first_half", "_law_second_half", "_law_made", "_law_fields_one", "_law_fields_two", "_law_fields", "_law_due_one", "_law_due", "_law_kinds", "_law_right", "_law_number"]
def hLo : List PySem.Str := hLo0 ++ hLo1
def xd_BadHouse : XDef := ⟨("BadHouse", some "__init__"), "__init__", "BadHouse.__init__", defArgs s_BadHouse___init__, defBody s_BadHouse___init__, defScope s_BadHouse___init__, 31, "BadHouse", XFILE⟩
def xd_TooMany : XDef := ⟨("TooMany", some "__init__"), "__init__", "TooMany.__init__", defArgs s_TooMany___init__, defBody s_TooMany___init__, defScope s_TooMany___init__, 52, "TooMany", XFILE⟩
def xd_NoRoom : XDef := ⟨("NoRoom", some "__init__"), "__init__", "NoRoom.__init__", defArgs s_NoRoom___init__, defBody s_NoRoom___init__, defScope s_NoRoom___init__, 73, "NoRoom", XFILE⟩
def xd_NoDoor : XDef := ⟨("NoDoor", some "__init__"), "__init__", "NoDoor.__init__", defArgs s_NoDoor___init__, defBody s_NoDoor___init__, defScope s_NoDoor___init__, 94, "NoDoor", XFILE⟩
def xd_BadRow : XDef := ⟨("BadRow", some "__init__"), "__init__", "BadRow.__init__", defArgs s_BadRow___init__, defBody s_BadRow___init__, defScope s_BadRow___init__, 115, "BadRow", XFILE⟩
def xd_NeverEntered : XDef := ⟨("NeverEntered", some "__init__"), "__init__", "NeverEntered.__init__", defArgs s_NeverEntered___init__, defBody s_NeverEntered___init__, defScope s_NeverEntered___init__, 136, "NeverEntered", XFILE⟩
def xd_NeverOpened : XDef := ⟨("NeverOpened", some "__init__"), "__init__", "NeverOpened.__init__", defArgs s_NeverOpened___init__, defBody s_NeverOpened___init__, defScope s_NeverOpened___init__, 157, "NeverOpened", XFILE⟩
def xd_NotReady : XDef := ⟨("NotReady", some "__init__"), "__init__", "NotReady.__init__", defArgs s_NotReady___init__, defBody s_NotReady___init__, defScope s_NotReady___init__, 178, "NotReady", XFILE⟩
def xd_NotWay : XDef := ⟨("NotWay", some "__init__"), "__init__", "NotWay.__init__", defArgs s_NotWay___init__, defBody s_NotWay___init__, defScope s_NotWay___init__, 199, "NotWay", XFILE⟩
def xd_NotPlay : XDef := ⟨("NotPlay", some "__init__"), "__init__", "NotPlay.__init__", defArgs s_NotPlay___init__, defBody s_NotPlay___init__, defScope s_NotPlay___init__, 220, "NotPlay", XFILE⟩
def xd_NoState : XDef := ⟨("NoState", some "__init__"), "__init__", "NoState.__init__", defArgs s_NoState___init__, defBody s_NoState___init__, defScope s_NoState___init__, 241, "NoState", XFILE⟩
def xd_NotPlain : XDef := ⟨("NotPlain", some "__init__"), "__init__", "NotPlain.__init__", defArgs s_NotPlain___init__, defBody s_NotPlain___init__, defScope s_NotPlain___init__, 262, "NotPlain", XFILE⟩
def xd_BadTable : XDef := ⟨("BadTable", some "__init__"), "__init__", "BadTable.__init__", defArgs s_BadTable___init__, defBody s_BadTable___init__, defScope s_BadTable___init__, 283, "BadTable", XFILE⟩
def xd_Cyclic : XDef := ⟨("Cyclic", some "__init__"), "__init__", "Cyclic.__init__", defArgs s_Cyclic___init__, defBody s_Cyclic___init__, defScope s_Cyclic___init__, 304, "Cyclic", XFILE⟩
def xd_BadRoute : XDef := ⟨("BadRoute", some "__init__"), "__init__", "BadRoute.__init__", defArgs s_BadRoute___init__, defBody s_BadRoute___init__, defScope s_BadRoute___init__, 325, "BadRoute", XFILE⟩
def xd_TooTight : XDef := ⟨("TooTight", some "__init__"), "__init__", "TooTight.__init__", defArgs s_TooTight___init__, defBody s_TooTight___init__, defScope s_TooTight___init__, 346, "TooTight", XFILE⟩
def xd_NoStory : XDef := ⟨("NoStory", some "__init__"), "__init__", "NoStory.__init__", defArgs s_NoStory___init__, defBody s_NoStory___init__, defScope s_NoStory___init__, 367, "NoStory", XFILE⟩
def xd_NothingBack : XDef := ⟨("NothingBack", some "__init__"), "__init__", "NothingBack.__init__", defArgs s_NothingBack___init__, defBody s_NothingBack___init__, defScope s_NothingBack___init__, 388, "NothingBack", XFILE⟩
def xd_NothingForth : XDef := ⟨("NothingForth", some "__init__"), "__init__", "NothingForth.__init__", defArgs s_NothingForth___init__, defBody s_NothingForth___init__, defScope s_NothingForth___init__, 409, "NothingForth", XFILE⟩
def xd_BadLog : XDef := ⟨("BadLog", some "__init__"), "__init__", "BadLog.__init__", defArgs s_BadLog___init__, defBody s_BadLog___init__, defScope s_BadLog___init__, 430, "BadLog", XFILE⟩
def xd_WrongPaper : XDef := ⟨("WrongPaper", some "__init__"), "__init__", "WrongPaper.__init__", defArgs s_WrongPaper___init__, defBody s_WrongPaper___init__, defScope s_WrongPaper___init__, 451, "WrongPaper", XFILE⟩
def xd_TextError : XDef := ⟨("TextError", some "__init__"), "__init__", "TextError.__init__", defArgs s_TextError___init__, defBody s_TextError___init__, defScope s_TextError___init__, 472, "TextError", XFILE⟩
def hXd0 : List XDef := [xd_BadHouse, xd_TooMany, xd_NoRoom, xd_NoDoor, xd_BadRow, xd_NeverEntered, xd_NeverOpened, xd_NotReady, xd_NotWay, xd_NotPlay, xd_NoState, xd_NotPlain, xd_BadTable, xd_Cyclic, xd_BadRoute, xd_TooTight, xd_NoStory, xd_NothingBack, xd_NothingForth, xd_BadLog, xd_WrongPaper, xd_TextError]
def hXd : List XDef := hXd0
def hTb : PySem.W.Frag → Bool := fun K => XCS.all (fun x => x.ok K XTS XBT)
def hAs0 : List Addr := [3, 2, 556, 563, 570, 577, 584, 591, 598, 605, 612, 619, 626, 633, 640, 647, 46, 67, 88, 109, 130, 151, 172, 193, 214, 235, 256, 277, 298, 319]
def hAs1 : List Addr := [340, 361, 382, 403, 424, 445, 466, 487, 499, 511, 523, 535, 547, 24, 43, 64, 85, 106, 127, 148, 169, 190, 211, 232, 253, 274, 295, 316, 337, 358]
def hAs2 : List Addr := [379, 400, 421, 442, 463, 484, 555, 562, 569, 576, 583, 590, 597, 604, 611, 618, 625, 632, 639, 646, 45, 66, 87, 108, 129, 150, 171, 192, 213, 234]
def hAs3 : List Addr := [255, 276, 297, 318, 339, 360, 381, 402, 423, 444, 465, 486, 498, 510, 522, 534, 546, 23, 42, 31, 63, 52, 84, 73, 105, 94, 126, 115, 147, 136]
def hAs4 : List Addr := [168, 157, 189, 178, 210, 199, 231, 220, 252, 241, 273, 262, 294, 283, 315, 304, 336, 325, 357, 346, 378, 367, 399, 388, 420, 409, 441, 430, 462, 451]
def hAs5 : List Addr := [483, 472]
def hAs : List Addr := hAs0 ++ hAs1 ++ hAs2 ++ hAs3 ++ hAs4 ++ hAs5
abbrev R_ : PySem.W.OpenRow := PySem.W.OpenLaw.row PySem.Challenge.rw_lastdoor_k83_errors_made
abbrev hk_ : PySem.W.Hook := hookZ hAs hFa hFn hXd hTb
def ob_ (s : PySem.W.SharedT) : He.AlD := obsZG hAs hFa hFn hXd hTb (HandSHeadRun.getT s)
theorem ob_eq (s : PySem.W.SharedT) : ob_ s = hk_.obs s.abs := obsZG_eq (HandSHeadRun.getT_eq s)

end K83
set_option Elab.async false
set_option linter.all false
set_option autoImplicit false
set_option maxRecDepth 100000
set_option maxHeartbeats 4000000
namespace K83
open PySem PySem.Spec PyProof.Rows L2 Sl NdefX

abbrev XE0 : XK := fun _ _ _ => False
theorem pass00 {X : Cx} {E : XK} : Passes CX0 X E := fun _ _ _ _ _ _ _ h => h.elim
abbrev NN__law_source : List Str := ["script", "k", "cell"]
theorem sc__law_source : FnScope ["script", "k", "cell"] ["script", "k"] (defScope s__law_source) := ⟨rfl, rfl, rfl, by decide +kernel, rfl, by decide +kernel, by decide +kernel⟩
abbrev NN__law_draw : List Str := ["source", "limit", "value"]
theorem sc__law_draw : FnScope ["source", "limit", "value"] ["source", "limit"] (defScope s__law_draw) := ⟨rfl, rfl, rfl, by decide +kernel, rfl, by decide +kernel, by decide +kernel⟩
abbrev NN__law_first_half : List Str := ["which", "first", "second", "word"]
theorem sc__law_first_half : FnScope ["which", "first", "second", "word"] ["which", "first", "second", "word"] (defScope s__law_first_half) := ⟨rfl, rfl, rfl, by decide +kernel, rfl, by decide +kernel, by decide +kernel⟩
abbrev NN__law_second_half : List Str := ["which", "first", "second"]
theorem sc__law_second_half : FnScope ["which", "first", "second"] ["which", "first", "second"] (defScope s__law_second_half) := ⟨rfl, rfl, rfl, by decide +kernel, rfl, by decide +kernel, by decide +kernel⟩
abbrev NN__law_made : List Str := ["which", "first", "second", "word"]
theorem sc__law_made : FnScope ["which", "first", "second", "word"] ["which", "first", "second", "word"] (defScope s__law_made) := ⟨rfl, rfl, rfl, by decide +kernel, rfl, by decide +kernel, by decide +kernel⟩
abbrev NN__law_fields_one : List Str := ["which", "error"]
theorem sc__law_fields_one : FnScope ["which", "error"] ["which", "error"] (defScope s__law_fields_one) := ⟨rfl, rfl, rfl, by decide +kernel, rfl, by decide +kernel, by decide +kernel⟩
abbrev NN__law_fields_two : List Str := ["which", "error"]
theorem sc__law_fields_two : FnScope ["which", "error"] ["which", "error"] (defScope s__law_fields_two) := ⟨rfl, rfl, rfl, by decide +kernel, rfl, by decide +kernel, by decide +kernel⟩
abbrev NN__law_fields : List Str := ["which", "error"]
theorem sc__law_fields : FnScope ["which", "error"] ["which", "error"] (defScope s__law_fields) := ⟨rfl, rfl, rfl, by decide +kernel, rfl, by decide +kernel, by decide +kernel⟩
abbrev NN__law_due_one : List Str := ["which", "first", "second", "word"]
theorem sc__law_due_one : FnScope ["which", "first", "second", "word"] ["which", "first", "second", "word"] (defScope s__law_due_one) := ⟨rfl, rfl, rfl, by decide +kernel, rfl, by decide +kernel, by decide +kernel⟩
abbrev NN__law_due : List Str := ["which", "first", "second", "word"]
theorem sc__law_due : FnScope ["which", "first", "second", "word"] ["which", "first", "second", "word"] (defScope s__law_due) := ⟨rfl, rfl, rfl, by decide +kernel, rfl, by decide +kernel, by decide +kernel⟩
abbrev NN__law_kinds : List Str := ["error", "kinds"]
theorem sc__law_kinds : FnScope ["error", "kinds"] ["error"] (defScope s__law_kinds) := ⟨rfl, rfl, rfl, by decide +kernel, rfl, by decide +kernel, by decide +kernel⟩
abbrev NN__law_right : List Str := ["which", "error", "first", "second", "word", "kinds", "k", "due"]
theorem sc__law_right : FnScope ["which", "error", "first", "second", "word", "kinds", "k", "due"] ["which", "error", "first", "second", "word"] (defScope s__law_right) := ⟨rfl, rfl, rfl, by decide +kernel, rfl, by decide +kernel, by decide +kernel⟩
abbrev NN__law_number : List Str := ["source", "number"]
theorem sc__law_number : FnScope ["source", "number"] ["source"] (defScope s__law_number) := ⟨rfl, rfl, rfl, by decide +kernel, rfl, by decide +kernel, by decide +kernel⟩
abbrev NN_law : List Str := ["script", "words", "which", "source", "first", "second", "word", "error", "other"]
theorem sc_law : FnScope ["script", "words", "which", "source", "first", "second", "word", "error", "other"] ["script"] (defScope s_law) := ⟨rfl, rfl, rfl, by decide +kernel, rfl, by decide +kernel, by decide +kernel⟩
theorem hfileP : ((P.main.file : Str) == XFILE) = true := by kernel_rfl
theorem htopP : (P.main.scope.names.lookup ("super" : Str)).isSome = false := by kernel_rfl
/-! ### what the top leaves -/
structure Wd (K : PySem.W.Frag) (mg : Str → Option Value) : Prop where
  g__law_source : mg "_law_source" = some (.ref (He.ga K "_law_source"))
  g__law_draw : mg "_law_draw" = some (.ref (He.ga K "_law_draw"))
  g__law_first_half : mg "_law_first_half" = some (.ref (He.ga K "_law_first_half"))
  g__law_second_half : mg "_law_second_half" = some (.ref (He.ga K "_law_second_half"))
  g__law_made : mg "_law_made" = some (.ref (He.ga K "_law_made"))
  g__law_fields_one : mg "_law_fields_one" = some (.ref (He.ga K "_law_fields_one"))
  g__law_fields_two : mg "_law_fields_two" = some (.ref (He.ga K "_law_fields_two"))
  g__law_fields : mg "_law_fields" = some (.ref (He.ga K "_law_fields"))
  g__law_due_one : mg "_law_due_one" = some (.ref (He.ga K "_law_due_one"))
  g__law_due : mg "_law_due" = some (.ref (He.ga K "_law_due"))
  g__law_kinds : mg "_law_kinds" = some (.ref (He.ga K "_law_kinds"))
  g__law_right : mg "_law_right" = some (.ref (He.ga K "_law_right"))
  g__law_number : mg "_law_number" = some (.ref (He.ga K "_law_number"))
  g_law : mg "law" = some (.ref (He.ga K "law"))
  x_all : ∀ x ∈ XCS, XClW K XTS XBT x
  k_BadHouse : mg "BadHouse" = some (.ref (He.ga K "BadHouse"))
  k_TooMany : mg "TooMany" = some (.ref (He.ga K "TooMany"))
  k_NoRoom : mg "NoRoom" = some (.ref (He.ga K "NoRoom"))
  k_NoDoor : mg "NoDoor" = some (.ref (He.ga K "NoDoor"))
  k_BadRow : mg "BadRow" = some (.ref (He.ga K "BadRow"))
  k_NeverEntered : mg "NeverEntered" = some (.ref (He.ga K "NeverEntered"))
  k_NeverOpened : mg "NeverOpened" = some (.ref (He.ga K "NeverOpened"))
  k_NotReady : mg "NotReady" = some (.ref (He.ga K "NotReady"))
  k_NotWay : mg "NotWay" = some (.ref (He.ga K "NotWay"))
  k_NotPlay : mg "NotPlay" = some (.ref (He.ga K "NotPlay"))
  k_NoState : mg "NoState" = some (.ref (He.ga K "NoState"))
  k_NotPlain : mg "NotPlain" = some (.ref (He.ga K "NotPlain"))
  k_BadTable : mg "BadTable" = some (.ref (He.ga K "BadTable"))
  k_Cyclic : mg "Cyclic" = some (.ref (He.ga K "Cyclic"))
  k_BadRoute : mg "BadRoute" = some (.ref (He.ga K "BadRoute"))
  k_TooTight : mg "TooTight" = some (.ref (He.ga K "TooTight"))
  k_NoStory : mg "NoStory" = some (.ref (He.ga K "NoStory"))
  k_NothingBack : mg "NothingBack" = some (.ref (He.ga K "NothingBack"))
  k_NothingForth : mg "NothingForth" = some (.ref (He.ga K "NothingForth"))
  k_BadLog : mg "BadLog" = some (.ref (He.ga K "BadLog"))
  k_WrongPaper : mg "WrongPaper" = some (.ref (He.ga K "WrongPaper"))
  k_TextError : mg "TextError" = some (.ref (He.ga K "TextError"))
  k_WrongWord : mg "WrongWord" = some (.ref (He.ga K "WrongWord"))
  k_WrongNumber : mg "WrongNumber" = some (.ref (He.ga K "WrongNumber"))
  k_WrongTools : mg "WrongTools" = some (.ref (He.ga K "WrongTools"))
  k_WrongForm : mg "WrongForm" = some (.ref (He.ga K "WrongForm"))
  k_MissingLine : mg "MissingLine" = some (.ref (He.ga K "MissingLine"))
  k_RiddleError : mg "RiddleError" = some (.ref (He.ga K "RiddleError"))
  xi_BadHouse : ∃ cc fd, SupF K XFILE "__init__" "BadHouse.__init__" (defArgs s_BadHouse___init__) (defBody s_BadHouse___init__) (defScope s_BadHouse___init__) (He.ga K "BadHouse") (fIn K "BadHouse") cc fd
  xi_TooMany : ∃ cc fd, SupF K XFILE "__init__" "TooMany.__init__" (defArgs s_TooMany___init__) (defBody s_TooMany___init__) (defScope s_TooMany___init__) (He.ga K "TooMany") (fIn K "TooMany") cc fd
  xi_NoRoom : ∃ cc fd, SupF K XFILE "__init__" "NoRoom.__init__" (defArgs s_NoRoom___init__) (defBody s_NoRoom___init__) (defScope s_NoRoom___init__) (He.ga K "NoRoom") (fIn K "NoRoom") cc fd
  xi_NoDoor : ∃ cc fd, SupF K XFILE "__init__" "NoDoor.__init__" (defArgs s_NoDoor___init__) (defBody s_NoDoor___init__) (defScope s_NoDoor___init__) (He.ga K "NoDoor") (fIn K "NoDoor") cc fd
  xi_BadRow : ∃ cc fd, SupF K XFILE "__init__" "BadRow.__init__" (defArgs s_BadRow___init__) (defBody s_BadRow___init__) (defScope s_BadRow___init__) (He.ga K "BadRow") (fIn K "BadRow") cc fd
  xi_NeverEntered : ∃ cc fd, SupF K XFILE "__init__" "NeverEntered.__init__" (defArgs s_NeverEntered___init__) (defBody s_NeverEntered___init__) (defScope s_NeverEntered___init__) (He.ga K "NeverEntered") (fIn K "NeverEntered") cc fd
  xi_NeverOpened : ∃ cc fd, SupF K XFILE "__init__" "NeverOpened.__init__" (defArgs s_NeverOpened___init__) (defBody s_NeverOpened___init__) (defScope s_NeverOpened___init__) (He.ga K "NeverOpened") (fIn K "NeverOpened") cc fd
  xi_NotReady : ∃ cc fd, SupF K XFILE "__init__" "NotReady.__init__" (defArgs s_NotReady___init__) (defBody s_NotReady___init__) (defScope s_NotReady___init__) (He.ga K "NotReady") (fIn K "NotReady") cc fd
  xi_NotWay : ∃ cc fd, SupF K XFILE "__init__" "NotWay.__init__" (defArgs s_NotWay___init__) (defBody s_NotWay___init__) (defScope s_NotWay___init__) (He.ga K "NotWay") (fIn K "NotWay") cc fd
  xi_NotPlay : ∃ cc fd, SupF K XFILE "__init__" "NotPlay.__init__" (defArgs s_NotPlay___init__) (defBody s_NotPlay___init__) (defScope s_NotPlay___init__) (He.ga K "NotPlay") (fIn K "NotPlay") cc fd
  xi_NoState : ∃ cc fd, SupF K XFILE "__init__" "NoState.__init__" (defArgs s_NoState___init__) (defBody s_NoState___init__) (defScope s_NoState___init__) (He.ga K "NoState") (fIn K "NoState") cc fd
  xi_NotPlain : ∃ cc fd, SupF K XFILE "__init__" "NotPlain.__init__" (defArgs s_NotPlain___init__) (defBody s_NotPlain___init__) (defScope s_NotPlain___init__) (He.ga K "NotPlain") (fIn K "NotPlain") cc fd
  xi_BadTable : ∃ cc fd, SupF K XFILE "__init__" "BadTable.__init__" (defArgs s_BadTable___init__) (defBody s_BadTable___init__) (defScope s_BadTable___init__) (He.ga K "BadTable") (fIn K "BadTable") cc fd
  xi_Cyclic : ∃ cc fd, SupF K XFILE "__init__" "Cyclic.__init__" (defArgs s_Cyclic___init__) (defBody s_Cyclic___init__) (defScope s_Cyclic___init__) (He.ga K "Cyclic") (fIn K "Cyclic") cc fd
  xi_BadRoute : ∃ cc fd, SupF K XFILE "__init__" "BadRoute.__init__" (defArgs s_BadRoute___init__) (defBody s_BadRoute___init__) (defScope s_BadRoute___init__) (He.ga K "BadRoute") (fIn K "BadRoute") cc fd
  xi_TooTight : ∃ cc fd, SupF K XFILE "__init__" "TooTight.__init__" (defArgs s_TooTight___init__) (defBody s_TooTight___init__) (defScope s_TooTight___init__) (He.ga K "TooTight") (fIn K "TooTight") cc fd
  xi_NoStory : ∃ cc fd, SupF K XFILE "__init__" "NoStory.__init__" (defArgs s_NoStory___init__) (defBody s_NoStory___init__) (defScope s_NoStory___init__) (He.ga K "NoStory") (fIn K "NoStory") cc fd
  xi_NothingBack : ∃ cc fd, SupF K XFILE "__init__" "NothingBack.__init__" (defArgs s_NothingBack___init__) (defBody s_NothingBack___init__) (defScope s_NothingBack___init__) (He.ga K "NothingBack") (fIn K "NothingBack") cc fd
  xi_NothingForth : ∃ cc fd, SupF K XFILE "__init__" "NothingForth.__init__" (defArgs s_NothingForth___init__) (defBody s_NothingForth___init__) (defScope s_NothingForth___init__) (He.ga K "NothingForth") (fIn K "NothingForth") cc fd
  xi_BadLog : ∃ cc fd, SupF K XFILE "__init__" "BadLog.__init__" (defArgs s_BadLog___init__) (defBody s_BadLog___init__) (defScope s_BadLog___init__) (He.ga K "BadLog") (fIn K "BadLog") cc fd
  xi_WrongPaper : ∃ cc fd, SupF K XFILE "__init__" "WrongPaper.__init__" (defArgs s_WrongPaper___init__) (defBody s_WrongPaper___init__) (defScope s_WrongPaper___init__) (He.ga K "WrongPaper") (fIn K "WrongPaper") cc fd
  xi_TextError : ∃ cc fd, SupF K XFILE "__init__" "TextError.__init__" (defArgs s_TextError___init__) (defBody s_TextError___init__) (defScope s_TextError___init__) (He.ga K "TextError") (fIn K "TextError") cc fd
  d__law_source : ∃ fd, FunD K "_law_source" "_law_source" (defArgs s__law_source) (defBody s__law_source) (defScope s__law_source) [] [] (He.ga K "_law_source") fd
  d__law_draw : ∃ fd, FunD K "_law_draw" "_law_draw" (defArgs s__law_draw) (defBody s__law_draw) (defScope s__law_draw) [] [] (He.ga K "_law_draw") fd
  d__law_first_half : ∃ fd, FunD K "_law_first_half" "_law_first_half" (defArgs s__law_first_half) (defBody s__law_first_half) (defScope s__law_first_half) [] [] (He.ga K "_law_first_half") fd
  d__law_second_half : ∃ fd, FunD K "_law_second_half" "_law_second_half" (defArgs s__law_second_half) (defBody s__law_second_half) (defScope s__law_second_half) [] [] (He.ga K "_law_second_half") fd
  d__law_made : ∃ fd, FunD K "_law_made" "_law_made" (defArgs s__law_made) (defBody s__law_made) (defScope s__law_made) [] [] (He.ga K "_law_made") fd
  d__law_fields_one : ∃ fd, FunD K "_law_fields_one" "_law_fields_one" (defArgs s__law_fields_one) (defBody s__law_fields_one) (defScope s__law_fields_one) [] [] (He.ga K "_law_fields_one") fd
  d__law_fields_two : ∃ fd, FunD K "_law_fields_two" "_law_fields_two" (defArgs s__law_fields_two) (defBody s__law_fields_two) (defScope s__law_fields_two) [] [] (He.ga K "_law_fields_two") fd
  d__law_fields : ∃ fd, FunD K "_law_fields" "_law_fields" (defArgs s__law_fields) (defBody s__law_fields) (defScope s__law_fields) [] [] (He.ga K "_law_fields") fd
  d__law_due_one : ∃ fd, FunD K "_law_due_one" "_law_due_one" (defArgs s__law_due_one) (defBody s__law_due_one) (defScope s__law_due_one) [] [] (He.ga K "_law_due_one") fd
  d__law_due : ∃ fd, FunD K "_law_due" "_law_due" (defArgs s__law_due) (defBody s__law_due) (defScope s__law_due) [] [] (He.ga K "_law_due") fd
  d__law_kinds : ∃ fd, FunD K "_law_kinds" "_law_kinds" (defArgs s__law_kinds) (defBody s__law_kinds) (defScope s__law_kinds) [] [] (He.ga K "_law_kinds") fd
  d__law_right : ∃ fd, FunD K "_law_right" "_law_right" (defArgs s__law_right) (defBody s__law_right) (defScope s__law_right) [] [] (He.ga K "_law_right") fd
  d__law_number : ∃ fd, FunD K "_law_number" "_law_number" (defArgs s__law_number) (defBody s__law_number) (defScope s__law_number) [] [] (He.ga K "_law_number") fd
  d_law : ∃ fd, FunD K "law" "law" (defArgs s_law) (defBody s_law) (defScope s_law) [] [] (He.ga K "law") fd
  b_ValueError : mg "ValueError" = none
  b_abs : mg "abs" = none
  b_int : mg "int" = none
  b_isinstance : mg "isinstance" = none
  b_len : mg "len" = none
  b_range : mg "range" = none
  b_super : mg "super" = none
/-! ### _law_source -/
noncomputable def c__law_source : SS := (sSeq (sAsg (eC (.int 0)) (gN 2)) (sSeq (sIf (eOp oLt (eVar 1) (eCB cLen (aCons (eVar 0) aNil))) (sAsg (eCB cAbs (aCons (eOp oIx (eVar 0) (eVar 1)) aNil)) (gN 2)) sNx) (sRet (eLst mkN (aCons (eVar 2) (aCons (eOp oMod (eCB cInt (aCons (eOp (oAdd mkD) (eOp (oAdd mkD) (eOp oMul (eVar 2) (eC (.int 48271))) (eC (.int 1013904223))) (eOp oMul (eVar 1) (eC (.int 69621)))) aNil)) (eC (.int 2147483647))) aNil))))))
noncomputable def m__law_source : Fn := runFn 3 c__law_source
/-! ### _law_draw -/
noncomputable def c__law_draw : SS := (sSeq (sIf (eOp oGe (eOp oIx (eVar 0) (eC (.int 0))) (eOp oPow (eC (.int 10)) (eC (.int 6)))) (sSeq (sAsg (eOp oMod (eCB cInt (aCons (eOp oIx (eVar 0) (eC (.int 0))) aNil)) (eVar 1)) (gN 2)) (sSeq (sSetL (eOp oDivW (eOp oIx (eVar 0) (eC (.int 0))) (eVar 1)) (eVar 0) (eC (.int 0))) (sRet (eVar 2)))) sNx) (sSeq (sSetL (eOp oMod (eCB cInt (aCons (eOp (oAdd mkD) (eOp (oAdd mkD) (eOp oMul (eOp oIx (eVar 0) (eC (.int 1))) (eC (.int 48271))) (eOp oIx (eVar 0) (eC (.int 0)))) (eC (.int 1))) aNil)) (eC (.int 2147483647))) (eVar 0) (eC (.int 1))) (sRet (eOp oMod (eCB cInt (aCons (eOp oDiv (eOp oIx (eVar 0) (eC (.int 1))) (eC (.int 11))) aNil)) (eVar 1)))))
noncomputable def m__law_draw : Fn := runFn 3 c__law_draw
/-! ### _law_first_half -/
noncomputable def c__law_first_half : SS := (sSeq (sIf (eOp oEq (eVar 0) (eC (.int 0))) (sRet (eExc (Str.ofString "BadHouse") [Str.ofString "part", Str.ofString "number"] (aCons (eVar 3) (aCons (eVar 1) aNil)))) sNx) (sSeq (sIf (eOp oEq (eVar 0) (eC (.int 1))) (sRet (eExc (Str.ofString "TooMany") [Str.ofString "limit"] (aCons (eVar 1) aNil))) sNx) (sSeq (sIf (eOp oEq (eVar 0) (eC (.int 2))) (sRet (eExc (Str.ofString "NoRoom") [Str.ofString "room"] (aCons (eVar 1) aNil))) sNx) (sSeq (sIf (eOp oEq (eVar 0) (eC (.int 3))) (sRet (eExc (Str.ofString "NoDoor") [Str.ofString "door"] (aCons (eVar 1) aNil))) sNx) (sSeq (sIf (eOp oEq (eVar 0) (eC (.int 4))) (sRet (eExc (Str.ofString "BadRow") [Str.ofString "place"] (aCons (eVar 1) aNil))) sNx) (sSeq (sIf (eOp oEq (eVar 0) (eC (.int 5))) (sRet (eExc (Str.ofString "NeverEntered") [Str.ofString "room"] (aCons (eVar 1) aNil))) sNx) (sSeq (sIf (eOp oEq (eVar 0) (eC (.int 6))) (sRet (eExc (Str.ofString "NeverOpened") [Str.ofString "door"] (aCons (eVar 1) aNil))) sNx) (sSeq (sIf (eOp oEq (eVar 0) (eC (.int 7))) (sRet (eExc (Str.ofString "NotReady") [Str.ofString "door", Str.ofString "kind"] (aCons (eVar 1) (aCons (eVar 3) aNil)))) sNx) (sSeq (sIf (eOp oEq (eVar 0) (eC (.int 8))) (sRet (eExc (Str.ofString "NotWay") [Str.ofString "room"] (aCons (eVar 1) aNil))) sNx) (sSeq (sIf (eOp oEq (eVar 0) (eC (.int 9))) (sRet (eExc (Str.ofString "NotPlay") [] (fun _ st => some (.ok [] st)))) sNx) (sSeq (sIf (eOp oEq (eVar 0) (eC (.int 10))) (sRet (eExc (Str.ofString "NoState") [Str.ofString "state"] (aCons (eTup (aCons (eVar 1) (aCons (eVar 2) aNil))) aNil))) sNx) (sSeq (sIf (eOp oEq (eVar 0) (eC (.int 11))) (sRet (eExc (Str.ofString "NotPlain") [Str.ofString "part", Str.ofString "number"] (aCons (eVar 3) (aCons (eVar 1) aNil)))) sNx) (sSeq (sIf (eOp oEq (eVar 0) (eC (.int 12))) (sRet (eExc (Str.ofString "BadTable") [Str.ofString "task"] (aCons (eVar 1) aNil))) sNx) (sSeq (sIf (eOp oEq (eVar 0) (eC (.int 13))) (sRet (eExc (Str.ofString "Cyclic") [Str.ofString "task"] (aCons (eVar 1) aNil))) sNx) (sRet (eC .none))))))))))))))))
noncomputable def m__law_first_half : Fn := runFn 4 c__law_first_half
/-! ### _law_second_half -/
noncomputable def c__law_second_half : SS := (sSeq (sIf (eOp oEq (eVar 0) (eC (.int 14))) (sRet (eExc (Str.ofString "BadRoute") [Str.ofString "step"] (aCons (eVar 1) aNil))) sNx) (sSeq (sIf (eOp oEq (eVar 0) (eC (.int 15))) (sRet (eExc (Str.ofString "TooTight") [Str.ofString "gap"] (aCons (eVar 1) aNil))) sNx) (sSeq (sIf (eOp oEq (eVar 0) (eC (.int 16))) (sRet (eExc (Str.ofString "NoStory") [Str.ofString "note"] (aCons (eVar 1) aNil))) sNx) (sSeq (sIf (eOp oEq (eVar 0) (eC (.int 17))) (sRet (eExc (Str.ofString "NothingBack") [] (fun _ st => some (.ok [] st)))) sNx) (sSeq (sIf (eOp oEq (eVar 0) (eC (.int 18))) (sRet (eExc (Str.ofString "NothingForth") [] (fun _ st => some (.ok [] st)))) sNx) (sSeq (sIf (eOp oEq (eVar 0) (eC (.int 19))) (sRet (eExc (Str.ofString "BadLog") [Str.ofString "entry"] (aCons (eVar 1) aNil))) sNx) (sSeq (sIf (eOp oEq (eVar 0) (eC (.int 20))) (sRet (eExc (Str.ofString "WrongPaper") [Str.ofString "place"] (aCons (eVar 1) aNil))) sNx) (sSeq (sIf (eOp oEq (eVar 0) (eC (.int 21))) (sRet (eExc (Str.ofString "TextError") [Str.ofString "line", Str.ofString "word"] (aCons (eVar 1) (aCons (eVar 2) aNil)))) sNx) (sSeq (sIf (eOp oEq (eVar 0) (eC (.int 22))) (sRet (eExc (Str.ofString "WrongWord") [Str.ofString "line", Str.ofString "word"] (aCons (eVar 1) (aCons (eVar 2) aNil)))) sNx) (sSeq (sIf (eOp oEq (eVar 0) (eC (.int 23))) (sRet (eExc (Str.ofString "WrongNumber") [Str.ofString "line", Str.ofString "word"] (aCons (eVar 1) (aCons (eVar 2) aNil)))) sNx) (sSeq (sIf (eOp oEq (eVar 0) (eC (.int 24))) (sRet (eExc (Str.ofString "WrongTools") [Str.ofString "line", Str.ofString "word"] (aCons (eVar 1) (aCons (eVar 2) aNil)))) sNx) (sSeq (sIf (eOp oEq (eVar 0) (eC (.int 25))) (sRet (eExc (Str.ofString "WrongForm") [Str.ofString "line", Str.ofString "word"] (aCons (eVar 1) (aCons (eVar 2) aNil)))) sNx) (sSeq (sIf (eOp oEq (eVar 0) (eC (.int 26))) (sRet (eExc (Str.ofString "MissingLine") [Str.ofString "line", Str.ofString "word"] (aCons (eVar 1) (aCons (eVar 2) aNil)))) sNx) (sRet (eC .none)))))))))))))))
noncomputable def m__law_second_half : Fn := runFn 3 c__law_second_half
/-! ### _law_made -/
noncomputable def c__law_made : SS := (sSeq (sIf (eOp oLt (eVar 0) (eC (.int 14))) (sRet (eCall (nFn 4 m__law_first_half) (aCons (eVar 0) (aCons (eVar 1) (aCons (eVar 2) (aCons (eVar 3) aNil)))))) sNx) (sRet (eCall (nFn 3 m__law_second_half) (aCons (eVar 0) (aCons (eVar 1) (aCons (eVar 2) aNil))))))
noncomputable def m__law_made : Fn := runFn 4 c__law_made
/-! ### _law_fields_one -/
noncomputable def c__law_fields_one : SS := (sSeq (sIf (eOp oEq (eVar 0) (eC (.int 0))) (sRet (eLst mkD (aCons (eXf (withF XCS (Str.ofString "part")) (Str.ofString "part") (eVar 1)) (aCons (eXf (withF XCS (Str.ofString "number")) (Str.ofString "number") (eVar 1)) aNil)))) sNx) (sSeq (sIf (eOp oEq (eVar 0) (eC (.int 1))) (sRet (eLst mkD (aCons (eXf (withF XCS (Str.ofString "limit")) (Str.ofString "limit") (eVar 1)) aNil))) sNx) (sSeq (sIf (eOp oEq (eVar 0) (eC (.int 2))) (sRet (eLst mkD (aCons (eXf (withF XCS (Str.ofString "room")) (Str.ofString "room") (eVar 1)) aNil))) sNx) (sSeq (sIf (eOp oEq (eVar 0) (eC (.int 3))) (sRet (eLst mkD (aCons (eXf (withF XCS (Str.ofString "door")) (Str.ofString "door") (eVar 1)) aNil))) sNx) (sSeq (sIf (eOp oEq (eVar 0) (eC (.int 4))) (sRet (eLst mkD (aCons (eXf (withF XCS (Str.ofString "place")) (Str.ofString "place") (eVar 1)) aNil))) sNx) (sSeq (sIf (eOp oEq (eVar 0) (eC (.int 5))) (sRet (eLst mkD (aCons (eXf (withF XCS (Str.ofString "room")) (Str.ofString "room") (eVar 1)) aNil))) sNx) (sSeq (sIf (eOp oEq (eVar 0) (eC (.int 6))) (sRet (eLst mkD (aCons (eXf (withF XCS (Str.ofString "door")) (Str.ofString "door") (eVar 1)) aNil))) sNx) (sSeq (sIf (eOp oEq (eVar 0) (eC (.int 7))) (sRet (eLst mkD (aCons (eXf (withF XCS (Str.ofString "door")) (Str.ofString "door") (eVar 1)) (aCons (eXf (withF XCS (Str.ofString "kind")) (Str.ofString "kind") (eVar 1)) aNil)))) sNx) (sSeq (sIf (eOp oEq (eVar 0) (eC (.int 8))) (sRet (eLst mkD (aCons (eXf (withF XCS (Str.ofString "room")) (Str.ofString "room") (eVar 1)) aNil))) sNx) (sSeq (sIf (eOp oEq (eVar 0) (eC (.int 9))) (sRet (eLst mkD aNil)) sNx) (sSeq (sIf (eOp oEq (eVar 0) (eC (.int 10))) (sRet (eLst mkD (aCons (eXf (withF XCS (Str.ofString "state")) (Str.ofString "state") (eVar 1)) aNil))) sNx) (sSeq (sIf (eOp oEq (eVar 0) (eC (.int 11))) (sRet (eLst mkD (aCons (eXf (withF XCS (Str.ofString "part")) (Str.ofString "part") (eVar 1)) (aCons (eXf (withF XCS (Str.ofString "number")) (Str.ofString "number") (eVar 1)) aNil)))) sNx) (sSeq (sIf (eOp oEq (eVar 0) (eC (.int 12))) (sRet (eLst mkD (aCons (eXf (withF XCS (Str.ofString "task")) (Str.ofString "task") (eVar 1)) aNil))) sNx) (sSeq (sIf (eOp oEq (eVar 0) (eC (.int 13))) (sRet (eLst mkD (aCons (eXf (withF XCS (Str.ofString "task")) (Str.ofString "task") (eVar 1)) aNil))) sNx) (sRet (eC .none))))))))))))))))
noncomputable def m__law_fields_one : Fn := runFn 2 c__law_fields_one
/-! ### _law_fields_two -/
noncomputable def c__law_fields_two : SS := (sSeq (sIf (eOp oEq (eVar 0) (eC (.int 14))) (sRet (eLst mkD (aCons (eXf (withF XCS (Str.ofString "step")) (Str.ofString "step") (eVar 1)) aNil))) sNx) (sSeq (sIf (eOp oEq (eVar 0) (eC (.int 15))) (sRet (eLst mkD (aCons (eXf (withF XCS (Str.ofString "gap")) (Str.ofString "gap") (eVar 1)) aNil))) sNx) (sSeq (sIf (eOp oEq (eVar 0) (eC (.int 16))) (sRet (eLst mkD (aCons (eXf (withF XCS (Str.ofString "note")) (Str.ofString "note") (eVar 1)) aNil))) sNx) (sSeq (sIf (eOp oEq (eVar 0) (eC (.int 17))) (sRet (eLst mkD aNil)) sNx) (sSeq (sIf (eOp oEq (eVar 0) (eC (.int 18))) (sRet (eLst mkD aNil)) sNx) (sSeq (sIf (eOp oEq (eVar 0) (eC (.int 19))) (sRet (eLst mkD (aCons (eXf (withF XCS (Str.ofString "entry")) (Str.ofString "entry") (eVar 1)) aNil))) sNx) (sSeq (sIf (eOp oEq (eVar 0) (eC (.int 20))) (sRet (eLst mkD (aCons (eXf (withF XCS (Str.ofString "place")) (Str.ofString "place") (eVar 1)) aNil))) sNx) (sSeq (sIf (eOp oEq (eVar 0) (eC (.int 21))) (sRet (eLst mkD (aCons (eXf (withF XCS (Str.ofString "line")) (Str.ofString "line") (eVar 1)) (aCons (eXf (withF XCS (Str.ofString "word")) (Str.ofString "word") (eVar 1)) aNil)))) sNx) (sSeq (sIf (eOp oEq (eVar 0) (eC (.int 22))) (sRet (eLst mkD (aCons (eXf (withF XCS (Str.ofString "line")) (Str.ofString "line") (eVar 1)) (aCons (eXf (withF XCS (Str.ofString "word")) (Str.ofString "word") (eVar 1)) aNil)))) sNx) (sSeq (sIf (eOp oEq (eVar 0) (eC (.int 23))) (sRet (eLst mkD (aCons (eXf (withF XCS (Str.ofString "line")) (Str.ofString "line") (eVar 1)) (aCons (eXf (withF XCS (Str.ofString "word")) (Str.ofString "word") (eVar 1)) aNil)))) sNx) (sSeq (sIf (eOp oEq (eVar 0) (eC (.int 24))) (sRet (eLst mkD (aCons (eXf (withF XCS (Str.ofString "line")) (Str.ofString "line") (eVar 1)) (aCons (eXf (withF XCS (Str.ofString "word")) (Str.ofString "word") (eVar 1)) aNil)))) sNx) (sSeq (sIf (eOp oEq (eVar 0) (eC (.int 25))) (sRet (eLst mkD (aCons (eXf (withF XCS (Str.ofString "line")) (Str.ofString "line") (eVar 1)) (aCons (eXf (withF XCS (Str.ofString "word")) (Str.ofString "word") (eVar 1)) aNil)))) sNx) (sSeq (sIf (eOp oEq (eVar 0) (eC (.int 26))) (sRet (eLst mkD (aCons (eXf (withF XCS (Str.ofString "line")) (Str.ofString "line") (eVar 1)) (aCons (eXf (withF XCS (Str.ofString "word")) (Str.ofString "word") (eVar 1)) aNil)))) sNx) (sRet (eC .none)))))))))))))))
noncomputable def m__law_fields_two : Fn := runFn 2 c__law_fields_two
/-! ### _law_fields -/
noncomputable def c__law_fields : SS := (sSeq (sIf (eOp oLt (eVar 0) (eC (.int 14))) (sRet (eCall (nFn 2 m__law_fields_one) (aCons (eVar 0) (aCons (eVar 1) aNil)))) sNx) (sRet (eCall (nFn 2 m__law_fields_two) (aCons (eVar 0) (aCons (eVar 1) aNil)))))
noncomputable def m__law_fields : Fn := runFn 2 c__law_fields
/-! ### _law_due_one -/
noncomputable def c__law_due_one : SS := (sSeq (sIf (eOp oEq (eVar 0) (eC (.int 0))) (sRet (eLst mkD (aCons (eVar 3) (aCons (eVar 1) aNil)))) sNx) (sSeq (sIf (eOp oEq (eVar 0) (eC (.int 1))) (sRet (eLst mkD (aCons (eVar 1) aNil))) sNx) (sSeq (sIf (eOp oEq (eVar 0) (eC (.int 2))) (sRet (eLst mkD (aCons (eVar 1) aNil))) sNx) (sSeq (sIf (eOp oEq (eVar 0) (eC (.int 3))) (sRet (eLst mkD (aCons (eVar 1) aNil))) sNx) (sSeq (sIf (eOp oEq (eVar 0) (eC (.int 4))) (sRet (eLst mkD (aCons (eVar 1) aNil))) sNx) (sSeq (sIf (eOp oEq (eVar 0) (eC (.int 5))) (sRet (eLst mkD (aCons (eVar 1) aNil))) sNx) (sSeq (sIf (eOp oEq (eVar 0) (eC (.int 6))) (sRet (eLst mkD (aCons (eVar 1) aNil))) sNx) (sSeq (sIf (eOp oEq (eVar 0) (eC (.int 7))) (sRet (eLst mkD (aCons (eVar 1) (aCons (eVar 3) aNil)))) sNx) (sSeq (sIf (eOp oEq (eVar 0) (eC (.int 8))) (sRet (eLst mkD (aCons (eVar 1) aNil))) sNx) (sSeq (sIf (eOp oEq (eVar 0) (eC (.int 9))) (sRet (eLst mkD aNil)) sNx) (sSeq (sIf (eOp oEq (eVar 0) (eC (.int 10))) (sRet (eLst mkD (aCons (eTup (aCons (eVar 1) (aCons (eVar 2) aNil))) aNil))) sNx) (sSeq (sIf (eOp oEq (eVar 0) (eC (.int 11))) (sRet (eLst mkD (aCons (eVar 3) (aCons (eVar 1) aNil)))) sNx) (sSeq (sIf (eOp oEq (eVar 0) (eC (.int 12))) (sRet (eLst mkD (aCons (eVar 1) aNil))) sNx) (sSeq (sIf (eOp oEq (eVar 0) (eC (.int 13))) (sRet (eLst mkD (aCons (eVar 1) aNil))) sNx) (sRet (eC .none))))))))))))))))
noncomputable def m__law_due_one : Fn := runFn 4 c__law_due_one
/-! ### _law_due -/
noncomputable def c__law_due : SS := (sSeq (sIf (eOp oLt (eVar 0) (eC (.int 14))) (sRet (eCall (nFn 4 m__law_due_one) (aCons (eVar 0) (aCons (eVar 1) (aCons (eVar 2) (aCons (eVar 3) aNil)))))) sNx) (sSeq (sIf (eOp (oInS false) (eVar 0) (eLst mkD (aCons (eC (.int 17)) (aCons (eC (.int 18)) aNil)))) (sRet (eLst mkD aNil)) sNx) (sSeq (sIf (eOp oGt (eVar 0) (eC (.int 20))) (sRet (eLst mkD (aCons (eVar 1) (aCons (eVar 2) aNil)))) sNx) (sRet (eLst mkD (aCons (eVar 1) aNil))))))
noncomputable def m__law_due : Fn := runFn 4 c__law_due
/-! ### _law_kinds -/
noncomputable def c__law_kinds : SS := (sSeq (sAsg (eLst mkD (aCons (eXis (isTab XCS (Str.ofString "BadHouse")) (eVar 0)) (aCons (eXis (isTab XCS (Str.ofString "TooMany")) (eVar 0)) (aCons (eXis (isTab XCS (Str.ofString "NoRoom")) (eVar 0)) aNil)))) (gN 1)) (sSeq (sAsg (eOp (oAdd mkD) (eVar 1) (eLst mkD (aCons (eXis (isTab XCS (Str.ofString "NoDoor")) (eVar 0)) (aCons (eXis (isTab XCS (Str.ofString "BadRow")) (eVar 0)) (aCons (eXis (isTab XCS (Str.ofString "NeverEntered")) (eVar 0)) aNil))))) (gN 1)) (sSeq (sAsg (eOp (oAdd mkD) (eVar 1) (eLst mkD (aCons (eXis (isTab XCS (Str.ofString "NeverOpened")) (eVar 0)) (aCons (eXis (isTab XCS (Str.ofString "NotReady")) (eVar 0)) (aCons (eXis (isTab XCS (Str.ofString "NotWay")) (eVar 0)) aNil))))) (gN 1)) (sSeq (sAsg (eOp (oAdd mkD) (eVar 1) (eLst mkD (aCons (eXis (isTab XCS (Str.ofString "NotPlay")) (eVar 0)) (aCons (eXis (isTab XCS (Str.ofString "NoState")) (eVar 0)) (aCons (eXis (isTab XCS (Str.ofString "NotPlain")) (eVar 0)) aNil))))) (gN 1)) (sSeq (sAsg (eOp (oAdd mkD) (eVar 1) (eLst mkD (aCons (eXis (isTab XCS (Str.ofString "BadTable")) (eVar 0)) (aCons (eXis (isTab XCS (Str.ofString "Cyclic")) (eVar 0)) (aCons (eXis (isTab XCS (Str.ofString "BadRoute")) (eVar 0)) aNil))))) (gN 1)) (sSeq (sAsg (eOp (oAdd mkD) (eVar 1) (eLst mkD (aCons (eXis (isTab XCS (Str.ofString "TooTight")) (eVar 0)) (aCons (eXis (isTab XCS (Str.ofString "NoStory")) (eVar 0)) (aCons (eXis (isTab XCS (Str.ofString "NothingBack")) (eVar 0)) aNil))))) (gN 1)) (sSeq (sAsg (eOp (oAdd mkD) (eVar 1) (eLst mkD (aCons (eXis (isTab XCS (Str.ofString "NothingForth")) (eVar 0)) (aCons (eXis (isTab XCS (Str.ofString "BadLog")) (eVar 0)) (aCons (eXis (isTab XCS (Str.ofString "WrongPaper")) (eVar 0)) aNil))))) (gN 1)) (sSeq (sAsg (eOp (oAdd mkD) (eVar 1) (eLst mkD (aCons (eXis (isTab XCS (Str.ofString "TextError")) (eVar 0)) (aCons (eXis (isTab XCS (Str.ofString "WrongWord")) (eVar 0)) (aCons (eXis (isTab XCS (Str.ofString "WrongNumber")) (eVar 0)) aNil))))) (gN 1)) (sSeq (sAsg (eOp (oAdd mkD) (eVar 1) (eLst mkD (aCons (eXis (isTab XCS (Str.ofString "WrongTools")) (eVar 0)) (aCons (eXis (isTab XCS (Str.ofString "WrongForm")) (eVar 0)) (aCons (eXis (isTab XCS (Str.ofString "MissingLine")) (eVar 0)) aNil))))) (gN 1)) (sRet (eVar 1)))))))))))
noncomputable def m__law_kinds : Fn := runFn 2 c__law_kinds
/-! ### _law_right -/
noncomputable def c__law_right : SS := (sSeq (sIf (eOp oNe (eCall (nFn 2 m__law_fields) (aCons (eVar 0) (aCons (eVar 1) aNil))) (eCall (nFn 4 m__law_due) (aCons (eVar 0) (aCons (eVar 2) (aCons (eVar 3) (aCons (eVar 4) aNil)))))) (sRet (eC (.bool false))) sNx) (sSeq (sAsg (eCall (nFn 1 m__law_kinds) (aCons (eVar 1) aNil)) (gN 5)) (sSeq (sFor (iR1 (aCons (eC (.int 27)) aNil)) (gN 6) (sSeq (sAsg (eOr (eOp oEq (eVar 6) (eVar 0)) (eAnd (eOp oEq (eVar 6) (eC (.int 21))) (eOp oGt (eVar 0) (eC (.int 21))))) (gN 7)) (sIf (eOp oNe (eOp oIx (eVar 5) (eVar 6)) (eVar 7)) (sRet (eC (.bool false))) sNx))) (sRet (eAnd (eXis (isTab XCS (Str.ofString "RiddleError")) (eVar 1)) (eXis (isTabB XCS) (eVar 1)))))))
noncomputable def m__law_right : Fn := runFn 8 c__law_right
/-! ### _law_number -/
noncomputable def c__law_number : SS := (sSeq (sAsg (eOp oIx (eLst mkD (aCons (eC (.int 0)) (aCons (eC (.int 1)) (aCons (eC (.int 36)) (aCons (eCall (nFn 2 m__law_draw) (aCons (eVar 0) (aCons (eC (.int 1000)) aNil))) (aCons (eCall (nFn 2 m__law_draw) (aCons (eVar 0) (aCons (eOp oPow (eC (.int 10)) (eC (.int 12))) aNil))) (aCons (eOp (oAdd mkD) (eOp oPow (eC (.int 10)) (eC (.int 20))) (eCall (nFn 2 m__law_draw) (aCons (eVar 0) (aCons (eC (.int 9)) aNil)))) aNil))))))) (eCall (nFn 2 m__law_draw) (aCons (eVar 0) (aCons (eC (.int 6)) aNil)))) (gN 1)) (sRet (eOp oIx (eLst mkD (aCons (eVar 1) (aCons (eOp oSub (eC (.int 0)) (eVar 1)) aNil))) (eCall (nFn 2 m__law_draw) (aCons (eVar 0) (aCons (eC (.int 2)) aNil))))))
noncomputable def m__law_number : Fn := runFn 2 c__law_number
/-! ### law -/
noncomputable def c_law : SS := (sSeq (sAsg (eLst mkD (aCons (eC (.str (Str.ofString "prime"))) (aCons (eC (.str (Str.ofString "size"))) (aCons (eC (.str (Str.ofString "rooms"))) (aCons (eC (.str (Str.ofString "room"))) (aCons (eC (.str (Str.ofString "door"))) (aCons (eC (.str (Str.ofString "last"))) (aCons (eC (.str (Str.ofString "opened"))) (aCons (eC (.str (Str.ofString "key"))) (aCons (eC (.str (Str.ofString ""))) aNil)))))))))) (gN 1)) (sSeq (sFor (iR1 (aCons (eC (.int 27)) aNil)) (gN 2) (sSeq (sAsg (eCall (nFn 2 m__law_source) (aCons (eVar 0) (aCons (eVar 2) aNil))) (gN 3)) (sSeq (sAsg (eCall (nFn 1 m__law_number) (aCons (eVar 3) aNil)) (gN 4)) (sSeq (sAsg (eCall (nFn 1 m__law_number) (aCons (eVar 3) aNil)) (gN 5)) (sSeq (sAsg (eOp oIx (eVar 1) (eCall (nFn 2 m__law_draw) (aCons (eVar 3) (aCons (eC (.int 9)) aNil)))) (gN 6)) (sSeq (sAsg (eCall (nFn 4 m__law_made) (aCons (eVar 2) (aCons (eVar 4) (aCons (eVar 5) (aCons (eVar 6) aNil))))) (gN 7)) (sSeq (sAsg (eCall (nFn 4 m__law_made) (aCons (eVar 2) (aCons (eOp (oAdd mkD) (eVar 4) (eC (.int 1))) (aCons (eOp oSub (eVar 5) (eC (.int 1))) (aCons (eOp (oAdd mkD) (eVar 6) (eC (.str (Str.ofString "s")))) aNil))))) (gN 8)) (sSeq (sIf (eOr (eOp oIsN (eVar 7) (eC .none)) (eNot (eCall (nFn 5 m__law_right) (aCons (eVar 2) (aCons (eVar 7) (aCons (eVar 4) (aCons (eVar 5) (aCons (eVar 6) aNil)))))))) (sRet (eC (.bool false))) sNx) (sIf (eNot (eCall (nFn 5 m__law_right) (aCons (eVar 2) (aCons (eVar 8) (aCons (eOp (oAdd mkD) (eVar 4) (eC (.int 1))) (aCons (eOp oSub (eVar 5) (eC (.int 1))) (aCons (eOp (oAdd mkD) (eVar 6) (eC (.str (Str.ofString "s")))) aNil))))))) (sRet (eC (.bool false))) sNx))))))))) (sRet (eC (.bool true)))))
noncomputable def m_law : Fn := runFn 9 c_law
section
variable {w : World} {K : PySem.W.Frag} {mg : Str → Option Value} {base : Heap} {Pr : Par}
theorem x_BadHouse (W : Wd K mg) : XClW K XTS XBT ⟨Str.ofString "BadHouse", Str.ofString "BadHouse", [Str.ofString "part", Str.ofString "number"], [Str.ofString "BadHouse", Str.ofString "RiddleError"]⟩ := W.x_all _ (List.mem_of_getElem? (i := 0) rfl)
theorem x_TooMany (W : Wd K mg) : XClW K XTS XBT ⟨Str.ofString "TooMany", Str.ofString "TooMany", [Str.ofString "limit"], [Str.ofString "TooMany", Str.ofString "RiddleError"]⟩ := W.x_all _ (List.mem_of_getElem? (i := 1) rfl)
theorem x_NoRoom (W : Wd K mg) : XClW K XTS XBT ⟨Str.ofString "NoRoom", Str.ofString "NoRoom", [Str.ofString "room"], [Str.ofString "NoRoom", Str.ofString "RiddleError"]⟩ := W.x_all _ (List.mem_of_getElem? (i := 2) rfl)
theorem x_NoDoor (W : Wd K mg) : XClW K XTS XBT ⟨Str.ofString "NoDoor", Str.ofString "NoDoor", [Str.ofString "door"], [Str.ofString "NoDoor", Str.ofString "RiddleError"]⟩ := W.x_all _ (List.mem_of_getElem? (i := 3) rfl)
theorem x_BadRow (W : Wd K mg) : XClW K XTS XBT ⟨Str.ofString "BadRow", Str.ofString "BadRow", [Str.ofString "place"], [Str.ofString "BadRow", Str.ofString "RiddleError"]⟩ := W.x_all _ (List.mem_of_getElem? (i := 4) rfl)
theorem x_NeverEntered (W : Wd K mg) : XClW K XTS XBT ⟨Str.ofString "NeverEntered", Str.ofString "NeverEntered", [Str.ofString "room"], [Str.ofString "NeverEntered", Str.ofString "RiddleError"]⟩ := W.x_all _ (List.mem_of_getElem? (i := 5) rfl)
theorem x_NeverOpened (W : Wd K mg) : XClW K XTS XBT ⟨Str.ofString "NeverOpened", Str.ofString "NeverOpened", [Str.ofString "door"], [Str.ofString "NeverOpened", Str.ofString "RiddleError"]⟩ := W.x_all _ (List.mem_of_getElem? (i := 6) rfl)
theorem x_NotReady (W : Wd K mg) : XClW K XTS XBT ⟨Str.ofString "NotReady", Str.ofString "NotReady", [Str.ofString "door", Str.ofString "kind"], [Str.ofString "NotReady", Str.ofString "RiddleError"]⟩ := W.x_all _ (List.mem_of_getElem? (i := 7) rfl)
theorem x_NotWay (W : Wd K mg) : XClW K XTS XBT ⟨Str.ofString "NotWay", Str.ofString "NotWay", [Str.ofString "room"], [Str.ofString "NotWay", Str.ofString "RiddleError"]⟩ := W.x_all _ (List.mem_of_getElem? (i := 8) rfl)
theorem x_NotPlay (W : Wd K mg) : XClW K XTS XBT ⟨Str.ofString "NotPlay", Str.ofString "NotPlay", [], [Str.ofString "NotPlay", Str.ofString "RiddleError"]⟩ := W.x_all _ (List.mem_of_getElem? (i := 9) rfl)
theorem x_NoState (W : Wd K mg) : XClW K XTS XBT ⟨Str.ofString "NoState", Str.ofString "NoState", [Str.ofString "state"], [Str.ofString "NoState", Str.ofString "RiddleError"]⟩ := W.x_all _ (List.mem_of_getElem? (i := 10) rfl)
theorem x_NotPlain (W : Wd K mg) : XClW K XTS XBT ⟨Str.ofString "NotPlain", Str.ofString "NotPlain", [Str.ofString "part", Str.ofString "number"], [Str.ofString "NotPlain", Str.ofString "RiddleError"]⟩ := W.x_all _ (List.mem_of_getElem? (i := 11) rfl)
theorem x_BadTable (W : Wd K mg) : XClW K XTS XBT ⟨Str.ofString "BadTable", Str.ofString "BadTable", [Str.ofString "task"], [Str.ofString "BadTable", Str.ofString "RiddleError"]⟩ := W.x_all _ (List.mem_of_getElem? (i := 12) rfl)
theorem x_Cyclic (W : Wd K mg) : XClW K XTS XBT ⟨Str.ofString "Cyclic", Str.ofString "Cyclic", [Str.ofString "task"], [Str.ofString "Cyclic", Str.ofString "RiddleError"]⟩ := W.x_all _ (List.mem_of_getElem? (i := 13) rfl)
theorem x_BadRoute (W : Wd K mg) : XClW K XTS XBT ⟨Str.ofString "BadRoute", Str.ofString "BadRoute", [Str.ofString "step"], [Str.ofString "BadRoute", Str.ofString "RiddleError"]⟩ := W.x_all _ (List.mem_of_getElem? (i := 14) rfl)
theorem x_TooTight (W : Wd K mg) : XClW K XTS XBT ⟨Str.ofString "TooTight", Str.ofString "TooTight", [Str.ofString "gap"], [Str.ofString "TooTight", Str.ofString "RiddleError"]⟩ := W.x_all _ (List.mem_of_getElem? (i := 15) rfl)
theorem x_NoStory (W : Wd K mg) : XClW K XTS XBT ⟨Str.ofString "NoStory", Str.ofString "NoStory", [Str.ofString "note"], [Str.ofString "NoStory", Str.ofString "RiddleError"]⟩ := W.x_all _ (List.mem_of_getElem? (i := 16) rfl)
theorem x_NothingBack (W : Wd K mg) : XClW K XTS XBT ⟨Str.ofString "NothingBack", Str.ofString "NothingBack", [], [Str.ofString "NothingBack", Str.ofString "RiddleError"]⟩ := W.x_all _ (List.mem_of_getElem? (i := 17) rfl)
theorem x_NothingForth (W : Wd K mg) : XClW K XTS XBT ⟨Str.ofString "NothingForth", Str.ofString "NothingForth", [], [Str.ofString "NothingForth", Str.ofString "RiddleError"]⟩ := W.x_all _ (List.mem_of_getElem? (i := 18) rfl)
theorem x_BadLog (W : Wd K mg) : XClW K XTS XBT ⟨Str.ofString "BadLog", Str.ofString "BadLog", [Str.ofString "entry"], [Str.ofString "BadLog", Str.ofString "RiddleError"]⟩ := W.x_all _ (List.mem_of_getElem? (i := 19) rfl)
theorem x_WrongPaper (W : Wd K mg) : XClW K XTS XBT ⟨Str.ofString "WrongPaper", Str.ofString "WrongPaper", [Str.ofString "place"], [Str.ofString "WrongPaper", Str.ofString "RiddleError"]⟩ := W.x_all _ (List.mem_of_getElem? (i := 20) rfl)
theorem x_TextError (W : Wd K mg) : XClW K XTS XBT ⟨Str.ofString "TextError", Str.ofString "TextError", [Str.ofString "line", Str.ofString "word"], [Str.ofString "TextError", Str.ofString "RiddleError"]⟩ := W.x_all _ (List.mem_of_getElem? (i := 21) rfl)
theorem x_WrongWord (W : Wd K mg) : XClW K XTS XBT ⟨Str.ofString "WrongWord", Str.ofString "TextError", [Str.ofString "line", Str.ofString "word"], [Str.ofString "WrongWord", Str.ofString "TextError", Str.ofString "RiddleError"]⟩ := W.x_all _ (List.mem_of_getElem? (i := 22) rfl)
theorem x_WrongNumber (W : Wd K mg) : XClW K XTS XBT ⟨Str.ofString "WrongNumber", Str.ofString "TextError", [Str.ofString "line", Str.ofString "word"], [Str.ofString "WrongNumber", Str.ofString "TextError", Str.ofString "RiddleError"]⟩ := W.x_all _ (List.mem_of_getElem? (i := 23) rfl)
theorem x_WrongTools (W : Wd K mg) : XClW K XTS XBT ⟨Str.ofString "WrongTools", Str.ofString "TextError", [Str.ofString "line", Str.ofString "word"], [Str.ofString "WrongTools", Str.ofString "TextError", Str.ofString "RiddleError"]⟩ := W.x_all _ (List.mem_of_getElem? (i := 24) rfl)
theorem x_WrongForm (W : Wd K mg) : XClW K XTS XBT ⟨Str.ofString "WrongForm", Str.ofString "TextError", [Str.ofString "line", Str.ofString "word"], [Str.ofString "WrongForm", Str.ofString "TextError", Str.ofString "RiddleError"]⟩ := W.x_all _ (List.mem_of_getElem? (i := 25) rfl)
theorem x_MissingLine (W : Wd K mg) : XClW K XTS XBT ⟨Str.ofString "MissingLine", Str.ofString "TextError", [Str.ofString "line", Str.ofString "word"], [Str.ofString "MissingLine", Str.ofString "TextError", Str.ofString "RiddleError"]⟩ := W.x_all _ (List.mem_of_getElem? (i := 26) rfl)
theorem bx_BadHouse (W : Wd K mg) : Binds K W.xi_BadHouse.choose_spec.choose ["self", "part", "number"] [] := W.xi_BadHouse.choose_spec.choose_spec.binds fun _ _ _ _ _ _ us hl => match us, hl with | [_, _, _], _ => rfl
theorem in_BadHouse (W : Wd K mg) : FnOk P w K mg base CX0 1 (fIn K "BadHouse") W.xi_BadHouse.choose_spec.choose ["self", "part", "number"] (spI K (He.ga K "BadHouse") [Str.ofString "part", Str.ofString "number"]) :=
  init_of (N := ["self", "part", "number", "__class__"]) W.xi_BadHouse.choose_spec.choose_spec hfileP (nscope_by (by decide +kernel)) rfl rfl rfl rfl rfl rfl rfl htopP W.b_super rfl (fun _ _ => rfl) (fun _ => rfl) (fun _ => rfl) (fun cell A outer s H E => (pss_cons (ps_ost (pe_var (i := 0) rfl (Or.inl rfl)) (pe_var (i := 1) rfl (Or.inl rfl))) (pss_one (ps_ost (pe_var (i := 0) rfl (Or.inl rfl)) (pe_var (i := 2) rfl (Or.inl rfl)))))) hq2
theorem bx_TooMany (W : Wd K mg) : Binds K W.xi_TooMany.choose_spec.choose ["self", "limit"] [] := W.xi_TooMany.choose_spec.choose_spec.binds fun _ _ _ _ _ _ us hl => match us, hl with | [_, _], _ => rfl
theorem in_TooMany (W : Wd K mg) : FnOk P w K mg base CX0 1 (fIn K "TooMany") W.xi_TooMany.choose_spec.choose ["self", "limit"] (spI K (He.ga K "TooMany") [Str.ofString "limit"]) :=
  init_of (N := ["self", "limit", "__class__"]) W.xi_TooMany.choose_spec.choose_spec hfileP (nscope_by (by decide +kernel)) rfl rfl rfl rfl rfl rfl rfl htopP W.b_super rfl (fun _ _ => rfl) (fun _ => rfl) (fun _ => rfl) (fun cell A outer s H E => (pss_one (ps_ost (pe_var (i := 0) rfl (Or.inl rfl)) (pe_var (i := 1) rfl (Or.inl rfl))))) hq1
theorem bx_NoRoom (W : Wd K mg) : Binds K W.xi_NoRoom.choose_spec.choose ["self", "room"] [] := W.xi_NoRoom.choose_spec.choose_spec.binds fun _ _ _ _ _ _ us hl => match us, hl with | [_, _], _ => rfl
theorem in_NoRoom (W : Wd K mg) : FnOk P w K mg base CX0 1 (fIn K "NoRoom") W.xi_NoRoom.choose_spec.choose ["self", "room"] (spI K (He.ga K "NoRoom") [Str.ofString "room"]) :=
  init_of (N := ["self", "room", "__class__"]) W.xi_NoRoom.choose_spec.choose_spec hfileP (nscope_by (by decide +kernel)) rfl rfl rfl rfl rfl rfl rfl htopP W.b_super rfl (fun _ _ => rfl) (fun _ => rfl) (fun _ => rfl) (fun cell A outer s H E => (pss_one (ps_ost (pe_var (i := 0) rfl (Or.inl rfl)) (pe_var (i := 1) rfl (Or.inl rfl))))) hq1
theorem bx_NoDoor (W : Wd K mg) : Binds K W.xi_NoDoor.choose_spec.choose ["self", "door"] [] := W.xi_NoDoor.choose_spec.choose_spec.binds fun _ _ _ _ _ _ us hl => match us, hl with | [_, _], _ => rfl
theorem in_NoDoor (W : Wd K mg) : FnOk P w K mg base CX0 1 (fIn K "NoDoor") W.xi_NoDoor.choose_spec.choose ["self", "door"] (spI K (He.ga K "NoDoor") [Str.ofString "door"]) :=
  init_of (N := ["self", "door", "__class__"]) W.xi_NoDoor.choose_spec.choose_spec hfileP (nscope_by (by decide +kernel)) rfl rfl rfl rfl rfl rfl rfl htopP W.b_super rfl (fun _ _ => rfl) (fun _ => rfl) (fun _ => rfl) (fun cell A outer s H E => (pss_one (ps_ost (pe_var (i := 0) rfl (Or.inl rfl)) (pe_var (i := 1) rfl (Or.inl rfl))))) hq1
theorem bx_BadRow (W : Wd K mg) : Binds K W.xi_BadRow.choose_spec.choose ["self", "place"] [] := W.xi_BadRow.choose_spec.choose_spec.binds fun _ _ _ _ _ _ us hl => match us, hl with | [_, _], _ => rfl
theorem in_BadRow (W : Wd K mg) : FnOk P w K mg base CX0 1 (fIn K "BadRow") W.xi_BadRow.choose_spec.choose ["self", "place"] (spI K (He.ga K "BadRow") [Str.ofString "place"]) :=
  init_of (N := ["self", "place", "__class__"]) W.xi_BadRow.choose_spec.choose_spec hfileP (nscope_by (by decide +kernel)) rfl rfl rfl rfl rfl rfl rfl htopP W.b_super rfl (fun _ _ => rfl) (fun _ => rfl) (fun _ => rfl) (fun cell A outer s H E => (pss_one (ps_ost (pe_var (i := 0) rfl (Or.inl rfl)) (pe_var (i := 1) rfl (Or.inl rfl))))) hq1
theorem bx_NeverEntered (W : Wd K mg) : Binds K W.xi_NeverEntered.choose_spec.choose ["self", "room"] [] := W.xi_NeverEntered.choose_spec.choose_spec.binds fun _ _ _ _ _ _ us hl => match us, hl with | [_, _], _ => rfl
theorem in_NeverEntered (W : Wd K mg) : FnOk P w K mg base CX0 1 (fIn K "NeverEntered") W.xi_NeverEntered.choose_spec.choose ["self", "room"] (spI K (He.ga K "NeverEntered") [Str.ofString "room"]) :=
  init_of (N := ["self", "room", "__class__"]) W.xi_NeverEntered.choose_spec.choose_spec hfileP (nscope_by (by decide +kernel)) rfl rfl rfl rfl rfl rfl rfl htopP W.b_super rfl (fun _ _ => rfl) (fun _ => rfl) (fun _ => rfl) (fun cell A outer s H E => (pss_one (ps_ost (pe_var (i := 0) rfl (Or.inl rfl)) (pe_var (i := 1) rfl (Or.inl rfl))))) hq1
theorem bx_NeverOpened (W : Wd K mg) : Binds K W.xi_NeverOpened.choose_spec.choose ["self", "door"] [] := W.xi_NeverOpened.choose_spec.choose_spec.binds fun _ _ _ _ _ _ us hl => match us, hl with | [_, _], _ => rfl
theorem in_NeverOpened (W : Wd K mg) : FnOk P w K mg base CX0 1 (fIn K "NeverOpened") W.xi_NeverOpened.choose_spec.choose ["self", "door"] (spI K (He.ga K "NeverOpened") [Str.ofString "door"]) :=
  init_of (N := ["self", "door", "__class__"]) W.xi_NeverOpened.choose_spec.choose_spec hfileP (nscope_by (by decide +kernel)) rfl rfl rfl rfl rfl rfl rfl htopP W.b_super rfl (fun _ _ => rfl) (fun _ => rfl) (fun _ => rfl) (fun cell A outer s H E => (pss_one (ps_ost (pe_var (i := 0) rfl (Or.inl rfl)) (pe_var (i := 1) rfl (Or.inl rfl))))) hq1
theorem bx_NotReady (W : Wd K mg) : Binds K W.xi_NotReady.choose_spec.choose ["self", "door", "kind"] [] := W.xi_NotReady.choose_spec.choose_spec.binds fun _ _ _ _ _ _ us hl => match us, hl with | [_, _, _], _ => rfl
theorem in_NotReady (W : Wd K mg) : FnOk P w K mg base CX0 1 (fIn K "NotReady") W.xi_NotReady.choose_spec.choose ["self", "door", "kind"] (spI K (He.ga K "NotReady") [Str.ofString "door", Str.ofString "kind"]) :=
  init_of (N := ["self", "door", "kind", "__class__"]) W.xi_NotReady.choose_spec.choose_spec hfileP (nscope_by (by decide +kernel)) rfl rfl rfl rfl rfl rfl rfl htopP W.b_super rfl (fun _ _ => rfl) (fun _ => rfl) (fun _ => rfl) (fun cell A outer s H E => (pss_cons (ps_ost (pe_var (i := 0) rfl (Or.inl rfl)) (pe_var (i := 1) rfl (Or.inl rfl))) (pss_one (ps_ost (pe_var (i := 0) rfl (Or.inl rfl)) (pe_var (i := 2) rfl (Or.inl rfl)))))) hq2
theorem bx_NotWay (W : Wd K mg) : Binds K W.xi_NotWay.choose_spec.choose ["self", "room"] [] := W.xi_NotWay.choose_spec.choose_spec.binds fun _ _ _ _ _ _ us hl => match us, hl with | [_, _], _ => rfl
theorem in_NotWay (W : Wd K mg) : FnOk P w K mg base CX0 1 (fIn K "NotWay") W.xi_NotWay.choose_spec.choose ["self", "room"] (spI K (He.ga K "NotWay") [Str.ofString "room"]) :=
  init_of (N := ["self", "room", "__class__"]) W.xi_NotWay.choose_spec.choose_spec hfileP (nscope_by (by decide +kernel)) rfl rfl rfl rfl rfl rfl rfl htopP W.b_super rfl (fun _ _ => rfl) (fun _ => rfl) (fun _ => rfl) (fun cell A outer s H E => (pss_one (ps_ost (pe_var (i := 0) rfl (Or.inl rfl)) (pe_var (i := 1) rfl (Or.inl rfl))))) hq1
theorem bx_NotPlay (W : Wd K mg) : Binds K W.xi_NotPlay.choose_spec.choose ["self"] [] := W.xi_NotPlay.choose_spec.choose_spec.binds fun _ _ _ _ _ _ us hl => match us, hl with | [_], _ => rfl
theorem in_NotPlay (W : Wd K mg) : FnOk P w K mg base CX0 1 (fIn K "NotPlay") W.xi_NotPlay.choose_spec.choose ["self"] (spI K (He.ga K "NotPlay") []) :=
  init_of (N := ["self", "__class__"]) W.xi_NotPlay.choose_spec.choose_spec hfileP (nscope_by (by decide +kernel)) rfl rfl rfl rfl rfl rfl rfl htopP W.b_super rfl (fun _ _ => rfl) (fun _ => rfl) (fun _ => rfl) (fun cell A outer s H E => pss_nil) hq0
theorem bx_NoState (W : Wd K mg) : Binds K W.xi_NoState.choose_spec.choose ["self", "state"] [] := W.xi_NoState.choose_spec.choose_spec.binds fun _ _ _ _ _ _ us hl => match us, hl with | [_, _], _ => rfl
theorem in_NoState (W : Wd K mg) : FnOk P w K mg base CX0 1 (fIn K "NoState") W.xi_NoState.choose_spec.choose ["self", "state"] (spI K (He.ga K "NoState") [Str.ofString "state"]) :=
  init_of (N := ["self", "state", "__class__"]) W.xi_NoState.choose_spec.choose_spec hfileP (nscope_by (by decide +kernel)) rfl rfl rfl rfl rfl rfl rfl htopP W.b_super rfl (fun _ _ => rfl) (fun _ => rfl) (fun _ => rfl) (fun cell A outer s H E => (pss_one (ps_ost (pe_var (i := 0) rfl (Or.inl rfl)) (pe_var (i := 1) rfl (Or.inl rfl))))) hq1
theorem bx_NotPlain (W : Wd K mg) : Binds K W.xi_NotPlain.choose_spec.choose ["self", "part", "number"] [] := W.xi_NotPlain.choose_spec.choose_spec.binds fun _ _ _ _ _ _ us hl => match us, hl with | [_, _, _], _ => rfl
theorem in_NotPlain (W : Wd K mg) : FnOk P w K mg base CX0 1 (fIn K "NotPlain") W.xi_NotPlain.choose_spec.choose ["self", "part", "number"] (spI K (He.ga K "NotPlain") [Str.ofString "part", Str.ofString "number"]) :=
  init_of (N := ["self", "part", "number", "__class__"]) W.xi_NotPlain.choose_spec.choose_spec hfileP (nscope_by (by decide +kernel)) rfl rfl rfl rfl rfl rfl rfl htopP W.b_super rfl (fun _ _ => rfl) (fun _ => rfl) (fun _ => rfl) (fun cell A outer s H E => (pss_cons (ps_ost (pe_var (i := 0) rfl (Or.inl rfl)) (pe_var (i := 1) rfl (Or.inl rfl))) (pss_one (ps_ost (pe_var (i := 0) rfl (Or.inl rfl)) (pe_var (i := 2) rfl (Or.inl rfl)))))) hq2
theorem bx_BadTable (W : Wd K mg) : Binds K W.xi_BadTable.choose_spec.choose ["self", "task"] [] := W.xi_BadTable.choose_spec.choose_spec.binds fun _ _ _ _ _ _ us hl => match us, hl with | [_, _], _ => rfl
theorem in_BadTable (W : Wd K mg) : FnOk P w K mg base CX0 1 (fIn K "BadTable") W.xi_BadTable.choose_spec.choose ["self", "task"] (spI K (He.ga K "BadTable") [Str.ofString "task"]) :=
  init_of (N := ["self", "task", "__class__"]) W.xi_BadTable.choose_spec.choose_spec hfileP (nscope_by (by decide +kernel)) rfl rfl rfl rfl rfl rfl rfl htopP W.b_super rfl (fun _ _ => rfl) (fun _ => rfl) (fun _ => rfl) (fun cell A outer s H E => (pss_one (ps_ost (pe_var (i := 0) rfl (Or.inl rfl)) (pe_var (i := 1) rfl (Or.inl rfl))))) hq1
theorem bx_Cyclic (W : Wd K mg) : Binds K W.xi_Cyclic.choose_spec.choose ["self", "task"] [] := W.xi_Cyclic.choose_spec.choose_spec.binds fun _ _ _ _ _ _ us hl => match us, hl with | [_, _], _ => rfl
theorem in_Cyclic (W : Wd K mg) : FnOk P w K mg base CX0 1 (fIn K "Cyclic") W.xi_Cyclic.choose_spec.choose ["self", "task"] (spI K (He.ga K "Cyclic") [Str.ofString "task"]) :=
  init_of (N := ["self", "task", "__class__"]) W.xi_Cyclic.choose_spec.choose_spec hfileP (nscope_by (by decide +kernel)) rfl rfl rfl rfl rfl rfl rfl htopP W.b_super rfl (fun _ _ => rfl) (fun _ => rfl) (fun _ => rfl) (fun cell A outer s H E => (pss_one (ps_ost (pe_var (i := 0) rfl (Or.inl rfl)) (pe_var (i := 1) rfl (Or.inl rfl))))) hq1
theorem bx_BadRoute (W : Wd K mg) : Binds K W.xi_BadRoute.choose_spec.choose ["self", "step"] [] := W.xi_BadRoute.choose_spec.choose_spec.binds fun _ _ _ _ _ _ us hl => match us, hl with | [_, _], _ => rfl
theorem in_BadRoute (W : Wd K mg) : FnOk P w K mg base CX0 1 (fIn K "BadRoute") W.xi_BadRoute.choose_spec.choose ["self", "step"] (spI K (He.ga K "BadRoute") [Str.ofString "step"]) :=
  init_of (N := ["self", "step", "__class__"]) W.xi_BadRoute.choose_spec.choose_spec hfileP (nscope_by (by decide +kernel)) rfl rfl rfl rfl rfl rfl rfl htopP W.b_super rfl (fun _ _ => rfl) (fun _ => rfl) (fun _ => rfl) (fun cell A outer s H E => (pss_one (ps_ost (pe_var (i := 0) rfl (Or.inl rfl)) (pe_var (i := 1) rfl (Or.inl rfl))))) hq1
theorem bx_TooTight (W : Wd K mg) : Binds K W.xi_TooTight.choose_spec.choose ["self", "gap"] [] := W.xi_TooTight.choose_spec.choose_spec.binds fun _ _ _ _ _ _ us hl => match us, hl with | [_, _], _ => rfl
theorem in_TooTight (W : Wd K mg) : FnOk P w K mg base CX0 1 (fIn K "TooTight") W.xi_TooTight.choose_spec.choose ["self", "gap"] (spI K (He.ga K "TooTight") [Str.ofString "gap"]) :=
  init_of (N := ["self", "gap", "__class__"]) W.xi_TooTight.choose_spec.choose_spec hfileP (nscope_by (by decide +kernel)) rfl rfl rfl rfl rfl rfl rfl htopP W.b_super rfl (fun _ _ => rfl) (fun _ => rfl) (fun _ => rfl) (fun cell A outer s H E => (pss_one (ps_ost (pe_var (i := 0) rfl (Or.inl rfl)) (pe_var (i := 1) rfl (Or.inl rfl))))) hq1
theorem bx_NoStory (W : Wd K mg) : Binds K W.xi_NoStory.choose_spec.choose ["self", "note"] [] := W.xi_NoStory.choose_spec.choose_spec.binds fun _ _ _ _ _ _ us hl => match us, hl with | [_, _], _ => rfl
theorem in_NoStory (W : Wd K mg) : FnOk P w K mg base CX0 1 (fIn K "NoStory") W.xi_NoStory.choose_spec.choose ["self", "note"] (spI K (He.ga K "NoStory") [Str.ofString "note"]) :=
  init_of (N := ["self", "note", "__class__"]) W.xi_NoStory.choose_spec.choose_spec hfileP (nscope_by (by decide +kernel)) rfl rfl rfl rfl rfl rfl rfl htopP W.b_super rfl (fun _ _ => rfl) (fun _ => rfl) (fun _ => rfl) (fun cell A outer s H E => (pss_one (ps_ost (pe_var (i := 0) rfl (Or.inl rfl)) (pe_var (i := 1) rfl (Or.inl rfl))))) hq1
theorem bx_NothingBack (W : Wd K mg) : Binds K W.xi_NothingBack.choose_spec.choose ["self"] [] := W.xi_NothingBack.choose_spec.choose_spec.binds fun _ _ _ _ _ _ us hl => match us, hl with | [_], _ => rfl
theorem in_NothingBack (W : Wd K mg) : FnOk P w K mg base CX0 1 (fIn K "NothingBack") W.xi_NothingBack.choose_spec.choose ["self"] (spI K (He.ga K "NothingBack") []) :=
  init_of (N := ["self", "__class__"]) W.xi_NothingBack.choose_spec.choose_spec hfileP (nscope_by (by decide +kernel)) rfl rfl rfl rfl rfl rfl rfl htopP W.b_super rfl (fun _ _ => rfl) (fun _ => rfl) (fun _ => rfl) (fun cell A outer s H E => pss_nil) hq0
theorem bx_NothingForth (W : Wd K mg) : Binds K W.xi_NothingForth.choose_spec.choose ["self"] [] := W.xi_NothingForth.choose_spec.choose_spec.binds fun _ _ _ _ _ _ us hl => match us, hl with | [_], _ => rfl
theorem in_NothingForth (W : Wd K mg) : FnOk P w K mg base CX0 1 (fIn K "NothingForth") W.xi_NothingForth.choose_spec.choose ["self"] (spI K (He.ga K "NothingForth") []) :=
  init_of (N := ["self", "__class__"]) W.xi_NothingForth.choose_spec.choose_spec hfileP (nscope_by (by decide +kernel)) rfl rfl rfl rfl rfl rfl rfl htopP W.b_super rfl (fun _ _ => rfl) (fun _ => rfl) (fun _ => rfl) (fun cell A outer s H E => pss_nil) hq0
theorem bx_BadLog (W : Wd K mg) : Binds K W.xi_BadLog.choose_spec.choose ["self", "entry"] [] := W.xi_BadLog.choose_spec.choose_spec.binds fun _ _ _ _ _ _ us hl => match us, hl with | [_, _], _ => rfl
theorem in_BadLog (W : Wd K mg) : FnOk P w K mg base CX0 1 (fIn K "BadLog") W.xi_BadLog.choose_spec.choose ["self", "entry"] (spI K (He.ga K "BadLog") [Str.ofString "entry"]) :=
  init_of (N := ["self", "entry", "__class__"]) W.xi_BadLog.choose_spec.choose_spec hfileP (nscope_by (by decide +kernel)) rfl rfl rfl rfl rfl rfl rfl htopP W.b_super rfl (fun _ _ => rfl) (fun _ => rfl) (fun _ => rfl) (fun cell A outer s H E => (pss_one (ps_ost (pe_var (i := 0) rfl (Or.inl rfl)) (pe_var (i := 1) rfl (Or.inl rfl))))) hq1
theorem bx_WrongPaper (W : Wd K mg) : Binds K W.xi_WrongPaper.choose_spec.choose ["self", "place"] [] := W.xi_WrongPaper.choose_spec.choose_spec.binds fun _ _ _ _ _ _ us hl => match us, hl with | [_, _], _ => rfl
theorem in_WrongPaper (W : Wd K mg) : FnOk P w K mg base CX0 1 (fIn K "WrongPaper") W.xi_WrongPaper.choose_spec.choose ["self", "place"] (spI K (He.ga K "WrongPaper") [Str.ofString "place"]) :=
  init_of (N := ["self", "place", "__class__"]) W.xi_WrongPaper.choose_spec.choose_spec hfileP (nscope_by (by decide +kernel)) rfl rfl rfl rfl rfl rfl rfl htopP W.b_super rfl (fun _ _ => rfl) (fun _ => rfl) (fun _ => rfl) (fun cell A outer s H E => (pss_one (ps_ost (pe_var (i := 0) rfl (Or.inl rfl)) (pe_var (i := 1) rfl (Or.inl rfl))))) hq1
theorem bx_TextError (W : Wd K mg) : Binds K W.xi_TextError.choose_spec.choose ["self", "line", "word"] [] := W.xi_TextError.choose_spec.choose_spec.binds fun _ _ _ _ _ _ us hl => match us, hl with | [_, _, _], _ => rfl
theorem in_TextError (W : Wd K mg) : FnOk P w K mg base CX0 1 (fIn K "TextError") W.xi_TextError.choose_spec.choose ["self", "line", "word"] (spI K (He.ga K "TextError") [Str.ofString "line", Str.ofString "word"]) :=
  init_of (N := ["self", "line", "word", "__class__"]) W.xi_TextError.choose_spec.choose_spec hfileP (nscope_by (by decide +kernel)) rfl rfl rfl rfl rfl rfl rfl htopP W.b_super rfl (fun _ _ => rfl) (fun _ => rfl) (fun _ => rfl) (fun cell A outer s H E => (pss_cons (ps_ost (pe_var (i := 0) rfl (Or.inl rfl)) (pe_var (i := 1) rfl (Or.inl rfl))) (pss_one (ps_ost (pe_var (i := 0) rfl (Or.inl rfl)) (pe_var (i := 2) rfl (Or.inl rfl)))))) hq2
theorem bn__law_source (W : Wd K mg) : Binds K W.d__law_source.choose ["script", "k"] [] := W.d__law_source.choose_spec.bindsN fun _ _ _ _ _ _ us hl => match us, hl with | [_, _], _ => rfl
theorem ok__law_source (W : Wd K mg) : FnOk P w K mg base CX0 1 (He.ga K "_law_source") W.d__law_source.choose ["script", "k"] (spF K Pr 2 m__law_source) := by
  refine FunD.ok W.d__law_source.choose_spec sc__law_source (fun _ _ _ _ h => spF_len h) fun cdv A outer s H vs Q E hr h => ?_
  have hu := hu_of hr
  refine ⟨rdS K Pr E c__law_source, ?_, body_rd (N := ["script", "k", "cell"]) h⟩
  exact (ss_cons (s_set (i := 2) sc__law_source.nd rfl (by first | exact Or.inl rfl | exact Or.inr rfl) e_int) (ss_cons (s_if (t_cmp op_lt pr_lt (e_var 1) (e_callB call_lenS pr_len rfl W.b_len bt_len (a_cons (e_var 0) a_nil)) (nomark _)) (ss_one (s_set (i := 2) sc__law_source.nd rfl (by first | exact Or.inl rfl | exact Or.inr rfl) (e_callB call_absA pr_abs rfl W.b_abs bt_abs (a_cons (e_ix ix_A pr_ix (e_var 0) (e_var 1) (fun _ _ => rfl)) a_nil)))) ss_nil) (ss_one (s_ret (e_lst mkN_ok (a_cons (e_var 2) (a_cons (e_bin op_mod pr_mod (e_callTy call_intA pr_int rfl W.b_int bt_int (a_cons (e_bin op_addA (pr_add mkD_ok) (e_bin op_addA (pr_add mkD_ok) (e_bin op_mul pr_mul (e_var 2) e_int) e_int) (e_bin op_mul pr_mul (e_var 1) e_int)) a_nil)) e_int) a_nil)))))))
theorem bn__law_draw (W : Wd K mg) : Binds K W.d__law_draw.choose ["source", "limit"] [] := W.d__law_draw.choose_spec.bindsN fun _ _ _ _ _ _ us hl => match us, hl with | [_, _], _ => rfl
theorem ok__law_draw (W : Wd K mg) : FnOk P w K mg base CX0 1 (He.ga K "_law_draw") W.d__law_draw.choose ["source", "limit"] (spF K Pr 2 m__law_draw) := by
  refine FunD.ok W.d__law_draw.choose_spec sc__law_draw (fun _ _ _ _ h => spF_len h) fun cdv A outer s H vs Q E hr h => ?_
  have hu := hu_of hr
  refine ⟨rdS K Pr E c__law_draw, ?_, body_rd (N := ["source", "limit", "value"]) h⟩
  exact (ss_cons (s_if (t_cmp op_ge pr_ge (e_ix ix_A pr_ix (e_var 0) e_int (fun _ _ => rfl)) (e_bin op_pow pr_pow e_int e_int) (nomark _)) (ss_cons (s_set (i := 2) sc__law_draw.nd rfl (by first | exact Or.inl rfl | exact Or.inr rfl) (e_bin op_mod pr_mod (e_callTy call_intA pr_int rfl W.b_int bt_int (a_cons (e_ix ix_A pr_ix (e_var 0) e_int (fun _ _ => rfl)) a_nil)) (e_var 1))) (ss_cons (s_setL (e_bin op_fdivW pr_divW (e_ix ix_A pr_ix (e_var 0) e_int (fun _ _ => rfl)) (e_var 1)) (e_var 0) e_int) (ss_one (s_ret (e_var 2))))) ss_nil) (ss_cons (s_setL (e_bin op_mod pr_mod (e_callTy call_intA pr_int rfl W.b_int bt_int (a_cons (e_bin op_addA (pr_add mkD_ok) (e_bin op_addA (pr_add mkD_ok) (e_bin op_mul pr_mul (e_ix ix_A pr_ix (e_var 0) e_int (fun _ _ => rfl)) e_int) (e_ix ix_A pr_ix (e_var 0) e_int (fun _ _ => rfl))) e_int) a_nil)) e_int) (e_var 0) e_int) (ss_one (s_ret (e_bin op_mod pr_mod (e_callTy call_intA pr_int rfl W.b_int bt_int (a_cons (e_bin op_fdiv pr_div (e_ix ix_A pr_ix (e_var 0) e_int (fun _ _ => rfl)) e_int) a_nil)) (e_var 1))))))
theorem bn__law_first_half (W : Wd K mg) : Binds K W.d__law_first_half.choose ["which", "first", "second", "word"] [] := W.d__law_first_half.choose_spec.bindsN fun _ _ _ _ _ _ us hl => match us, hl with | [_, _, _, _], _ => rfl
theorem ok__law_first_half (W : Wd K mg) : FnOk P w K mg base CX0 3 (He.ga K "_law_first_half") W.d__law_first_half.choose ["which", "first", "second", "word"] (spF K Pr 4 m__law_first_half) := by
  refine FunD.ok W.d__law_first_half.choose_spec sc__law_first_half (fun _ _ _ _ h => spF_len h) fun cdv A outer s H vs Q E hr h => ?_
  have hu := hu_of hr
  refine ⟨rdS K Pr E c__law_first_half, ?_, body_rd (N := ["which", "first", "second", "word"]) h⟩
  exact (ss_cons (s_if (t_cmp (op_eqA hr.units) pr_eq (e_var 0) e_int (nomark _)) (ss_one (s_ret (e_exc (D := He.ga K "BadHouse") (x_BadHouse W).m (in_BadHouse W) (hr.mono (by decide)) (bx_BadHouse W) pass00 rfl W.k_BadHouse (a_cons (e_var 3) (a_cons (e_var 1) a_nil))))) ss_nil) (ss_cons (s_if (t_cmp (op_eqA hr.units) pr_eq (e_var 0) e_int (nomark _)) (ss_one (s_ret (e_exc (D := He.ga K "TooMany") (x_TooMany W).m (in_TooMany W) (hr.mono (by decide)) (bx_TooMany W) pass00 rfl W.k_TooMany (a_cons (e_var 1) a_nil)))) ss_nil) (ss_cons (s_if (t_cmp (op_eqA hr.units) pr_eq (e_var 0) e_int (nomark _)) (ss_one (s_ret (e_exc (D := He.ga K "NoRoom") (x_NoRoom W).m (in_NoRoom W) (hr.mono (by decide)) (bx_NoRoom W) pass00 rfl W.k_NoRoom (a_cons (e_var 1) a_nil)))) ss_nil) (ss_cons (s_if (t_cmp (op_eqA hr.units) pr_eq (e_var 0) e_int (nomark _)) (ss_one (s_ret (e_exc (D := He.ga K "NoDoor") (x_NoDoor W).m (in_NoDoor W) (hr.mono (by decide)) (bx_NoDoor W) pass00 rfl W.k_NoDoor (a_cons (e_var 1) a_nil)))) ss_nil) (ss_cons (s_if (t_cmp (op_eqA hr.units) pr_eq (e_var 0) e_int (nomark _)) (ss_one (s_ret (e_exc (D := He.ga K "BadRow") (x_BadRow W).m (in_BadRow W) (hr.mono (by decide)) (bx_BadRow W) pass00 rfl W.k_BadRow (a_cons (e_var 1) a_nil)))) ss_nil) (ss_cons (s_if (t_cmp (op_eqA hr.units) pr_eq (e_var 0) e_int (nomark _)) (ss_one (s_ret (e_exc (D := He.ga K "NeverEntered") (x_NeverEntered W).m (in_NeverEntered W) (hr.mono (by decide)) (bx_NeverEntered W) pass00 rfl W.k_NeverEntered (a_cons (e_var 1) a_nil)))) ss_nil) (ss_cons (s_if (t_cmp (op_eqA hr.units) pr_eq (e_var 0) e_int (nomark _)) (ss_one (s_ret (e_exc (D := He.ga K "NeverOpened") (x_NeverOpened W).m (in_NeverOpened W) (hr.mono (by decide)) (bx_NeverOpened W) pass00 rfl W.k_NeverOpened (a_cons (e_var 1) a_nil)))) ss_nil) (ss_cons (s_if (t_cmp (op_eqA hr.units) pr_eq (e_var 0) e_int (nomark _)) (ss_one (s_ret (e_exc (D := He.ga K "NotReady") (x_NotReady W).m (in_NotReady W) (hr.mono (by decide)) (bx_NotReady W) pass00 rfl W.k_NotReady (a_cons (e_var 1) (a_cons (e_var 3) a_nil))))) ss_nil) (ss_cons (s_if (t_cmp (op_eqA hr.units) pr_eq (e_var 0) e_int (nomark _)) (ss_one (s_ret (e_exc (D := He.ga K "NotWay") (x_NotWay W).m (in_NotWay W) (hr.mono (by decide)) (bx_NotWay W) pass00 rfl W.k_NotWay (a_cons (e_var 1) a_nil)))) ss_nil) (ss_cons (s_if (t_cmp (op_eqA hr.units) pr_eq (e_var 0) e_int (nomark _)) (ss_one (s_ret (e_exc0 (D := He.ga K "NotPlay") (x_NotPlay W).m (in_NotPlay W) (hr.mono (by decide)) (bx_NotPlay W) pass00 rfl W.k_NotPlay))) ss_nil) (ss_cons (s_if (t_cmp (op_eqA hr.units) pr_eq (e_var 0) e_int (nomark _)) (ss_one (s_ret (e_exc (D := He.ga K "NoState") (x_NoState W).m (in_NoState W) (hr.mono (by decide)) (bx_NoState W) pass00 rfl W.k_NoState (a_cons (e_tup (a_cons (e_var 1) (a_cons (e_var 2) a_nil))) a_nil)))) ss_nil) (ss_cons (s_if (t_cmp (op_eqA hr.units) pr_eq (e_var 0) e_int (nomark _)) (ss_one (s_ret (e_exc (D := He.ga K "NotPlain") (x_NotPlain W).m (in_NotPlain W) (hr.mono (by decide)) (bx_NotPlain W) pass00 rfl W.k_NotPlain (a_cons (e_var 3) (a_cons (e_var 1) a_nil))))) ss_nil) (ss_cons (s_if (t_cmp (op_eqA hr.units) pr_eq (e_var 0) e_int (nomark _)) (ss_one (s_ret (e_exc (D := He.ga K "BadTable") (x_BadTable W).m (in_BadTable W) (hr.mono (by decide)) (bx_BadTable W) pass00 rfl W.k_BadTable (a_cons (e_var 1) a_nil)))) ss_nil) (ss_cons (s_if (t_cmp (op_eqA hr.units) pr_eq (e_var 0) e_int (nomark _)) (ss_one (s_ret (e_exc (D := He.ga K "Cyclic") (x_Cyclic W).m (in_Cyclic W) (hr.mono (by decide)) (bx_Cyclic W) pass00 rfl W.k_Cyclic (a_cons (e_var 1) a_nil)))) ss_nil) (ss_one (s_ret e_non))))))))))))))))
theorem bn__law_second_half (W : Wd K mg) : Binds K W.d__law_second_half.choose ["which", "first", "second"] [] := W.d__law_second_half.choose_spec.bindsN fun _ _ _ _ _ _ us hl => match us, hl with | [_, _, _], _ => rfl
theorem ok__law_second_half (W : Wd K mg) : FnOk P w K mg base CX0 3 (He.ga K "_law_second_half") W.d__law_second_half.choose ["which", "first", "second"] (spF K Pr 3 m__law_second_half) := by
  refine FunD.ok W.d__law_second_half.choose_spec sc__law_second_half (fun _ _ _ _ h => spF_len h) fun cdv A outer s H vs Q E hr h => ?_
  have hu := hu_of hr
  refine ⟨rdS K Pr E c__law_second_half, ?_, body_rd (N := ["which", "first", "second"]) h⟩
  exact (ss_cons (s_if (t_cmp (op_eqA hr.units) pr_eq (e_var 0) e_int (nomark _)) (ss_one (s_ret (e_exc (D := He.ga K "BadRoute") (x_BadRoute W).m (in_BadRoute W) (hr.mono (by decide)) (bx_BadRoute W) pass00 rfl W.k_BadRoute (a_cons (e_var 1) a_nil)))) ss_nil) (ss_cons (s_if (t_cmp (op_eqA hr.units) pr_eq (e_var 0) e_int (nomark _)) (ss_one (s_ret (e_exc (D := He.ga K "TooTight") (x_TooTight W).m (in_TooTight W) (hr.mono (by decide)) (bx_TooTight W) pass00 rfl W.k_TooTight (a_cons (e_var 1) a_nil)))) ss_nil) (ss_cons (s_if (t_cmp (op_eqA hr.units) pr_eq (e_var 0) e_int (nomark _)) (ss_one (s_ret (e_exc (D := He.ga K "NoStory") (x_NoStory W).m (in_NoStory W) (hr.mono (by decide)) (bx_NoStory W) pass00 rfl W.k_NoStory (a_cons (e_var 1) a_nil)))) ss_nil) (ss_cons (s_if (t_cmp (op_eqA hr.units) pr_eq (e_var 0) e_int (nomark _)) (ss_one (s_ret (e_exc0 (D := He.ga K "NothingBack") (x_NothingBack W).m (in_NothingBack W) (hr.mono (by decide)) (bx_NothingBack W) pass00 rfl W.k_NothingBack))) ss_nil) (ss_cons (s_if (t_cmp (op_eqA hr.units) pr_eq (e_var 0) e_int (nomark _)) (ss_one (s_ret (e_exc0 (D := He.ga K "NothingForth") (x_NothingForth W).m (in_NothingForth W) (hr.mono (by decide)) (bx_NothingForth W) pass00 rfl W.k_NothingForth))) ss_nil) (ss_cons (s_if (t_cmp (op_eqA hr.units) pr_eq (e_var 0) e_int (nomark _)) (ss_one (s_ret (e_exc (D := He.ga K "BadLog") (x_BadLog W).m (in_BadLog W) (hr.mono (by decide)) (bx_BadLog W) pass00 rfl W.k_BadLog (a_cons (e_var 1) a_nil)))) ss_nil) (ss_cons (s_if (t_cmp (op_eqA hr.units) pr_eq (e_var 0) e_int (nomark _)) (ss_one (s_ret (e_exc (D := He.ga K "WrongPaper") (x_WrongPaper W).m (in_WrongPaper W) (hr.mono (by decide)) (bx_WrongPaper W) pass00 rfl W.k_WrongPaper (a_cons (e_var 1) a_nil)))) ss_nil) (ss_cons (s_if (t_cmp (op_eqA hr.units) pr_eq (e_var 0) e_int (nomark _)) (ss_one (s_ret (e_exc (D := He.ga K "TextError") (x_TextError W).m (in_TextError W) (hr.mono (by decide)) (bx_TextError W) pass00 rfl W.k_TextError (a_cons (e_var 1) (a_cons (e_var 2) a_nil))))) ss_nil) (ss_cons (s_if (t_cmp (op_eqA hr.units) pr_eq (e_var 0) e_int (nomark _)) (ss_one (s_ret (e_exc (D := He.ga K "TextError") (x_WrongWord W).m (in_TextError W) (hr.mono (by decide)) (bx_TextError W) pass00 rfl W.k_WrongWord (a_cons (e_var 1) (a_cons (e_var 2) a_nil))))) ss_nil) (ss_cons (s_if (t_cmp (op_eqA hr.units) pr_eq (e_var 0) e_int (nomark _)) (ss_one (s_ret (e_exc (D := He.ga K "TextError") (x_WrongNumber W).m (in_TextError W) (hr.mono (by decide)) (bx_TextError W) pass00 rfl W.k_WrongNumber (a_cons (e_var 1) (a_cons (e_var 2) a_nil))))) ss_nil) (ss_cons (s_if (t_cmp (op_eqA hr.units) pr_eq (e_var 0) e_int (nomark _)) (ss_one (s_ret (e_exc (D := He.ga K "TextError") (x_WrongTools W).m (in_TextError W) (hr.mono (by decide)) (bx_TextError W) pass00 rfl W.k_WrongTools (a_cons (e_var 1) (a_cons (e_var 2) a_nil))))) ss_nil) (ss_cons (s_if (t_cmp (op_eqA hr.units) pr_eq (e_var 0) e_int (nomark _)) (ss_one (s_ret (e_exc (D := He.ga K "TextError") (x_WrongForm W).m (in_TextError W) (hr.mono (by decide)) (bx_TextError W) pass00 rfl W.k_WrongForm (a_cons (e_var 1) (a_cons (e_var 2) a_nil))))) ss_nil) (ss_cons (s_if (t_cmp (op_eqA hr.units) pr_eq (e_var 0) e_int (nomark _)) (ss_one (s_ret (e_exc (D := He.ga K "TextError") (x_MissingLine W).m (in_TextError W) (hr.mono (by decide)) (bx_TextError W) pass00 rfl W.k_MissingLine (a_cons (e_var 1) (a_cons (e_var 2) a_nil))))) ss_nil) (ss_one (s_ret e_non)))))))))))))))
theorem bn__law_made (W : Wd K mg) : Binds K W.d__law_made.choose ["which", "first", "second", "word"] [] := W.d__law_made.choose_spec.bindsN fun _ _ _ _ _ _ us hl => match us, hl with | [_, _, _, _], _ => rfl
theorem ok__law_made (W : Wd K mg) : FnOk P w K mg base CX0 4 (He.ga K "_law_made") W.d__law_made.choose ["which", "first", "second", "word"] (spF K Pr 4 m__law_made) := by
  refine FunD.ok W.d__law_made.choose_spec sc__law_made (fun _ _ _ _ h => spF_len h) fun cdv A outer s H vs Q E hr h => ?_
  have hu := hu_of hr
  refine ⟨rdS K Pr E c__law_made, ?_, body_rd (N := ["which", "first", "second", "word"]) h⟩
  exact (ss_cons (s_if (t_cmp op_lt pr_lt (e_var 0) e_int (nomark _)) (ss_one (s_ret (e_call (ok__law_first_half W) (hr.mono (by decide)) rfl W.g__law_first_half W.d__law_first_half.choose_spec.kp (bn__law_first_half W) pass00 (a_cons (e_var 0) (a_cons (e_var 1) (a_cons (e_var 2) (a_cons (e_var 3) a_nil))))))) ss_nil) (ss_one (s_ret (e_call (ok__law_second_half W) (hr.mono (by decide)) rfl W.g__law_second_half W.d__law_second_half.choose_spec.kp (bn__law_second_half W) pass00 (a_cons (e_var 0) (a_cons (e_var 1) (a_cons (e_var 2) a_nil)))))))
theorem bn__law_fields_one (W : Wd K mg) : Binds K W.d__law_fields_one.choose ["which", "error"] [] := W.d__law_fields_one.choose_spec.bindsN fun _ _ _ _ _ _ us hl => match us, hl with | [_, _], _ => rfl
theorem ok__law_fields_one (W : Wd K mg) : FnOk P w K mg base CX0 1 (He.ga K "_law_fields_one") W.d__law_fields_one.choose ["which", "error"] (spF K Pr 2 m__law_fields_one) := by
  refine FunD.ok W.d__law_fields_one.choose_spec sc__law_fields_one (fun _ _ _ _ h => spF_len h) fun cdv A outer s H vs Q E hr h => ?_
  have hu := hu_of hr
  refine ⟨rdS K Pr E c__law_fields_one, ?_, body_rd (N := ["which", "error"]) h⟩
  exact (ss_cons (s_if (t_cmp (op_eqA hr.units) pr_eq (e_var 0) e_int (nomark _)) (ss_one (s_ret (e_lst mkD_ok (a_cons (e_xf (withF_ok W.x_all) (e_var 1)) (a_cons (e_xf (withF_ok W.x_all) (e_var 1)) a_nil))))) ss_nil) (ss_cons (s_if (t_cmp (op_eqA hr.units) pr_eq (e_var 0) e_int (nomark _)) (ss_one (s_ret (e_lst mkD_ok (a_cons (e_xf (withF_ok W.x_all) (e_var 1)) a_nil)))) ss_nil) (ss_cons (s_if (t_cmp (op_eqA hr.units) pr_eq (e_var 0) e_int (nomark _)) (ss_one (s_ret (e_lst mkD_ok (a_cons (e_xf (withF_ok W.x_all) (e_var 1)) a_nil)))) ss_nil) (ss_cons (s_if (t_cmp (op_eqA hr.units) pr_eq (e_var 0) e_int (nomark _)) (ss_one (s_ret (e_lst mkD_ok (a_cons (e_xf (withF_ok W.x_all) (e_var 1)) a_nil)))) ss_nil) (ss_cons (s_if (t_cmp (op_eqA hr.units) pr_eq (e_var 0) e_int (nomark _)) (ss_one (s_ret (e_lst mkD_ok (a_cons (e_xf (withF_ok W.x_all) (e_var 1)) a_nil)))) ss_nil) (ss_cons (s_if (t_cmp (op_eqA hr.units) pr_eq (e_var 0) e_int (nomark _)) (ss_one (s_ret (e_lst mkD_ok (a_cons (e_xf (withF_ok W.x_all) (e_var 1)) a_nil)))) ss_nil) (ss_cons (s_if (t_cmp (op_eqA hr.units) pr_eq (e_var 0) e_int (nomark _)) (ss_one (s_ret (e_lst mkD_ok (a_cons (e_xf (withF_ok W.x_all) (e_var 1)) a_nil)))) ss_nil) (ss_cons (s_if (t_cmp (op_eqA hr.units) pr_eq (e_var 0) e_int (nomark _)) (ss_one (s_ret (e_lst mkD_ok (a_cons (e_xf (withF_ok W.x_all) (e_var 1)) (a_cons (e_xf (withF_ok W.x_all) (e_var 1)) a_nil))))) ss_nil) (ss_cons (s_if (t_cmp (op_eqA hr.units) pr_eq (e_var 0) e_int (nomark _)) (ss_one (s_ret (e_lst mkD_ok (a_cons (e_xf (withF_ok W.x_all) (e_var 1)) a_nil)))) ss_nil) (ss_cons (s_if (t_cmp (op_eqA hr.units) pr_eq (e_var 0) e_int (nomark _)) (ss_one (s_ret (e_lst mkD_ok a_nil))) ss_nil) (ss_cons (s_if (t_cmp (op_eqA hr.units) pr_eq (e_var 0) e_int (nomark _)) (ss_one (s_ret (e_lst mkD_ok (a_cons (e_xf (withF_ok W.x_all) (e_var 1)) a_nil)))) ss_nil) (ss_cons (s_if (t_cmp (op_eqA hr.units) pr_eq (e_var 0) e_int (nomark _)) (ss_one (s_ret (e_lst mkD_ok (a_cons (e_xf (withF_ok W.x_all) (e_var 1)) (a_cons (e_xf (withF_ok W.x_all) (e_var 1)) a_nil))))) ss_nil) (ss_cons (s_if (t_cmp (op_eqA hr.units) pr_eq (e_var 0) e_int (nomark _)) (ss_one (s_ret (e_lst mkD_ok (a_cons (e_xf (withF_ok W.x_all) (e_var 1)) a_nil)))) ss_nil) (ss_cons (s_if (t_cmp (op_eqA hr.units) pr_eq (e_var 0) e_int (nomark _)) (ss_one (s_ret (e_lst mkD_ok (a_cons (e_xf (withF_ok W.x_all) (e_var 1)) a_nil)))) ss_nil) (ss_one (s_ret e_non))))))))))))))))
theorem bn__law_fields_two (W : Wd K mg) : Binds K W.d__law_fields_two.choose ["which", "error"] [] := W.d__law_fields_two.choose_spec.bindsN fun _ _ _ _ _ _ us hl => match us, hl with | [_, _], _ => rfl
theorem ok__law_fields_two (W : Wd K mg) : FnOk P w K mg base CX0 1 (He.ga K "_law_fields_two") W.d__law_fields_two.choose ["which", "error"] (spF K Pr 2 m__law_fields_two) := by
  refine FunD.ok W.d__law_fields_two.choose_spec sc__law_fields_two (fun _ _ _ _ h => spF_len h) fun cdv A outer s H vs Q E hr h => ?_
  have hu := hu_of hr
  refine ⟨rdS K Pr E c__law_fields_two, ?_, body_rd (N := ["which", "error"]) h⟩
  exact (ss_cons (s_if (t_cmp (op_eqA hr.units) pr_eq (e_var 0) e_int (nomark _)) (ss_one (s_ret (e_lst mkD_ok (a_cons (e_xf (withF_ok W.x_all) (e_var 1)) a_nil)))) ss_nil) (ss_cons (s_if (t_cmp (op_eqA hr.units) pr_eq (e_var 0) e_int (nomark _)) (ss_one (s_ret (e_lst mkD_ok (a_cons (e_xf (withF_ok W.x_all) (e_var 1)) a_nil)))) ss_nil) (ss_cons (s_if (t_cmp (op_eqA hr.units) pr_eq (e_var 0) e_int (nomark _)) (ss_one (s_ret (e_lst mkD_ok (a_cons (e_xf (withF_ok W.x_all) (e_var 1)) a_nil)))) ss_nil) (ss_cons (s_if (t_cmp (op_eqA hr.units) pr_eq (e_var 0) e_int (nomark _)) (ss_one (s_ret (e_lst mkD_ok a_nil))) ss_nil) (ss_cons (s_if (t_cmp (op_eqA hr.units) pr_eq (e_var 0) e_int (nomark _)) (ss_one (s_ret (e_lst mkD_ok a_nil))) ss_nil) (ss_cons (s_if (t_cmp (op_eqA hr.units) pr_eq (e_var 0) e_int (nomark _)) (ss_one (s_ret (e_lst mkD_ok (a_cons (e_xf (withF_ok W.x_all) (e_var 1)) a_nil)))) ss_nil) (ss_cons (s_if (t_cmp (op_eqA hr.units) pr_eq (e_var 0) e_int (nomark _)) (ss_one (s_ret (e_lst mkD_ok (a_cons (e_xf (withF_ok W.x_all) (e_var 1)) a_nil)))) ss_nil) (ss_cons (s_if (t_cmp (op_eqA hr.units) pr_eq (e_var 0) e_int (nomark _)) (ss_one (s_ret (e_lst mkD_ok (a_cons (e_xf (withF_ok W.x_all) (e_var 1)) (a_cons (e_xf (withF_ok W.x_all) (e_var 1)) a_nil))))) ss_nil) (ss_cons (s_if (t_cmp (op_eqA hr.units) pr_eq (e_var 0) e_int (nomark _)) (ss_one (s_ret (e_lst mkD_ok (a_cons (e_xf (withF_ok W.x_all) (e_var 1)) (a_cons (e_xf (withF_ok W.x_all) (e_var 1)) a_nil))))) ss_nil) (ss_cons (s_if (t_cmp (op_eqA hr.units) pr_eq (e_var 0) e_int (nomark _)) (ss_one (s_ret (e_lst mkD_ok (a_cons (e_xf (withF_ok W.x_all) (e_var 1)) (a_cons (e_xf (withF_ok W.x_all) (e_var 1)) a_nil))))) ss_nil) (ss_cons (s_if (t_cmp (op_eqA hr.units) pr_eq (e_var 0) e_int (nomark _)) (ss_one (s_ret (e_lst mkD_ok (a_cons (e_xf (withF_ok W.x_all) (e_var 1)) (a_cons (e_xf (withF_ok W.x_all) (e_var 1)) a_nil))))) ss_nil) (ss_cons (s_if (t_cmp (op_eqA hr.units) pr_eq (e_var 0) e_int (nomark _)) (ss_one (s_ret (e_lst mkD_ok (a_cons (e_xf (withF_ok W.x_all) (e_var 1)) (a_cons (e_xf (withF_ok W.x_all) (e_var 1)) a_nil))))) ss_nil) (ss_cons (s_if (t_cmp (op_eqA hr.units) pr_eq (e_var 0) e_int (nomark _)) (ss_one (s_ret (e_lst mkD_ok (a_cons (e_xf (withF_ok W.x_all) (e_var 1)) (a_cons (e_xf (withF_ok W.x_all) (e_var 1)) a_nil))))) ss_nil) (ss_one (s_ret e_non)))))))))))))))
theorem bn__law_fields (W : Wd K mg) : Binds K W.d__law_fields.choose ["which", "error"] [] := W.d__law_fields.choose_spec.bindsN fun _ _ _ _ _ _ us hl => match us, hl with | [_, _], _ => rfl
theorem ok__law_fields (W : Wd K mg) : FnOk P w K mg base CX0 2 (He.ga K "_law_fields") W.d__law_fields.choose ["which", "error"] (spF K Pr 2 m__law_fields) := by
  refine FunD.ok W.d__law_fields.choose_spec sc__law_fields (fun _ _ _ _ h => spF_len h) fun cdv A outer s H vs Q E hr h => ?_
  have hu := hu_of hr
  refine ⟨rdS K Pr E c__law_fields, ?_, body_rd (N := ["which", "error"]) h⟩
  exact (ss_cons (s_if (t_cmp op_lt pr_lt (e_var 0) e_int (nomark _)) (ss_one (s_ret (e_call (ok__law_fields_one W) (hr.mono (by decide)) rfl W.g__law_fields_one W.d__law_fields_one.choose_spec.kp (bn__law_fields_one W) pass00 (a_cons (e_var 0) (a_cons (e_var 1) a_nil))))) ss_nil) (ss_one (s_ret (e_call (ok__law_fields_two W) (hr.mono (by decide)) rfl W.g__law_fields_two W.d__law_fields_two.choose_spec.kp (bn__law_fields_two W) pass00 (a_cons (e_var 0) (a_cons (e_var 1) a_nil))))))
theorem bn__law_due_one (W : Wd K mg) : Binds K W.d__law_due_one.choose ["which", "first", "second", "word"] [] := W.d__law_due_one.choose_spec.bindsN fun _ _ _ _ _ _ us hl => match us, hl with | [_, _, _, _], _ => rfl
theorem ok__law_due_one (W : Wd K mg) : FnOk P w K mg base CX0 1 (He.ga K "_law_due_one") W.d__law_due_one.choose ["which", "first", "second", "word"] (spF K Pr 4 m__law_due_one) := by
  refine FunD.ok W.d__law_due_one.choose_spec sc__law_due_one (fun _ _ _ _ h => spF_len h) fun cdv A outer s H vs Q E hr h => ?_
  have hu := hu_of hr
  refine ⟨rdS K Pr E c__law_due_one, ?_, body_rd (N := ["which", "first", "second", "word"]) h⟩
  exact (ss_cons (s_if (t_cmp (op_eqA hr.units) pr_eq (e_var 0) e_int (nomark _)) (ss_one (s_ret (e_lst mkD_ok (a_cons (e_var 3) (a_cons (e_var 1) a_nil))))) ss_nil) (ss_cons (s_if (t_cmp (op_eqA hr.units) pr_eq (e_var 0) e_int (nomark _)) (ss_one (s_ret (e_lst mkD_ok (a_cons (e_var 1) a_nil)))) ss_nil) (ss_cons (s_if (t_cmp (op_eqA hr.units) pr_eq (e_var 0) e_int (nomark _)) (ss_one (s_ret (e_lst mkD_ok (a_cons (e_var 1) a_nil)))) ss_nil) (ss_cons (s_if (t_cmp (op_eqA hr.units) pr_eq (e_var 0) e_int (nomark _)) (ss_one (s_ret (e_lst mkD_ok (a_cons (e_var 1) a_nil)))) ss_nil) (ss_cons (s_if (t_cmp (op_eqA hr.units) pr_eq (e_var 0) e_int (nomark _)) (ss_one (s_ret (e_lst mkD_ok (a_cons (e_var 1) a_nil)))) ss_nil) (ss_cons (s_if (t_cmp (op_eqA hr.units) pr_eq (e_var 0) e_int (nomark _)) (ss_one (s_ret (e_lst mkD_ok (a_cons (e_var 1) a_nil)))) ss_nil) (ss_cons (s_if (t_cmp (op_eqA hr.units) pr_eq (e_var 0) e_int (nomark _)) (ss_one (s_ret (e_lst mkD_ok (a_cons (e_var 1) a_nil)))) ss_nil) (ss_cons (s_if (t_cmp (op_eqA hr.units) pr_eq (e_var 0) e_int (nomark _)) (ss_one (s_ret (e_lst mkD_ok (a_cons (e_var 1) (a_cons (e_var 3) a_nil))))) ss_nil) (ss_cons (s_if (t_cmp (op_eqA hr.units) pr_eq (e_var 0) e_int (nomark _)) (ss_one (s_ret (e_lst mkD_ok (a_cons (e_var 1) a_nil)))) ss_nil) (ss_cons (s_if (t_cmp (op_eqA hr.units) pr_eq (e_var 0) e_int (nomark _)) (ss_one (s_ret (e_lst mkD_ok a_nil))) ss_nil) (ss_cons (s_if (t_cmp (op_eqA hr.units) pr_eq (e_var 0) e_int (nomark _)) (ss_one (s_ret (e_lst mkD_ok (a_cons (e_tup (a_cons (e_var 1) (a_cons (e_var 2) a_nil))) a_nil)))) ss_nil) (ss_cons (s_if (t_cmp (op_eqA hr.units) pr_eq (e_var 0) e_int (nomark _)) (ss_one (s_ret (e_lst mkD_ok (a_cons (e_var 3) (a_cons (e_var 1) a_nil))))) ss_nil) (ss_cons (s_if (t_cmp (op_eqA hr.units) pr_eq (e_var 0) e_int (nomark _)) (ss_one (s_ret (e_lst mkD_ok (a_cons (e_var 1) a_nil)))) ss_nil) (ss_cons (s_if (t_cmp (op_eqA hr.units) pr_eq (e_var 0) e_int (nomark _)) (ss_one (s_ret (e_lst mkD_ok (a_cons (e_var 1) a_nil)))) ss_nil) (ss_one (s_ret e_non))))))))))))))))
theorem bn__law_due (W : Wd K mg) : Binds K W.d__law_due.choose ["which", "first", "second", "word"] [] := W.d__law_due.choose_spec.bindsN fun _ _ _ _ _ _ us hl => match us, hl with | [_, _, _, _], _ => rfl
theorem ok__law_due (W : Wd K mg) : FnOk P w K mg base CX0 2 (He.ga K "_law_due") W.d__law_due.choose ["which", "first", "second", "word"] (spF K Pr 4 m__law_due) := by
  refine FunD.ok W.d__law_due.choose_spec sc__law_due (fun _ _ _ _ h => spF_len h) fun cdv A outer s H vs Q E hr h => ?_
  have hu := hu_of hr
  refine ⟨rdS K Pr E c__law_due, ?_, body_rd (N := ["which", "first", "second", "word"]) h⟩
  exact (ss_cons (s_if (t_cmp op_lt pr_lt (e_var 0) e_int (nomark _)) (ss_one (s_ret (e_call (ok__law_due_one W) (hr.mono (by decide)) rfl W.g__law_due_one W.d__law_due_one.choose_spec.kp (bn__law_due_one W) pass00 (a_cons (e_var 0) (a_cons (e_var 1) (a_cons (e_var 2) (a_cons (e_var 3) a_nil))))))) ss_nil) (ss_cons (s_if (t_cmp op_in_seq pr_in (e_var 0) (e_lst mkD_ok (a_cons e_int (a_cons e_int a_nil))) (by rfl)) (ss_one (s_ret (e_lst mkD_ok a_nil))) ss_nil) (ss_cons (s_if (t_cmp op_gt pr_gt (e_var 0) e_int (nomark _)) (ss_one (s_ret (e_lst mkD_ok (a_cons (e_var 1) (a_cons (e_var 2) a_nil))))) ss_nil) (ss_one (s_ret (e_lst mkD_ok (a_cons (e_var 1) a_nil)))))))
theorem bn__law_kinds (W : Wd K mg) : Binds K W.d__law_kinds.choose ["error"] [] := W.d__law_kinds.choose_spec.bindsN fun _ _ _ _ _ _ us hl => match us, hl with | [_], _ => rfl
theorem ok__law_kinds (W : Wd K mg) : FnOk P w K mg base CX0 1 (He.ga K "_law_kinds") W.d__law_kinds.choose ["error"] (spF K Pr 1 m__law_kinds) := by
  refine FunD.ok W.d__law_kinds.choose_spec sc__law_kinds (fun _ _ _ _ h => spF_len h) fun cdv A outer s H vs Q E hr h => ?_
  have hu := hu_of hr
  refine ⟨rdS K Pr E c__law_kinds, ?_, body_rd (N := ["error", "kinds"]) h⟩
  exact (ss_cons (s_set (i := 1) sc__law_kinds.nd rfl (by first | exact Or.inl rfl | exact Or.inr rfl) (e_lst mkD_ok (a_cons (e_xis (cV := .ref (He.ga K "BadHouse")) (cv := .ref (He.ga K "BadHouse")) (fun u h => h) (isTab_ok W.x_all (List.mem_of_getElem? (i := 0) rfl)) rfl W.b_isinstance (e_var 0) (pe_glob rfl W.k_BadHouse rfl)) (a_cons (e_xis (cV := .ref (He.ga K "TooMany")) (cv := .ref (He.ga K "TooMany")) (fun u h => h) (isTab_ok W.x_all (List.mem_of_getElem? (i := 21) rfl)) rfl W.b_isinstance (e_var 0) (pe_glob rfl W.k_TooMany rfl)) (a_cons (e_xis (cV := .ref (He.ga K "NoRoom")) (cv := .ref (He.ga K "NoRoom")) (fun u h => h) (isTab_ok W.x_all (List.mem_of_getElem? (i := 10) rfl)) rfl W.b_isinstance (e_var 0) (pe_glob rfl W.k_NoRoom rfl)) a_nil))))) (ss_cons (s_set (i := 1) sc__law_kinds.nd rfl (by first | exact Or.inl rfl | exact Or.inr rfl) (e_bin op_addA (pr_add mkD_ok) (e_var 1) (e_lst mkD_ok (a_cons (e_xis (cV := .ref (He.ga K "NoDoor")) (cv := .ref (He.ga K "NoDoor")) (fun u h => h) (isTab_ok W.x_all (List.mem_of_getElem? (i := 9) rfl)) rfl W.b_isinstance (e_var 0) (pe_glob rfl W.k_NoDoor rfl)) (a_cons (e_xis (cV := .ref (He.ga K "BadRow")) (cv := .ref (He.ga K "BadRow")) (fun u h => h) (isTab_ok W.x_all (List.mem_of_getElem? (i := 3) rfl)) rfl W.b_isinstance (e_var 0) (pe_glob rfl W.k_BadRow rfl)) (a_cons (e_xis (cV := .ref (He.ga K "NeverEntered")) (cv := .ref (He.ga K "NeverEntered")) (fun u h => h) (isTab_ok W.x_all (List.mem_of_getElem? (i := 7) rfl)) rfl W.b_isinstance (e_var 0) (pe_glob rfl W.k_NeverEntered rfl)) a_nil)))))) (ss_cons (s_set (i := 1) sc__law_kinds.nd rfl (by first | exact Or.inl rfl | exact Or.inr rfl) (e_bin op_addA (pr_add mkD_ok) (e_var 1) (e_lst mkD_ok (a_cons (e_xis (cV := .ref (He.ga K "NeverOpened")) (cv := .ref (He.ga K "NeverOpened")) (fun u h => h) (isTab_ok W.x_all (List.mem_of_getElem? (i := 8) rfl)) rfl W.b_isinstance (e_var 0) (pe_glob rfl W.k_NeverOpened rfl)) (a_cons (e_xis (cV := .ref (He.ga K "NotReady")) (cv := .ref (He.ga K "NotReady")) (fun u h => h) (isTab_ok W.x_all (List.mem_of_getElem? (i := 15) rfl)) rfl W.b_isinstance (e_var 0) (pe_glob rfl W.k_NotReady rfl)) (a_cons (e_xis (cV := .ref (He.ga K "NotWay")) (cv := .ref (He.ga K "NotWay")) (fun u h => h) (isTab_ok W.x_all (List.mem_of_getElem? (i := 16) rfl)) rfl W.b_isinstance (e_var 0) (pe_glob rfl W.k_NotWay rfl)) a_nil)))))) (ss_cons (s_set (i := 1) sc__law_kinds.nd rfl (by first | exact Or.inl rfl | exact Or.inr rfl) (e_bin op_addA (pr_add mkD_ok) (e_var 1) (e_lst mkD_ok (a_cons (e_xis (cV := .ref (He.ga K "NotPlay")) (cv := .ref (He.ga K "NotPlay")) (fun u h => h) (isTab_ok W.x_all (List.mem_of_getElem? (i := 14) rfl)) rfl W.b_isinstance (e_var 0) (pe_glob rfl W.k_NotPlay rfl)) (a_cons (e_xis (cV := .ref (He.ga K "NoState")) (cv := .ref (He.ga K "NoState")) (fun u h => h) (isTab_ok W.x_all (List.mem_of_getElem? (i := 11) rfl)) rfl W.b_isinstance (e_var 0) (pe_glob rfl W.k_NoState rfl)) (a_cons (e_xis (cV := .ref (He.ga K "NotPlain")) (cv := .ref (He.ga K "NotPlain")) (fun u h => h) (isTab_ok W.x_all (List.mem_of_getElem? (i := 13) rfl)) rfl W.b_isinstance (e_var 0) (pe_glob rfl W.k_NotPlain rfl)) a_nil)))))) (ss_cons (s_set (i := 1) sc__law_kinds.nd rfl (by first | exact Or.inl rfl | exact Or.inr rfl) (e_bin op_addA (pr_add mkD_ok) (e_var 1) (e_lst mkD_ok (a_cons (e_xis (cV := .ref (He.ga K "BadTable")) (cv := .ref (He.ga K "BadTable")) (fun u h => h) (isTab_ok W.x_all (List.mem_of_getElem? (i := 4) rfl)) rfl W.b_isinstance (e_var 0) (pe_glob rfl W.k_BadTable rfl)) (a_cons (e_xis (cV := .ref (He.ga K "Cyclic")) (cv := .ref (He.ga K "Cyclic")) (fun u h => h) (isTab_ok W.x_all (List.mem_of_getElem? (i := 5) rfl)) rfl W.b_isinstance (e_var 0) (pe_glob rfl W.k_Cyclic rfl)) (a_cons (e_xis (cV := .ref (He.ga K "BadRoute")) (cv := .ref (He.ga K "BadRoute")) (fun u h => h) (isTab_ok W.x_all (List.mem_of_getElem? (i := 2) rfl)) rfl W.b_isinstance (e_var 0) (pe_glob rfl W.k_BadRoute rfl)) a_nil)))))) (ss_cons (s_set (i := 1) sc__law_kinds.nd rfl (by first | exact Or.inl rfl | exact Or.inr rfl) (e_bin op_addA (pr_add mkD_ok) (e_var 1) (e_lst mkD_ok (a_cons (e_xis (cV := .ref (He.ga K "TooTight")) (cv := .ref (He.ga K "TooTight")) (fun u h => h) (isTab_ok W.x_all (List.mem_of_getElem? (i := 22) rfl)) rfl W.b_isinstance (e_var 0) (pe_glob rfl W.k_TooTight rfl)) (a_cons (e_xis (cV := .ref (He.ga K "NoStory")) (cv := .ref (He.ga K "NoStory")) (fun u h => h) (isTab_ok W.x_all (List.mem_of_getElem? (i := 12) rfl)) rfl W.b_isinstance (e_var 0) (pe_glob rfl W.k_NoStory rfl)) (a_cons (e_xis (cV := .ref (He.ga K "NothingBack")) (cv := .ref (He.ga K "NothingBack")) (fun u h => h) (isTab_ok W.x_all (List.mem_of_getElem? (i := 17) rfl)) rfl W.b_isinstance (e_var 0) (pe_glob rfl W.k_NothingBack rfl)) a_nil)))))) (ss_cons (s_set (i := 1) sc__law_kinds.nd rfl (by first | exact Or.inl rfl | exact Or.inr rfl) (e_bin op_addA (pr_add mkD_ok) (e_var 1) (e_lst mkD_ok (a_cons (e_xis (cV := .ref (He.ga K "NothingForth")) (cv := .ref (He.ga K "NothingForth")) (fun u h => h) (isTab_ok W.x_all (List.mem_of_getElem? (i := 18) rfl)) rfl W.b_isinstance (e_var 0) (pe_glob rfl W.k_NothingForth rfl)) (a_cons (e_xis (cV := .ref (He.ga K "BadLog")) (cv := .ref (He.ga K "BadLog")) (fun u h => h) (isTab_ok W.x_all (List.mem_of_getElem? (i := 1) rfl)) rfl W.b_isinstance (e_var 0) (pe_glob rfl W.k_BadLog rfl)) (a_cons (e_xis (cV := .ref (He.ga K "WrongPaper")) (cv := .ref (He.ga K "WrongPaper")) (fun u h => h) (isTab_ok W.x_all (List.mem_of_getElem? (i := 25) rfl)) rfl W.b_isinstance (e_var 0) (pe_glob rfl W.k_WrongPaper rfl)) a_nil)))))) (ss_cons (s_set (i := 1) sc__law_kinds.nd rfl (by first | exact Or.inl rfl | exact Or.inr rfl) (e_bin op_addA (pr_add mkD_ok) (e_var 1) (e_lst mkD_ok (a_cons (e_xis (cV := .ref (He.ga K "TextError")) (cv := .ref (He.ga K "TextError")) (fun u h => h) (isTab_ok W.x_all (List.mem_of_getElem? (i := 20) rfl)) rfl W.b_isinstance (e_var 0) (pe_glob rfl W.k_TextError rfl)) (a_cons (e_xis (cV := .ref (He.ga K "WrongWord")) (cv := .ref (He.ga K "WrongWord")) (fun u h => h) (isTab_ok W.x_all (List.mem_of_getElem? (i := 27) rfl)) rfl W.b_isinstance (e_var 0) (pe_glob rfl W.k_WrongWord rfl)) (a_cons (e_xis (cV := .ref (He.ga K "WrongNumber")) (cv := .ref (He.ga K "WrongNumber")) (fun u h => h) (isTab_ok W.x_all (List.mem_of_getElem? (i := 24) rfl)) rfl W.b_isinstance (e_var 0) (pe_glob rfl W.k_WrongNumber rfl)) a_nil)))))) (ss_cons (s_set (i := 1) sc__law_kinds.nd rfl (by first | exact Or.inl rfl | exact Or.inr rfl) (e_bin op_addA (pr_add mkD_ok) (e_var 1) (e_lst mkD_ok (a_cons (e_xis (cV := .ref (He.ga K "WrongTools")) (cv := .ref (He.ga K "WrongTools")) (fun u h => h) (isTab_ok W.x_all (List.mem_of_getElem? (i := 26) rfl)) rfl W.b_isinstance (e_var 0) (pe_glob rfl W.k_WrongTools rfl)) (a_cons (e_xis (cV := .ref (He.ga K "WrongForm")) (cv := .ref (He.ga K "WrongForm")) (fun u h => h) (isTab_ok W.x_all (List.mem_of_getElem? (i := 23) rfl)) rfl W.b_isinstance (e_var 0) (pe_glob rfl W.k_WrongForm rfl)) (a_cons (e_xis (cV := .ref (He.ga K "MissingLine")) (cv := .ref (He.ga K "MissingLine")) (fun u h => h) (isTab_ok W.x_all (List.mem_of_getElem? (i := 6) rfl)) rfl W.b_isinstance (e_var 0) (pe_glob rfl W.k_MissingLine rfl)) a_nil)))))) (ss_one (s_ret (e_var 1))))))))))))
theorem bn__law_right (W : Wd K mg) : Binds K W.d__law_right.choose ["which", "error", "first", "second", "word"] [] := W.d__law_right.choose_spec.bindsN fun _ _ _ _ _ _ us hl => match us, hl with | [_, _, _, _, _], _ => rfl
theorem ok__law_right (W : Wd K mg) : FnOk P w K mg base CX0 3 (He.ga K "_law_right") W.d__law_right.choose ["which", "error", "first", "second", "word"] (spF K Pr 5 m__law_right) := by
  refine FunD.ok W.d__law_right.choose_spec sc__law_right (fun _ _ _ _ h => spF_len h) fun cdv A outer s H vs Q E hr h => ?_
  have hu := hu_of hr
  refine ⟨rdS K Pr E c__law_right, ?_, body_rd (N := ["which", "error", "first", "second", "word", "kinds", "k", "due"]) h⟩
  exact (ss_cons (s_if (t_cmp (op_neA hr.units) pr_ne (e_call (ok__law_fields W) (hr.mono (by decide)) rfl W.g__law_fields W.d__law_fields.choose_spec.kp (bn__law_fields W) pass00 (a_cons (e_var 0) (a_cons (e_var 1) a_nil))) (e_call (ok__law_due W) (hr.mono (by decide)) rfl W.g__law_due W.d__law_due.choose_spec.kp (bn__law_due W) pass00 (a_cons (e_var 0) (a_cons (e_var 2) (a_cons (e_var 3) (a_cons (e_var 4) a_nil))))) (nomark _)) (ss_one (s_ret e_bl)) ss_nil) (ss_cons (s_set (i := 5) sc__law_right.nd rfl (by first | exact Or.inl rfl | exact Or.inr rfl) (e_call (ok__law_kinds W) (hr.mono (by decide)) rfl W.g__law_kinds W.d__law_kinds.choose_spec.kp (bn__law_kinds W) pass00 (a_cons (e_var 1) a_nil))) (ss_cons (s_for (passes_of rfl) rfl (i_r1 rfl W.b_range (a_cons e_int a_nil)) (g_name (i := 6) sc__law_right.nd rfl (by first | exact Or.inl rfl | exact Or.inr rfl)) (ss_cons (s_set (i := 7) sc__law_right.nd rfl (by first | exact Or.inl rfl | exact Or.inr rfl) (e_or (e_cmp (op_eqA hr.units) pr_eq (e_var 6) (e_var 0) (nomark _)) (e_one (e_and (e_cmp (op_eqA hr.units) pr_eq (e_var 6) e_int (nomark _)) (e_one (e_cmp op_gt pr_gt (e_var 0) e_int (nomark _))))))) (ss_one (s_if (t_cmp (op_neA hr.units) pr_ne (e_ix ix_A pr_ix (e_var 5) (e_var 6) (fun _ _ => rfl)) (e_var 7) (nomark _)) (ss_one (s_ret e_bl)) ss_nil)))) (ss_one (s_ret (e_and (e_xis (cV := .ref (He.ga K "RiddleError")) (cv := .ref (He.ga K "RiddleError")) (fun u h => h) (isTab_ok W.x_all (List.mem_of_getElem? (i := 19) rfl)) rfl W.b_isinstance (e_var 1) (pe_glob rfl W.k_RiddleError rfl)) (e_one (e_xis (cV := .ty "ValueError") (cv := .type "ValueError") (fun u h => h) (isTabB_ok W.x_all (List.mem_of_getElem? (i := 0) rfl)) rfl W.b_isinstance (e_var 1) (pe_bltn rfl W.b_ValueError (by kernel_rfl) rfl)))))))))
theorem bn__law_number (W : Wd K mg) : Binds K W.d__law_number.choose ["source"] [] := W.d__law_number.choose_spec.bindsN fun _ _ _ _ _ _ us hl => match us, hl with | [_], _ => rfl
theorem ok__law_number (W : Wd K mg) : FnOk P w K mg base CX0 2 (He.ga K "_law_number") W.d__law_number.choose ["source"] (spF K Pr 1 m__law_number) := by
  refine FunD.ok W.d__law_number.choose_spec sc__law_number (fun _ _ _ _ h => spF_len h) fun cdv A outer s H vs Q E hr h => ?_
  have hu := hu_of hr
  refine ⟨rdS K Pr E c__law_number, ?_, body_rd (N := ["source", "number"]) h⟩
  exact (ss_cons (s_set (i := 1) sc__law_number.nd rfl (by first | exact Or.inl rfl | exact Or.inr rfl) (e_ix ix_A pr_ix (e_lst mkD_ok (a_cons e_int (a_cons e_int (a_cons e_int (a_cons (e_call (ok__law_draw W) (hr.mono (by decide)) rfl W.g__law_draw W.d__law_draw.choose_spec.kp (bn__law_draw W) pass00 (a_cons (e_var 0) (a_cons e_int a_nil))) (a_cons (e_call (ok__law_draw W) (hr.mono (by decide)) rfl W.g__law_draw W.d__law_draw.choose_spec.kp (bn__law_draw W) pass00 (a_cons (e_var 0) (a_cons (e_bin op_pow pr_pow e_int e_int) a_nil))) (a_cons (e_bin op_addA (pr_add mkD_ok) (e_bin op_pow pr_pow e_int e_int) (e_call (ok__law_draw W) (hr.mono (by decide)) rfl W.g__law_draw W.d__law_draw.choose_spec.kp (bn__law_draw W) pass00 (a_cons (e_var 0) (a_cons e_int a_nil)))) a_nil))))))) (e_call (ok__law_draw W) (hr.mono (by decide)) rfl W.g__law_draw W.d__law_draw.choose_spec.kp (bn__law_draw W) pass00 (a_cons (e_var 0) (a_cons e_int a_nil))) (fun _ _ => rfl))) (ss_one (s_ret (e_ix ix_A pr_ix (e_lst mkD_ok (a_cons (e_var 1) (a_cons (e_bin op_sub pr_sub e_int (e_var 1)) a_nil))) (e_call (ok__law_draw W) (hr.mono (by decide)) rfl W.g__law_draw W.d__law_draw.choose_spec.kp (bn__law_draw W) pass00 (a_cons (e_var 0) (a_cons e_int a_nil))) (fun _ _ => rfl)))))
theorem bn_law (W : Wd K mg) : Binds K W.d_law.choose ["script"] [] := W.d_law.choose_spec.bindsN fun _ _ _ _ _ _ us hl => match us, hl with | [_], _ => rfl
theorem ok_law (W : Wd K mg) : FnOk P w K mg base CX0 5 (He.ga K "law") W.d_law.choose ["script"] (spF K Pr 1 m_law) := by
  refine FunD.ok W.d_law.choose_spec sc_law (fun _ _ _ _ h => spF_len h) fun cdv A outer s H vs Q E hr h => ?_
  have hu := hu_of hr
  refine ⟨rdS K Pr E c_law, ?_, body_rd (N := ["script", "words", "which", "source", "first", "second", "word", "error", "other"]) h⟩
  exact (ss_cons (s_set (i := 1) sc_law.nd rfl (by first | exact Or.inl rfl | exact Or.inr rfl) (e_lst mkD_ok (a_cons e_str (a_cons e_str (a_cons e_str (a_cons e_str (a_cons e_str (a_cons e_str (a_cons e_str (a_cons e_str (a_cons e_str a_nil))))))))))) (ss_cons (s_for (passes_of rfl) rfl (i_r1 rfl W.b_range (a_cons e_int a_nil)) (g_name (i := 2) sc_law.nd rfl (by first | exact Or.inl rfl | exact Or.inr rfl)) (ss_cons (s_set (i := 3) sc_law.nd rfl (by first | exact Or.inl rfl | exact Or.inr rfl) (e_call (ok__law_source W) (hr.mono (by decide)) rfl W.g__law_source W.d__law_source.choose_spec.kp (bn__law_source W) pass00 (a_cons (e_var 0) (a_cons (e_var 2) a_nil)))) (ss_cons (s_set (i := 4) sc_law.nd rfl (by first | exact Or.inl rfl | exact Or.inr rfl) (e_call (ok__law_number W) (hr.mono (by decide)) rfl W.g__law_number W.d__law_number.choose_spec.kp (bn__law_number W) pass00 (a_cons (e_var 3) a_nil))) (ss_cons (s_set (i := 5) sc_law.nd rfl (by first | exact Or.inl rfl | exact Or.inr rfl) (e_call (ok__law_number W) (hr.mono (by decide)) rfl W.g__law_number W.d__law_number.choose_spec.kp (bn__law_number W) pass00 (a_cons (e_var 3) a_nil))) (ss_cons (s_set (i := 6) sc_law.nd rfl (by first | exact Or.inl rfl | exact Or.inr rfl) (e_ix ix_A pr_ix (e_var 1) (e_call (ok__law_draw W) (hr.mono (by decide)) rfl W.g__law_draw W.d__law_draw.choose_spec.kp (bn__law_draw W) pass00 (a_cons (e_var 3) (a_cons e_int a_nil))) (fun _ _ => rfl))) (ss_cons (s_set (i := 7) sc_law.nd rfl (by first | exact Or.inl rfl | exact Or.inr rfl) (e_call (ok__law_made W) (hr.mono (by decide)) rfl W.g__law_made W.d__law_made.choose_spec.kp (bn__law_made W) pass00 (a_cons (e_var 2) (a_cons (e_var 4) (a_cons (e_var 5) (a_cons (e_var 6) a_nil)))))) (ss_cons (s_set (i := 8) sc_law.nd rfl (by first | exact Or.inl rfl | exact Or.inr rfl) (e_call (ok__law_made W) (hr.mono (by decide)) rfl W.g__law_made W.d__law_made.choose_spec.kp (bn__law_made W) pass00 (a_cons (e_var 2) (a_cons (e_bin op_addA (pr_add mkD_ok) (e_var 4) e_int) (a_cons (e_bin op_sub pr_sub (e_var 5) e_int) (a_cons (e_bin op_addA (pr_add mkD_ok) (e_var 6) e_str) a_nil)))))) (ss_cons (s_if (t_w (w_or (t_cmp op_isN pr_isN (e_var 7) e_non (nomark _)) (w_or1 (t_not (t_val (e_call (ok__law_right W) (hr.mono (by decide)) rfl W.g__law_right W.d__law_right.choose_spec.kp (bn__law_right W) pass00 (a_cons (e_var 2) (a_cons (e_var 7) (a_cons (e_var 4) (a_cons (e_var 5) (a_cons (e_var 6) a_nil))))))))))) (ss_one (s_ret e_bl)) ss_nil) (ss_one (s_if (t_not (t_val (e_call (ok__law_right W) (hr.mono (by decide)) rfl W.g__law_right W.d__law_right.choose_spec.kp (bn__law_right W) pass00 (a_cons (e_var 2) (a_cons (e_var 8) (a_cons (e_bin op_addA (pr_add mkD_ok) (e_var 4) e_int) (a_cons (e_bin op_sub pr_sub (e_var 5) e_int) (a_cons (e_bin op_addA (pr_add mkD_ok) (e_var 6) e_str) a_nil)))))))) (ss_one (s_ret e_bl)) ss_nil)))))))))) (ss_one (s_ret e_bl))))
end
end K83
set_option Elab.async false
set_option linter.all false
set_option autoImplicit false
set_option maxRecDepth 100000
set_option maxHeartbeats 2000000
namespace K83
open PySem PySem.Spec PyProof.Rows L2 Sl
local macro_rules | `(tactic| wp_step) => `(tactic| first
  | with_reducible refine wS_seq ?_
  | with_reducible refine seqK_nx ?_
  | with_reducible refine seqK_rt ?_
  | with_reducible refine seqK_bk ?_
  | with_reducible refine seqK_ct ?_
  | with_reducible refine fnQ_nx ?_
  | with_reducible refine fnQ_rt ?_
  | with_reducible refine turn_nx ?_
  | with_reducible refine turn_ct ?_
  | with_reducible refine turn_bk ?_
  | with_reducible refine turn_rt ?_
  | with_reducible refine wS_if ?_
  | with_reducible refine wS_set ?_
  | with_reducible refine wS_asg ?_
  | with_reducible refine wS_ret ?_
  | with_reducible refine wS_drop ?_
  | with_reducible refine wS_nx ?_
  | with_reducible refine wS_bk ?_
  | with_reducible refine wS_ct ?_
  | with_reducible refine wS_forS ?_
  | with_reducible refine wS_for1 ?_
  | with_reducible refine wS_setL ?_
  | with_reducible refine wS_dputK ?_
  | with_reducible refine wE_op ?_
  | with_reducible refine wE_c ?_
  | ((with_reducible apply wE_var); rfl)
  | with_reducible refine wE_call ?_
  | with_reducible refine wE_cb ?_
  | with_reducible refine wE_and ?_
  | with_reducible refine wE_or ?_
  | with_reducible refine wE_not ?_
  | with_reducible refine wE_if ?_
  | with_reducible refine wE_isi ?_
  | with_reducible refine wE_chain ?_
  | with_reducible refine wE_neg ?_
  | with_reducible refine wE_lst ?_
  | with_reducible refine wE_tup ?_
  | with_reducible refine wE_frz ?_
  | with_reducible refine wE_append ?_
  | with_reducible refine wE_sl ?_
  | with_reducible refine wE_rev ?_
  | with_reducible refine wE_dnew ?_
  | with_reducible refine wZ_d ?_
  | ((with_reducible apply isO_o); (first | assumption | exact app_get0 | exact app_get1 | exact app_get2 | exact List.getElem?_set_self (by assumption) | exact List.getElem?_set_self (by rw [List.length_set]; assumption) | (rw [List.getElem?_append_right (Nat.le_refl _), Nat.sub_self]; rfl) | exact getA0 (by assumption) | exact getA1 (by assumption)))
  | ((with_reducible apply wApp_o); (first | assumption | exact app_get0 | exact app_get1 | exact app_get2 | exact List.getElem?_set_self (by assumption) | exact List.getElem?_set_self (by rw [List.length_set]; assumption) | (rw [List.getElem?_append_right (Nat.le_refl _), Nat.sub_self]; rfl) | exact getA0 (by assumption) | exact getA1 (by assumption)))
  | ((with_reducible apply wD_o); (first | assumption | exact app_get0 | exact app_get1 | exact app_get2 | exact List.getElem?_set_self (by assumption) | exact List.getElem?_set_self (by rw [List.length_set]; assumption) | (rw [List.getElem?_append_right (Nat.le_refl _), Nat.sub_self]; rfl) | exact getA0 (by assumption) | exact getA1 (by assumption)))
  | ((with_reducible apply wZ_o); (first | assumption | exact app_get0 | exact app_get1 | exact app_get2 | exact List.getElem?_set_self (by assumption) | exact List.getElem?_set_self (by rw [List.length_set]; assumption) | (rw [List.getElem?_append_right (Nat.le_refl _), Nat.sub_self]; rfl) | exact getA0 (by assumption) | exact getA1 (by assumption)); exact allD_map' _)
  | with_reducible refine wE_rep ?_
  | with_reducible refine wE_sortSet ?_
  | with_reducible refine wE_lenSet ?_
  | with_reducible refine wE_comp1 ?_
  | with_reducible refine wE_compS ?_
  | with_reducible refine wP_none ?_
  | with_reducible refine wP_some ?_
  | with_reducible refine wA_nil ?_
  | with_reducible refine wA_cons ?_
  | with_reducible refine wA_app ?_
  | with_reducible refine wB_t ?_
  | with_reducible refine wB_f ?_
  | with_reducible refine wB_nt ?_
  | with_reducible refine wB_nf ?_
  | with_reducible refine wB_dec (fun _ => ?_) (fun _ => ?_)
  | with_reducible refine wB_not (fun _ => ?_) (fun _ => ?_)
  | with_reducible refine wB_nb (fun _ => ?_) (fun _ => ?_)
  | with_reducible refine wB_b (fun _ => ?_) (fun _ => ?_)
  | with_reducible refine wO_sub ?_
  | ((with_reducible apply wO_inS0); rfl)
  | ((with_reducible apply wO_inS1); rfl)
  | ((with_reducible apply wO_inD0); (first | assumption | exact app_get0 | exact app_get1 | exact app_get2 | exact List.getElem?_set_self (by assumption) | exact List.getElem?_set_self (by rw [List.length_set]; assumption) | (rw [List.getElem?_append_right (Nat.le_refl _), Nat.sub_self]; rfl) | exact getA0 (by assumption) | exact getA1 (by assumption)))
  | ((with_reducible apply wO_inD1); (first | assumption | exact app_get0 | exact app_get1 | exact app_get2 | exact List.getElem?_set_self (by assumption) | exact List.getElem?_set_self (by rw [List.length_set]; assumption) | (rw [List.getElem?_append_right (Nat.le_refl _), Nat.sub_self]; rfl) | exact getA0 (by assumption) | exact getA1 (by assumption)))
  | with_reducible refine wO_lt ?_
  | with_reducible refine wO_le ?_
  | with_reducible refine wO_gt ?_
  | with_reducible refine wO_ge ?_
  | with_reducible refine wO_add ?_
  | with_reducible refine wO_eqI ?_
  | with_reducible refine wO_neI ?_
  | with_reducible refine wO_isN ?_
  | with_reducible refine wO_notN ?_
  | with_reducible refine wC_lenL ?_
  | with_reducible refine wC_lenT ?_
  | with_reducible refine wC_int ?_
  | ((with_reducible apply wC_lenD); (first | assumption | exact app_get0 | exact app_get1 | exact app_get2 | exact List.getElem?_set_self (by assumption) | exact List.getElem?_set_self (by rw [List.length_set]; assumption) | (rw [List.getElem?_append_right (Nat.le_refl _), Nat.sub_self]; rfl) | exact getA0 (by assumption) | exact getA1 (by assumption)))
  | with_reducible refine wC_abs ?_
  | with_reducible refine wM_N ?_
  | with_reducible refine wM_Dm ?_
  | with_reducible refine wM_Tm ?_
  | ((with_reducible apply wM_T); rfl)
  | ((with_reducible apply wM_D); rfl)
  | (with_reducible refine Exists.intro _ (And.intro rfl ?_))
  | (with_reducible refine And.intro rfl ?_)
  | ((with_reducible refine And.intro (size_small ?_) ?_); rfl)
  | with_reducible refine wO_pow6 ?_
  | ((with_reducible refine wO_mulR ?_ ?_); decide)
  | ((with_reducible refine wO_mulL ?_ ?_); decide)
  | ((with_reducible refine wO_mod ?_ ?_); omega)
  | ((with_reducible refine wO_div ?_ ?_ ?_); omega; omega)
  | ((with_reducible apply wU_o); (first | assumption | exact app_get0 | exact app_get1 | exact app_get2 | exact List.getElem?_set_self (by assumption) | exact List.getElem?_set_self (by rw [List.length_set]; assumption) | (rw [List.getElem?_append_right (Nat.le_refl _), Nat.sub_self]; rfl) | exact getA0 (by assumption) | exact getA1 (by assumption)); rfl)
  | ((with_reducible apply wO_ixZ); (apply asSeq_o; (first | assumption | exact app_get0 | exact app_get1 | exact app_get2 | exact List.getElem?_set_self (by assumption) | exact List.getElem?_set_self (by rw [List.length_set]; assumption) | (rw [List.getElem?_append_right (Nat.le_refl _), Nat.sub_self]; rfl) | exact getA0 (by assumption) | exact getA1 (by assumption))); rfl))
/-! ### rules for own exceptions -/
section
variable {env : Sl.Env} {st : Sto} {Q : VL → Sto → Prop} {ca : SE} {cs : SL} {c : Str} {fs : List Str}
def wExc (c : Str) (fs : List Str) (st : Sto) (xs : List VL) (Q : VL → Sto → Prop) : Prop := ∃ ds, dataAll xs = some ds ∧ (ds.length = fs.length ∧ ds.length ≤ 1000) ∧ Q (.o st.length) (st ++ [.ex c (fs.reverse.zip ds.reverse)])
theorem wE_exc (w : wA cs env st fun xs st1 => wExc c fs st1 xs Q) : wE (eExc c fs cs) env st Q := by
  obtain ⟨xs, st1, e, ds, e2, hl, q⟩ := w
  refine ⟨_, _, ?_, q⟩
  unfold eExc
  rw [e]
  show (match dataAll xs with | some ds => _ | none => _) = _
  rw [e2]
  exact if_pos hl
theorem wA_no {QL : List VL → Sto → Prop} (q : QL [] st) : wA (fun _ st => some (.ok [] st)) env st QL := ⟨_, _, rfl, q⟩
def wXf (ns : List Str) (f : Str) (st : Sto) (x : VL) (Q : VL → Sto → Prop) : Prop := ∃ n c fs d, x = .o n ∧ st[n]? = some (.ex c fs) ∧ c ∈ ns ∧ fs.lookup f = some d ∧ Q (.d d) st
theorem wE_xf {ns : List Str} {f : Str} (w : wE ca env st fun x st1 => wXf ns f st1 x Q) : wE (eXf ns f ca) env st Q := by
  obtain ⟨x, st1, e, n, c, fs, d, rfl, h1, h2, h3, q⟩ := w
  refine ⟨_, _, ?_, q⟩
  unfold eXf
  rw [e]
  show (match st1[n]? with | some (.ex c fs) => _ | _ => _) = _
  rw [h1]
  show (if c ∈ ns then _ else _) = _
  rw [if_pos h2, h3]
  rfl
def wXis (tb : List (Str × Bool)) (st : Sto) (x : VL) (Q : VL → Sto → Prop) : Prop := ∃ n c fs b, x = .o n ∧ st[n]? = some (.ex c fs) ∧ tb.lookup c = some b ∧ Q (.d (.bool b)) st
theorem wE_xis {tb : List (Str × Bool)} (w : wE ca env st fun x st1 => wXis tb st1 x Q) : wE (eXis tb ca) env st Q := by
  obtain ⟨x, st1, e, n, c, fs, b, rfl, h1, h2, q⟩ := w
  refine ⟨_, _, ?_, q⟩
  unfold eXis
  rw [e]
  show (match st1[n]? with | some (.ex c _) => _ | _ => _) = _
  rw [h1]
  show (tb.lookup c).map _ = _
  rw [h2]
  rfl
theorem wXis_o {tb : List (Str × Bool)} {n : Nat} {fl : List (Str × PyData)} {b : Bool} (h : st[n]? = some (.ex c fl)) (e : tb.lookup c = some b) (q : Q (.d (.bool b)) st) : wXis tb st (.o n) Q := ⟨n, c, fl, b, rfl, h, e, q⟩
theorem wO_neSame {d : PyData} (hs : SeqAt.shaped d = true) (he : PyData.eqv d d = true) (q : Q (.d (.bool false)) st) : wO oNe st (.d d) (.d d) Q := by
  refine ⟨_, _, ?_, q⟩
  unfold oNe oEqC
  simp only [asD]
  rw [if_pos (by rw [hs]; simp), he]
  rfl
theorem wO_neB {a b : Bool} (q : Q (.d (.bool (a != b))) st) : wO oNe st (.d (.bool a)) (.d (.bool b)) Q := by
  refine ⟨_, _, ?_, q⟩
  cases a <;> cases b <;> rfl
theorem wO_addS {mk : Mk} {a b : Str} (h : a.length + b.length ≤ sizeLine) (q : Q (.d (.str (a ++ b))) st) : wO (oAdd mk) st (.d (.str a)) (.d (.str b)) Q := by
  refine ⟨_, _, ?_, q⟩
  unfold oAdd
  simp only [h, if_true]
end
/-! ### the classes -/
def d0 : XCl := ⟨"", "", [], []⟩
def xc (w : Nat) : XCl := XCS.getD w d0
theorem look_at {β : Type} (g : XCl → β) : ∀ (xs : List XCl) (i : Nat), (xs.map (·.name)).Nodup → i < xs.length → (xs.map fun x => (x.name, g x)).lookup (xs.getD i d0).name = some (g (xs.getD i d0))
  | [], _, _, h => by cases h
  | x :: xs, 0, _, _ => by simp [List.lookup]
  | x :: xs, i + 1, hn, hi => by
    rw [List.map_cons, List.nodup_cons] at hn
    have hi' : i < xs.length := by simpa using hi
    have hne : (xs.getD i d0).name ≠ x.name := fun e => hn.1 (by
      rw [← e]
      exact List.mem_map.mpr ⟨_, by simp [hi'], rfl⟩)
    have e0 : ((xs.getD i d0).name == x.name) = false := by simpa using hne
    have := look_at g xs i hn.2 hi'
    rw [List.map_cons, List.getD_cons_succ]
    simp only [List.lookup, e0]
    exact this
theorem names_nd : (XCS.map (·.name)).Nodup := by decide +kernel
theorem isTab_look {w : Nat} (hw : w < 27) (t : Str) : (isTab XCS t).lookup (xc w).name = some ((xc w).anc.contains t) := look_at (fun x => x.anc.contains t) XCS w names_nd hw
theorem isTabB_look {w : Nat} (hw : w < 27) : (isTabB XCS).lookup (xc w).name = some true := look_at (fun _ => true) XCS w names_nd hw
/-- what is given to the class's __init__ -/
def vals (w : Nat) (a b s : PyData) : List PyData := if w = 0 ∨ w = 11 then [s, a] else if w = 7 then [a, s] else if w = 9 ∨ w = 17 ∨ w = 18 then [] else if w = 10 then [.tuple [a, b]] else if w < 21 then [a] else [a, b]
def exOb (w : Nat) (a b s : PyData) : Ob := .ex (xc w).name ((xc w).fs.reverse.zip (vals w a b s).reverse)
theorem made_eq (w : Nat) (hw : w < 27) (a b s : PyData) (st : Sto) : m__law_made [.d (.int (w : Int)), .d a, .d b, .d s] st = some (.ok (.o st.length) (st ++ [exOb w a b s])) := by
  match w, hw with
  | 0, _ => rfl
  | 1, _ => rfl
  | 2, _ => rfl
  | 3, _ => rfl
  | 4, _ => rfl
  | 5, _ => rfl
  | 6, _ => rfl
  | 7, _ => rfl
  | 8, _ => rfl
  | 9, _ => rfl
  | 10, _ => rfl
  | 11, _ => rfl
  | 12, _ => rfl
  | 13, _ => rfl
  | 14, _ => rfl
  | 15, _ => rfl
  | 16, _ => rfl
  | 17, _ => rfl
  | 18, _ => rfl
  | 19, _ => rfl
  | 20, _ => rfl
  | 21, _ => rfl
  | 22, _ => rfl
  | 23, _ => rfl
  | 24, _ => rfl
  | 25, _ => rfl
  | 26, _ => rfl
  | n + 27, h => exact absurd h (by omega)
theorem due_eq (w : Nat) (hw : w < 27) (a b s : PyData) (st : Sto) : m__law_due [.d (.int (w : Int)), .d a, .d b, .d s] st = some (.ok (.d (.list (vals w a b s))) st) := by
  match w, hw with
  | 0, _ => rfl
  | 1, _ => rfl
  | 2, _ => rfl
  | 3, _ => rfl
  | 4, _ => rfl
  | 5, _ => rfl
  | 6, _ => rfl
  | 7, _ => rfl
  | 8, _ => rfl
  | 9, _ => rfl
  | 10, _ => rfl
  | 11, _ => rfl
  | 12, _ => rfl
  | 13, _ => rfl
  | 14, _ => rfl
  | 15, _ => rfl
  | 16, _ => rfl
  | 17, _ => rfl
  | 18, _ => rfl
  | 19, _ => rfl
  | 20, _ => rfl
  | 21, _ => rfl
  | 22, _ => rfl
  | 23, _ => rfl
  | 24, _ => rfl
  | 25, _ => rfl
  | 26, _ => rfl
  | n + 27, h => exact absurd h (by omega)
theorem fields_wp {w : Nat} (hw : w < 27) {a b s : PyData} {st : Sto} {n : Nat} (h : st[n]? = some (exOb w a b s)) {Q : VL → Sto → Prop} (q : Q (.d (.list (vals w a b s))) st) : wF m__law_fields [.d (.int (w : Int)), .o n] st Q := by
  have key : ∀ {ns : List Str} {f : Str} {d : PyData} {env : Sl.Env} {Q' : VL → Sto → Prop}, (xc w).name ∈ ns → ((xc w).fs.reverse.zip (vals w a b s).reverse).lookup f = some d → env[1]? = some (some (.o n)) → Q' (.d d) st → wE (eXf ns f (eVar 1)) env st Q' := fun h1 h2 h3 q' => wE_xf (wE_var h3 ⟨n, _, _, _, rfl, h, h1, h2, q'⟩)
  refine wF_run ?_
  unfold c__law_fields
  repeat' wp_step
  · refine wF_run ?_
    unfold c__law_fields_one
    repeat' wp_step
    · obtain rfl : w = 0 := by omega
      repeat' (first | wp_step | refine key (by decide +kernel) rfl rfl ?_)
      exact q
    · obtain rfl : w = 1 := by omega
      repeat' (first | wp_step | refine key (by decide +kernel) rfl rfl ?_)
      exact q
    · obtain rfl : w = 2 := by omega
      repeat' (first | wp_step | refine key (by decide +kernel) rfl rfl ?_)
      exact q
    · obtain rfl : w = 3 := by omega
      repeat' (first | wp_step | refine key (by decide +kernel) rfl rfl ?_)
      exact q
    · obtain rfl : w = 4 := by omega
      repeat' (first | wp_step | refine key (by decide +kernel) rfl rfl ?_)
      exact q
    · obtain rfl : w = 5 := by omega
      repeat' (first | wp_step | refine key (by decide +kernel) rfl rfl ?_)
      exact q
    · obtain rfl : w = 6 := by omega
      repeat' (first | wp_step | refine key (by decide +kernel) rfl rfl ?_)
      exact q
    · obtain rfl : w = 7 := by omega
      repeat' (first | wp_step | refine key (by decide +kernel) rfl rfl ?_)
      exact q
    · obtain rfl : w = 8 := by omega
      repeat' (first | wp_step | refine key (by decide +kernel) rfl rfl ?_)
      exact q
    · obtain rfl : w = 9 := by omega
      repeat' (first | wp_step | refine key (by decide +kernel) rfl rfl ?_)
      exact q
    · obtain rfl : w = 10 := by omega
      repeat' (first | wp_step | refine key (by decide +kernel) rfl rfl ?_)
      exact q
    · obtain rfl : w = 11 := by omega
      repeat' (first | wp_step | refine key (by decide +kernel) rfl rfl ?_)
      exact q
    · obtain rfl : w = 12 := by omega
      repeat' (first | wp_step | refine key (by decide +kernel) rfl rfl ?_)
      exact q
    · obtain rfl : w = 13 := by omega
      repeat' (first | wp_step | refine key (by decide +kernel) rfl rfl ?_)
      exact q
    · exact absurd hw (by omega)
  · refine wF_run ?_
    unfold c__law_fields_two
    repeat' wp_step
    · obtain rfl : w = 14 := by omega
      repeat' (first | wp_step | refine key (by decide +kernel) rfl rfl ?_)
      exact q
    · obtain rfl : w = 15 := by omega
      repeat' (first | wp_step | refine key (by decide +kernel) rfl rfl ?_)
      exact q
    · obtain rfl : w = 16 := by omega
      repeat' (first | wp_step | refine key (by decide +kernel) rfl rfl ?_)
      exact q
    · obtain rfl : w = 17 := by omega
      repeat' (first | wp_step | refine key (by decide +kernel) rfl rfl ?_)
      exact q
    · obtain rfl : w = 18 := by omega
      repeat' (first | wp_step | refine key (by decide +kernel) rfl rfl ?_)
      exact q
    · obtain rfl : w = 19 := by omega
      repeat' (first | wp_step | refine key (by decide +kernel) rfl rfl ?_)
      exact q
    · obtain rfl : w = 20 := by omega
      repeat' (first | wp_step | refine key (by decide +kernel) rfl rfl ?_)
      exact q
    · obtain rfl : w = 21 := by omega
      repeat' (first | wp_step | refine key (by decide +kernel) rfl rfl ?_)
      exact q
    · obtain rfl : w = 22 := by omega
      repeat' (first | wp_step | refine key (by decide +kernel) rfl rfl ?_)
      exact q
    · obtain rfl : w = 23 := by omega
      repeat' (first | wp_step | refine key (by decide +kernel) rfl rfl ?_)
      exact q
    · obtain rfl : w = 24 := by omega
      repeat' (first | wp_step | refine key (by decide +kernel) rfl rfl ?_)
      exact q
    · obtain rfl : w = 25 := by omega
      repeat' (first | wp_step | refine key (by decide +kernel) rfl rfl ?_)
      exact q
    · obtain rfl : w = 26 := by omega
      repeat' (first | wp_step | refine key (by decide +kernel) rfl rfl ?_)
      exact q
    · exact absurd hw (by omega)
end K83
set_option Elab.async false
set_option linter.all false
set_option autoImplicit false
set_option maxRecDepth 100000
set_option maxHeartbeats 2000000
namespace K83
open PySem PySem.Spec PyProof.Rows L2 Sl
local macro_rules | `(tactic| wp_step) => `(tactic| first
  | with_reducible refine wS_seq ?_
  | with_reducible refine seqK_nx ?_
  | with_reducible refine seqK_rt ?_
  | with_reducible refine seqK_bk ?_
  | with_reducible refine seqK_ct ?_
  | with_reducible refine fnQ_nx ?_
  | with_reducible refine fnQ_rt ?_
  | with_reducible refine turn_nx ?_
  | with_reducible refine turn_ct ?_
  | with_reducible refine turn_bk ?_
  | with_reducible refine turn_rt ?_
  | with_reducible refine wS_if ?_
  | with_reducible refine wS_set ?_
  | with_reducible refine wS_asg ?_
  | with_reducible refine wS_ret ?_
  | with_reducible refine wS_drop ?_
  | with_reducible refine wS_nx ?_
  | with_reducible refine wS_bk ?_
  | with_reducible refine wS_ct ?_
  | with_reducible refine wS_forS ?_
  | with_reducible refine wS_for1 ?_
  | with_reducible refine wS_setL ?_
  | with_reducible refine wS_dputK ?_
  | with_reducible refine wE_op ?_
  | with_reducible refine wE_c ?_
  | ((with_reducible apply wE_var); rfl)
  | with_reducible refine wE_call ?_
  | with_reducible refine wE_cb ?_
  | with_reducible refine wE_and ?_
  | with_reducible refine wE_or ?_
  | with_reducible refine wE_not ?_
  | with_reducible refine wE_if ?_
  | with_reducible refine wE_isi ?_
  | with_reducible refine wE_chain ?_
  | with_reducible refine wE_neg ?_
  | with_reducible refine wE_lst ?_
  | with_reducible refine wE_tup ?_
  | with_reducible refine wE_frz ?_
  | with_reducible refine wE_append ?_
  | with_reducible refine wE_sl ?_
  | with_reducible refine wE_rev ?_
  | with_reducible refine wE_dnew ?_
  | with_reducible refine wZ_d ?_
  | ((with_reducible apply isO_o); (first | assumption | exact app_get0 | exact app_get1 | exact app_get2 | exact List.getElem?_set_self (by assumption) | exact List.getElem?_set_self (by rw [List.length_set]; assumption) | (rw [List.getElem?_append_right (Nat.le_refl _), Nat.sub_self]; rfl) | exact getA0 (by assumption) | exact getA1 (by assumption)))
  | ((with_reducible apply wApp_o); (first | assumption | exact app_get0 | exact app_get1 | exact app_get2 | exact List.getElem?_set_self (by assumption) | exact List.getElem?_set_self (by rw [List.length_set]; assumption) | (rw [List.getElem?_append_right (Nat.le_refl _), Nat.sub_self]; rfl) | exact getA0 (by assumption) | exact getA1 (by assumption)))
  | ((with_reducible apply wD_o); (first | assumption | exact app_get0 | exact app_get1 | exact app_get2 | exact List.getElem?_set_self (by assumption) | exact List.getElem?_set_self (by rw [List.length_set]; assumption) | (rw [List.getElem?_append_right (Nat.le_refl _), Nat.sub_self]; rfl) | exact getA0 (by assumption) | exact getA1 (by assumption)))
  | ((with_reducible apply wZ_o); (first | assumption | exact app_get0 | exact app_get1 | exact app_get2 | exact List.getElem?_set_self (by assumption) | exact List.getElem?_set_self (by rw [List.length_set]; assumption) | (rw [List.getElem?_append_right (Nat.le_refl _), Nat.sub_self]; rfl) | exact getA0 (by assumption) | exact getA1 (by assumption)); exact allD_map' _)
  | with_reducible refine wE_rep ?_
  | with_reducible refine wE_sortSet ?_
  | with_reducible refine wE_lenSet ?_
  | with_reducible refine wE_comp1 ?_
  | with_reducible refine wE_compS ?_
  | with_reducible refine wP_none ?_
  | with_reducible refine wP_some ?_
  | with_reducible refine wA_nil ?_
  | with_reducible refine wA_cons ?_
  | with_reducible refine wA_app ?_
  | with_reducible refine wB_t ?_
  | with_reducible refine wB_f ?_
  | with_reducible refine wB_nt ?_
  | with_reducible refine wB_nf ?_
  | with_reducible refine wB_dec (fun _ => ?_) (fun _ => ?_)
  | with_reducible refine wB_not (fun _ => ?_) (fun _ => ?_)
  | with_reducible refine wB_nb (fun _ => ?_) (fun _ => ?_)
  | with_reducible refine wB_b (fun _ => ?_) (fun _ => ?_)
  | with_reducible refine wO_sub ?_
  | ((with_reducible apply wO_inS0); rfl)
  | ((with_reducible apply wO_inS1); rfl)
  | ((with_reducible apply wO_inD0); (first | assumption | exact app_get0 | exact app_get1 | exact app_get2 | exact List.getElem?_set_self (by assumption) | exact List.getElem?_set_self (by rw [List.length_set]; assumption) | (rw [List.getElem?_append_right (Nat.le_refl _), Nat.sub_self]; rfl) | exact getA0 (by assumption) | exact getA1 (by assumption)))
  | ((with_reducible apply wO_inD1); (first | assumption | exact app_get0 | exact app_get1 | exact app_get2 | exact List.getElem?_set_self (by assumption) | exact List.getElem?_set_self (by rw [List.length_set]; assumption) | (rw [List.getElem?_append_right (Nat.le_refl _), Nat.sub_self]; rfl) | exact getA0 (by assumption) | exact getA1 (by assumption)))
  | with_reducible refine wO_lt ?_
  | with_reducible refine wO_le ?_
  | with_reducible refine wO_gt ?_
  | with_reducible refine wO_ge ?_
  | with_reducible refine wO_add ?_
  | with_reducible refine wO_eqI ?_
  | with_reducible refine wO_neI ?_
  | with_reducible refine wO_isN ?_
  | with_reducible refine wO_notN ?_
  | with_reducible refine wC_lenL ?_
  | with_reducible refine wC_lenT ?_
  | with_reducible refine wC_int ?_
  | ((with_reducible apply wC_lenD); (first | assumption | exact app_get0 | exact app_get1 | exact app_get2 | exact List.getElem?_set_self (by assumption) | exact List.getElem?_set_self (by rw [List.length_set]; assumption) | (rw [List.getElem?_append_right (Nat.le_refl _), Nat.sub_self]; rfl) | exact getA0 (by assumption) | exact getA1 (by assumption)))
  | with_reducible refine wC_abs ?_
  | with_reducible refine wM_N ?_
  | with_reducible refine wM_Dm ?_
  | with_reducible refine wM_Tm ?_
  | ((with_reducible apply wM_T); rfl)
  | ((with_reducible apply wM_D); rfl)
  | (with_reducible refine Exists.intro _ (And.intro rfl ?_))
  | (with_reducible refine And.intro rfl ?_)
  | ((with_reducible refine And.intro (size_small ?_) ?_); rfl)
  | with_reducible refine wO_pow6 ?_
  | ((with_reducible refine wO_mulR ?_ ?_); decide)
  | ((with_reducible refine wO_mulL ?_ ?_); decide)
  | ((with_reducible refine wO_mod ?_ ?_); omega)
  | ((with_reducible refine wO_div ?_ ?_ ?_); omega; omega)
  | ((with_reducible apply wU_o); (first | assumption | exact app_get0 | exact app_get1 | exact app_get2 | exact List.getElem?_set_self (by assumption) | exact List.getElem?_set_self (by rw [List.length_set]; assumption) | (rw [List.getElem?_append_right (Nat.le_refl _), Nat.sub_self]; rfl) | exact getA0 (by assumption) | exact getA1 (by assumption)); rfl)
  | ((with_reducible apply wO_ixZ); (apply asSeq_o; (first | assumption | exact app_get0 | exact app_get1 | exact app_get2 | exact List.getElem?_set_self (by assumption) | exact List.getElem?_set_self (by rw [List.length_set]; assumption) | (rw [List.getElem?_append_right (Nat.le_refl _), Nat.sub_self]; rfl) | exact getA0 (by assumption) | exact getA1 (by assumption))); rfl))
local macro_rules | `(tactic| wp_step) => `(tactic| first
  | with_reducible refine wE_xis ?_
  | ((with_reducible apply wXis_o); assumption; first | exact isTab_look (by assumption) _ | exact isTabB_look (by assumption))
  | ((with_reducible refine wO_addD ?_ ?_); exact size_small rfl))
theorem kinds_wp {w : Nat} (hw : w < 27) {fl : List (Str × PyData)} {st : Sto} {n : Nat} (h : st[n]? = some (.ex (xc w).name fl)) {Q : VL → Sto → Prop} (q : Q (.d (.list (XCS.map fun x => PyData.bool ((xc w).anc.contains x.name)))) st) : wF m__law_kinds [.o n] st Q := by
  refine wF_run ?_
  unfold c__law_kinds
  repeat' wp_step
  exact q
theorem kb_tab : ∀ w < 27, ∀ i < 27, ((xc w).anc.contains (xc i).name) = (decide (i = w) || (decide (i = 21) && decide (21 < w))) := by decide +kernel
theorem anc_rid : ∀ w < 27, ((xc w).anc.contains (Str.ofString "RiddleError")) = true := by decide +kernel
theorem right_wp {w : Nat} (hw : w < 27) {a b s : PyData} (hs : SeqAt.shaped (.list (vals w a b s)) = true) (he : PyData.eqv (.list (vals w a b s)) (.list (vals w a b s)) = true) {st : Sto} {n : Nat} (h : st[n]? = some (exOb w a b s)) {Q : VL → Sto → Prop} (q : Q (.d (.bool true)) st) :
    wF m__law_right [.d (.int (w : Int)), .o n, .d a, .d b, .d s] st Q := by
  have h' : st[n]? = some (.ex (xc w).name ((xc w).fs.reverse.zip (vals w a b s).reverse)) := h
  refine wF_run ?_
  unfold c__law_right
  repeat' wp_step
  refine fields_wp hw h ?_
  repeat' wp_step
  refine wF_of (due_eq w hw a b s st) ?_
  refine wO_neSame hs he ?_
  repeat' wp_step
  refine kinds_wp hw h' ?_
  refine wS_seq (wS_for1 (wA_cons (wE_c (wA_nil ⟨27, rfl, by decide, ?_⟩))))
  refine wL_rg (fun i env st' => (∃ e6 e7, env = [some (.d (.int (w : Int))), some (.o n), some (.d a), some (.d b), some (.d s), some (.d (.list (XCS.map fun x => PyData.bool ((xc w).anc.contains x.name)))), e6, e7]) ∧ st' = st)
    ⟨⟨_, _, rfl⟩, rfl⟩ (fun i env st' hi hI => ?_) (fun env st' hI => ?_)
  · obtain ⟨⟨e6, e7, rfl⟩, rfl⟩ := hI
    refine ⟨_, rfl, ?_⟩
    have hk : ((XCS.map fun x => PyData.bool ((xc w).anc.contains x.name)).map VL.d)[i]? = some (.d (.bool ((xc w).anc.contains (xc i).name))) := by
      have hl : i < XCS.length := hi
      rw [List.getElem?_map, List.getElem?_map, List.getElem?_eq_getElem hl]
      unfold xc
      rw [show XCS.getD i d0 = XCS[i] by simp [hl]]
      rfl
    have hkb := kb_tab w hw i hi
    repeat' wp_step
    · refine wO_ix (k := false) (xs := (XCS.map fun x => PyData.bool ((xc w).anc.contains x.name)).map VL.d) rfl hk (wE_var rfl (wO_neB ?_))
      rw [show ((xc w).anc.contains (xc i).name != true) = false by rw [hkb, decide_eq_true (show i = w by omega)]; rfl]
      repeat' wp_step
      exact ⟨⟨_, _, rfl⟩, rfl⟩
    · refine wO_ix (k := false) (xs := (XCS.map fun x => PyData.bool ((xc w).anc.contains x.name)).map VL.d) rfl hk (wE_var rfl (wO_neB ?_))
      rw [show ((xc w).anc.contains (xc i).name != decide ((21 : Int) < (w : Int))) = false by
        rw [hkb, decide_eq_false (show ¬ i = w by omega), decide_eq_true (show i = 21 by omega)]
        by_cases hw2 : 21 < w
        · rw [decide_eq_true hw2, decide_eq_true (show (21 : Int) < (w : Int) by omega)]
          rfl
        · rw [decide_eq_false hw2, decide_eq_false (show ¬ (21 : Int) < (w : Int) by omega)]
          rfl]
      repeat' wp_step
      exact ⟨⟨_, _, rfl⟩, rfl⟩
    · refine wO_ix (k := false) (xs := (XCS.map fun x => PyData.bool ((xc w).anc.contains x.name)).map VL.d) rfl hk (wE_var rfl (wO_neB ?_))
      rw [show ((xc w).anc.contains (xc i).name != false) = false by rw [hkb, decide_eq_false (show ¬ i = w by omega), decide_eq_false (show ¬ i = 21 by omega)]; rfl]
      repeat' wp_step
      exact ⟨⟨_, _, rfl⟩, rfl⟩
  · obtain ⟨⟨e6, e7, rfl⟩, rfl⟩ := hI
    repeat' wp_step
    · exact q
    · rename_i hf
      rw [anc_rid w hw] at hf
      cases hf
/-! ### draws -/
def Src (st : Sto) (s : Nat) : Prop := ∃ a b : Int, st[s]? = some (.lst [.d (.int a), .d (.int b)])
def srcO (a b : Int) : Ob := .lst [.d (.int a), .d (.int b)]
theorem Src.set {st : Sto} {s : Nat} (h : Src st s) (a b : Int) : Src (st.set s (srcO a b)) s := by
  obtain ⟨c, d, e⟩ := h
  exact ⟨a, b, List.getElem?_set_self (List.getElem?_eq_some_iff.mp e).1⟩
theorem wO_divW {i j : Int} {st : Sto} {Q : VL → Sto → Prop} (h1 : 0 < j) (h2 : j.natAbs.log2 < 9000) (q : Q (.d (.int (i / j))) st) : wO oDivW st (.d (.int i)) (.d (.int j)) Q := by
  refine ⟨_, _, ?_, q⟩
  unfold oDivW oI
  show (if (decide (0 < j) && decide (j.natAbs.log2 < 9000)) = true then some _ else none) = _
  rw [if_pos]
  rw [decide_eq_true h1, decide_eq_true h2]
  rfl
theorem log_few {j : Int} (h0 : 0 < j) (h : j ≤ 1000000000000) : j.natAbs.log2 < 9000 := by
  have h1 : j.natAbs < 10 ^ 13 := by omega
  rw [Nat.log2_lt (by omega)]
  exact Nat.lt_of_lt_of_le h1 (Nat.le_trans (show 10 ^ 13 ≤ 2 ^ 44 by decide) (Nat.pow_le_pow_right (by decide) (by decide)))
theorem l_source_wp {ns : List Int} {k : Int} (h0 : 0 ≤ k) {st : Sto} {Q : VL → Sto → Prop} (q : ∀ a b, Q (.o st.length) (st ++ [srcO a b])) : wF m__law_source [.d (.list (ns.map .int)), .d (.int k)] st Q := by
  refine wF_run ?_
  unfold c__law_source
  repeat' wp_step
  · rename_i h
    rw [List.length_map] at h
    have hk : ((k.toNat : Nat) : Int) = k := Int.toNat_of_nonneg h0
    have hl : k.toNat < ns.length := by omega
    rw [← hk]
    refine wO_ix (z := .d (.int (ns[k.toNat]'hl))) (k := false) (xs := (ns.map PyData.int).map VL.d) rfl ?_ ?_
    · rw [List.getElem?_map, List.getElem?_map, List.getElem?_eq_getElem hl]
      rfl
    · repeat' wp_step
      exact q _ _
  · exact q _ _
theorem l_draw_wp {st : Sto} {s : Nat} (h : Src st s) {n : Int} (h0 : 0 < n) (h1 : n ≤ 1000000000000) {Q : VL → Sto → Prop} (q : ∀ r a b : Int, 0 ≤ r → r < n → Q (.d (.int r)) (st.set s (srcO a b))) : wF m__law_draw [.o s, .d (.int n)] st Q := by
  obtain ⟨a, b, hs⟩ := h
  have hl : s < st.length := (List.getElem?_eq_some_iff.mp hs).1
  have hlog := log_few h0 h1
  refine wF_run ?_
  unfold c__law_draw
  repeat' (first | wp_step | refine wO_divW h0 hlog ?_)
  · exact q _ _ _ (Int.emod_nonneg _ (by omega)) (Int.emod_lt_of_pos _ h0)
  · exact q _ _ _ (Int.emod_nonneg _ (by omega)) (Int.emod_lt_of_pos _ h0)
theorem ixInts_wp {L : List Int} {r : Int} (h0 : 0 ≤ r) (h1 : r < L.length) {st : Sto} {Q : VL → Sto → Prop} (q : ∀ v : Int, Q (.d (.int v)) st) : wO oIx st (.d (.list (L.map .int))) (.d (.int r)) Q := by
  have hk : ((r.toNat : Nat) : Int) = r := Int.toNat_of_nonneg h0
  have hl : r.toNat < L.length := by omega
  rw [← hk]
  refine wO_ix (z := .d (.int (L[r.toNat]'hl))) (k := false) (xs := (L.map PyData.int).map VL.d) rfl ?_ (q _)
  rw [List.getElem?_map, List.getElem?_map, List.getElem?_eq_getElem hl]
  rfl
theorem ixStrs_wp {L : List Str} {r : Int} (h0 : 0 ≤ r) (h1 : r < L.length) {st : Sto} {Q : VL → Sto → Prop} (q : ∀ v ∈ L, Q (.d (.str v)) st) : wO oIx st (.d (.list (L.map .str))) (.d (.int r)) Q := by
  have hk : ((r.toNat : Nat) : Int) = r := Int.toNat_of_nonneg h0
  have hl : r.toNat < L.length := by omega
  rw [← hk]
  refine wO_ix (z := .d (.str (L[r.toNat]'hl))) (k := false) (xs := (L.map PyData.str).map VL.d) rfl ?_ (q _ (List.getElem_mem hl))
  rw [List.getElem?_map, List.getElem?_map, List.getElem?_eq_getElem hl]
  rfl
theorem wO_pow12 {st : Sto} {Q : VL → Sto → Prop} (q : Q (.d (.int 1000000000000)) st) : wO oPow st (.d (.int 10)) (.d (.int 12)) Q := ⟨_, _, by rfl, q⟩
theorem wO_pow20 {st : Sto} {Q : VL → Sto → Prop} (q : Q (.d (.int 100000000000000000000)) st) : wO oPow st (.d (.int 10)) (.d (.int 20)) Q := ⟨_, _, by rfl, q⟩
theorem number_wp {st : Sto} {s : Nat} (h : Src st s) {Q : VL → Sto → Prop} (q : ∀ i a b : Int, Q (.d (.int i)) (st.set s (srcO a b))) : wF m__law_number [.o s] st Q := by
  refine wF_run ?_
  unfold c__law_number
  repeat' wp_step
  refine l_draw_wp h (by decide) (by decide) fun r1 a1 b1 _ _ => ?_
  repeat' (first | wp_step | refine wO_pow12 ?_)
  refine l_draw_wp (h.set _ _) (by decide) (by decide) fun r2 a2 b2 _ _ => ?_
  rw [List.set_set]
  repeat' (first | wp_step | refine wO_pow20 ?_)
  refine l_draw_wp (h.set _ _) (by decide) (by decide) fun r3 a3 b3 _ _ => ?_
  rw [List.set_set]
  repeat' wp_step
  refine l_draw_wp (h.set _ _) (by decide) (by decide) fun r4 a4 b4 h1 h2 => ?_
  rw [List.set_set]
  refine ixInts_wp (L := [0, 1, 36, r1, r2, 100000000000000000000 + r3]) h1 h2 fun v => ?_
  repeat' wp_step
  refine l_draw_wp (h.set _ _) (by decide) (by decide) fun r5 a5 b5 h1 h2 => ?_
  rw [List.set_set]
  refine ixInts_wp (L := [v, 0 - v]) h1 h2 fun v2 => ?_
  repeat' wp_step
  exact q _ _ _
end K83
set_option Elab.async false
set_option linter.all false
set_option autoImplicit false
set_option maxRecDepth 100000
set_option maxHeartbeats 2000000
namespace K83
open PySem PySem.Spec PyProof.Rows L2 Sl
local macro_rules | `(tactic| wp_step) => `(tactic| first
  | with_reducible refine wS_seq ?_
  | with_reducible refine seqK_nx ?_
  | with_reducible refine seqK_rt ?_
  | with_reducible refine seqK_bk ?_
  | with_reducible refine seqK_ct ?_
  | with_reducible refine fnQ_nx ?_
  | with_reducible refine fnQ_rt ?_
  | with_reducible refine turn_nx ?_
  | with_reducible refine turn_ct ?_
  | with_reducible refine turn_bk ?_
  | with_reducible refine turn_rt ?_
  | with_reducible refine wS_if ?_
  | with_reducible refine wS_set ?_
  | with_reducible refine wS_asg ?_
  | with_reducible refine wS_ret ?_
  | with_reducible refine wS_drop ?_
  | with_reducible refine wS_nx ?_
  | with_reducible refine wS_bk ?_
  | with_reducible refine wS_ct ?_
  | with_reducible refine wS_forS ?_
  | with_reducible refine wS_for1 ?_
  | with_reducible refine wS_setL ?_
  | with_reducible refine wS_dputK ?_
  | with_reducible refine wE_op ?_
  | with_reducible refine wE_c ?_
  | ((with_reducible apply wE_var); rfl)
  | with_reducible refine wE_call ?_
  | with_reducible refine wE_cb ?_
  | with_reducible refine wE_and ?_
  | with_reducible refine wE_or ?_
  | with_reducible refine wE_not ?_
  | with_reducible refine wE_if ?_
  | with_reducible refine wE_isi ?_
  | with_reducible refine wE_chain ?_
  | with_reducible refine wE_neg ?_
  | with_reducible refine wE_lst ?_
  | with_reducible refine wE_tup ?_
  | with_reducible refine wE_frz ?_
  | with_reducible refine wE_append ?_
  | with_reducible refine wE_sl ?_
  | with_reducible refine wE_rev ?_
  | with_reducible refine wE_dnew ?_
  | with_reducible refine wZ_d ?_
  | ((with_reducible apply isO_o); (first | assumption | exact app_get0 | exact app_get1 | exact app_get2 | exact List.getElem?_set_self (by assumption) | exact List.getElem?_set_self (by rw [List.length_set]; assumption) | (rw [List.getElem?_append_right (Nat.le_refl _), Nat.sub_self]; rfl) | exact getA0 (by assumption) | exact getA1 (by assumption)))
  | ((with_reducible apply wApp_o); (first | assumption | exact app_get0 | exact app_get1 | exact app_get2 | exact List.getElem?_set_self (by assumption) | exact List.getElem?_set_self (by rw [List.length_set]; assumption) | (rw [List.getElem?_append_right (Nat.le_refl _), Nat.sub_self]; rfl) | exact getA0 (by assumption) | exact getA1 (by assumption)))
  | ((with_reducible apply wD_o); (first | assumption | exact app_get0 | exact app_get1 | exact app_get2 | exact List.getElem?_set_self (by assumption) | exact List.getElem?_set_self (by rw [List.length_set]; assumption) | (rw [List.getElem?_append_right (Nat.le_refl _), Nat.sub_self]; rfl) | exact getA0 (by assumption) | exact getA1 (by assumption)))
  | ((with_reducible apply wZ_o); (first | assumption | exact app_get0 | exact app_get1 | exact app_get2 | exact List.getElem?_set_self (by assumption) | exact List.getElem?_set_self (by rw [List.length_set]; assumption) | (rw [List.getElem?_append_right (Nat.le_refl _), Nat.sub_self]; rfl) | exact getA0 (by assumption) | exact getA1 (by assumption)); exact allD_map' _)
  | with_reducible refine wE_rep ?_
  | with_reducible refine wE_sortSet ?_
  | with_reducible refine wE_lenSet ?_
  | with_reducible refine wE_comp1 ?_
  | with_reducible refine wE_compS ?_
  | with_reducible refine wP_none ?_
  | with_reducible refine wP_some ?_
  | with_reducible refine wA_nil ?_
  | with_reducible refine wA_cons ?_
  | with_reducible refine wA_app ?_
  | with_reducible refine wB_t ?_
  | with_reducible refine wB_f ?_
  | with_reducible refine wB_nt ?_
  | with_reducible refine wB_nf ?_
  | with_reducible refine wB_dec (fun _ => ?_) (fun _ => ?_)
  | with_reducible refine wB_not (fun _ => ?_) (fun _ => ?_)
  | with_reducible refine wB_nb (fun _ => ?_) (fun _ => ?_)
  | with_reducible refine wB_b (fun _ => ?_) (fun _ => ?_)
  | with_reducible refine wO_sub ?_
  | ((with_reducible apply wO_inS0); rfl)
  | ((with_reducible apply wO_inS1); rfl)
  | ((with_reducible apply wO_inD0); (first | assumption | exact app_get0 | exact app_get1 | exact app_get2 | exact List.getElem?_set_self (by assumption) | exact List.getElem?_set_self (by rw [List.length_set]; assumption) | (rw [List.getElem?_append_right (Nat.le_refl _), Nat.sub_self]; rfl) | exact getA0 (by assumption) | exact getA1 (by assumption)))
  | ((with_reducible apply wO_inD1); (first | assumption | exact app_get0 | exact app_get1 | exact app_get2 | exact List.getElem?_set_self (by assumption) | exact List.getElem?_set_self (by rw [List.length_set]; assumption) | (rw [List.getElem?_append_right (Nat.le_refl _), Nat.sub_self]; rfl) | exact getA0 (by assumption) | exact getA1 (by assumption)))
  | with_reducible refine wO_lt ?_
  | with_reducible refine wO_le ?_
  | with_reducible refine wO_gt ?_
  | with_reducible refine wO_ge ?_
  | with_reducible refine wO_add ?_
  | with_reducible refine wO_eqI ?_
  | with_reducible refine wO_neI ?_
  | with_reducible refine wO_isN ?_
  | with_reducible refine wO_notN ?_
  | with_reducible refine wC_lenL ?_
  | with_reducible refine wC_lenT ?_
  | with_reducible refine wC_int ?_
  | ((with_reducible apply wC_lenD); (first | assumption | exact app_get0 | exact app_get1 | exact app_get2 | exact List.getElem?_set_self (by assumption) | exact List.getElem?_set_self (by rw [List.length_set]; assumption) | (rw [List.getElem?_append_right (Nat.le_refl _), Nat.sub_self]; rfl) | exact getA0 (by assumption) | exact getA1 (by assumption)))
  | with_reducible refine wC_abs ?_
  | with_reducible refine wM_N ?_
  | with_reducible refine wM_Dm ?_
  | with_reducible refine wM_Tm ?_
  | ((with_reducible apply wM_T); rfl)
  | ((with_reducible apply wM_D); rfl)
  | (with_reducible refine Exists.intro _ (And.intro rfl ?_))
  | (with_reducible refine And.intro rfl ?_)
  | ((with_reducible refine And.intro (size_small ?_) ?_); rfl)
  | with_reducible refine wO_pow6 ?_
  | ((with_reducible refine wO_mulR ?_ ?_); decide)
  | ((with_reducible refine wO_mulL ?_ ?_); decide)
  | ((with_reducible refine wO_mod ?_ ?_); omega)
  | ((with_reducible refine wO_div ?_ ?_ ?_); omega; omega)
  | ((with_reducible apply wU_o); (first | assumption | exact app_get0 | exact app_get1 | exact app_get2 | exact List.getElem?_set_self (by assumption) | exact List.getElem?_set_self (by rw [List.length_set]; assumption) | (rw [List.getElem?_append_right (Nat.le_refl _), Nat.sub_self]; rfl) | exact getA0 (by assumption) | exact getA1 (by assumption)); rfl)
  | ((with_reducible apply wO_ixZ); (apply asSeq_o; (first | assumption | exact app_get0 | exact app_get1 | exact app_get2 | exact List.getElem?_set_self (by assumption) | exact List.getElem?_set_self (by rw [List.length_set]; assumption) | (rw [List.getElem?_append_right (Nat.le_refl _), Nat.sub_self]; rfl) | exact getA0 (by assumption) | exact getA1 (by assumption))); rfl))
theorem vals_shaped (w : Nat) (a b : Int) (s : Str) (hs : PyData.strOk s = true) : SeqAt.shaped (.list (vals w (.int a) (.int b) (.str s))) = true := by
  unfold SeqAt.shaped vals
  repeat' split
  all_goals simp [PyData.canLay0, PyData.canLayAll0, PyData.depth, PyData.depthAll, hs]
theorem vals_eqv (w : Nat) (a b : Int) (s : Str) : PyData.eqv (.list (vals w (.int a) (.int b) (.str s))) (.list (vals w (.int a) (.int b) (.str s))) = true := by
  unfold vals
  repeat' split
  all_goals simp [PyData.eqv, PyData.eqvAll]
def wordsS : List Str := [Str.ofString "prime", Str.ofString "size", Str.ofString "rooms", Str.ofString "room", Str.ofString "door", Str.ofString "last", Str.ofString "opened", Str.ofString "key", Str.ofString ""]
theorem words_ok : ∀ x ∈ wordsS, PyData.strOk x = true ∧ PyData.strOk (x ++ Str.ofString "s") = true ∧ x.length + (Str.ofString "s").length ≤ 1000 := by decide +kernel
theorem law_wp {ns : List Int} {st : Sto} {Q : VL → Sto → Prop} (q : ∀ st', Q (.d (.bool true)) st') : wF m_law [.d (.list (ns.map .int))] st Q := by
  refine wF_run ?_
  unfold c_law
  refine wS_seq (wS_set (wE_lst (wA_cons (wE_c (wA_cons (wE_c (wA_cons (wE_c (wA_cons (wE_c (wA_cons (wE_c (wA_cons (wE_c (wA_cons (wE_c (wA_cons (wE_c (wA_cons (wE_c (wA_nil ⟨size_small rfl, wM_D rfl (seqK_nx ?_)⟩)))))))))))))))))))))
  refine wS_seq (wS_for1 (wA_cons (wE_c (wA_nil ⟨27, rfl, by decide, ?_⟩))))
  refine wL_rg (fun i env st' => ∃ e2 e3 e4 e5 e6 e7 e8, env = [some (.d (.list (ns.map .int))), some (.d (.list (wordsS.map .str))), e2, e3, e4, e5, e6, e7, e8])
    ⟨_, _, _, _, _, _, _, rfl⟩ (fun i env st' hi hI => ?_) (fun env st' hI => ?_)
  · obtain ⟨e2, e3, e4, e5, e6, e7, e8, rfl⟩ := hI
    refine ⟨_, rfl, ?_⟩
    have sB : ∀ {A : Sto} {a b : Int}, Src (A ++ [srcO a b]) A.length := fun {A a b} => ⟨a, b, app_get0⟩
    repeat' wp_step
    refine l_source_wp (by omega) fun a b => ?_
    repeat' wp_step
    refine number_wp sB fun n1 a b => ?_
    rw [app_set0]
    repeat' wp_step
    refine number_wp sB fun n2 a b => ?_
    rw [app_set0]
    repeat' wp_step
    refine l_draw_wp sB (by decide) (by decide) fun r a b h1 h2 => ?_
    rw [app_set0]
    refine ixStrs_wp (L := wordsS) h1 h2 fun x hx => ?_
    obtain ⟨k1, k2, k3⟩ := words_ok x hx
    repeat' wp_step
    refine wF_of (made_eq i hi _ _ _ _) ?_
    repeat' (first | wp_step | refine wO_addS (size_le k3) ?_)
    refine wF_of (made_eq i hi _ _ _ _) ?_
    generalize st' ++ [srcO a b] = st1
    have g1 : ∀ u v : Ob, (st1 ++ [u] ++ [v])[st1.length]? = some u := fun u v => by
      rw [List.append_assoc]
      exact app_get0
    have g2 : ∀ u v : Ob, (st1 ++ [u] ++ [v])[(st1 ++ [u]).length]? = some v := fun u v => app_get0
    repeat' (first | wp_step | refine wO_addS (size_le k3) ?_)
    · rename_i hf
      cases hf
    · refine right_wp hi (vals_shaped _ _ _ _ k1) (vals_eqv _ _ _ _) (g1 _ _) ?_
      repeat' (first | wp_step | refine wO_addS (size_le k3) ?_)
      refine right_wp hi (vals_shaped _ _ _ _ k2) (vals_eqv _ _ _ _) (g2 _ _) ?_
      repeat' wp_step
      exact ⟨_, _, _, _, _, _, _, rfl⟩
  · obtain ⟨e2, e3, e4, e5, e6, e7, e8, rfl⟩ := hI
    repeat' wp_step
    exact q _
theorem law_end {w : World} {K : PySem.W.Frag} {mg : Str → Option Value} (W : Wd K mg) : ∃ sp : Sp, (∀ (H : Hp) (a : Addr) (ns : List Int), ns.length ≤ 63 → Only H → SqL K H a (ns.map V.int) → sp [.ref a] H (fun v _ => v = .bl true) fun _ _ _ => False) ∧
    ∀ base : Heap, FnOk P w K mg base CX0 5 (He.ga K "law") W.d_law.choose ["script"] sp := by
  refine ⟨spF K ⟨fun _ => 0, fun _ _ _ _ _ => False⟩ 1 m_law, fun H a ns _ _ hS => ?_, fun base => ok_law W⟩
  obtain ⟨r, st', h1, h2⟩ := law_wp (ns := ns) (st := []) (Q := fun r _ => r = .d (.bool true)) fun _ => rfl
  subst h2
  have hd : ∀ ns : List Int, DqAll K H (ns.map V.int) (ns.map .int) := fun ns => by
    induction ns with
    | nil => exact .nil
    | cons x ns ih => exact .cons (.int x) ih
  refine ⟨[], H, [], [.d (.list (ns.map .int))], _, ⟨rfl, List.nodup_nil, fun _ _ e => e, fun _ h => (nomatch h), fun i a b h => (nomatch h)⟩, .cons (.lst hS (hd ns)) .nil, rfl, h1, ?_⟩
  intro v ρ' F' H' _ _ hv
  exact vr_bool hv
end K83
set_option Elab.async false
set_option linter.all false
set_option maxRecDepth 100000
set_option maxHeartbeats 0
namespace K83
open PySem PySem.Spec PyProof.Rows L2 Sl NdefX
theorem wd_of {K : PySem.W.Frag} {h : Heap} {mg : Str → Option Value} (X : K.In h) (G : h.Ns mainGlobals mg) (c2 : SaysZ hFa hFn hXd hTb K) : Wd K mg where
  g__law_source := He.glo_ok X G (c2.x.d.fact 0 (f := .glo "_law_source") rfl)
  g__law_draw := He.glo_ok X G (c2.x.d.fact 1 (f := .glo "_law_draw") rfl)
  g__law_first_half := He.glo_ok X G (c2.x.d.fact 2 (f := .glo "_law_first_half") rfl)
  g__law_second_half := He.glo_ok X G (c2.x.d.fact 3 (f := .glo "_law_second_half") rfl)
  g__law_made := He.glo_ok X G (c2.x.d.fact 4 (f := .glo "_law_made") rfl)
  g__law_fields_one := He.glo_ok X G (c2.x.d.fact 5 (f := .glo "_law_fields_one") rfl)
  g__law_fields_two := He.glo_ok X G (c2.x.d.fact 6 (f := .glo "_law_fields_two") rfl)
  g__law_fields := He.glo_ok X G (c2.x.d.fact 7 (f := .glo "_law_fields") rfl)
  g__law_due_one := He.glo_ok X G (c2.x.d.fact 8 (f := .glo "_law_due_one") rfl)
  g__law_due := He.glo_ok X G (c2.x.d.fact 9 (f := .glo "_law_due") rfl)
  g__law_kinds := He.glo_ok X G (c2.x.d.fact 10 (f := .glo "_law_kinds") rfl)
  g__law_right := He.glo_ok X G (c2.x.d.fact 11 (f := .glo "_law_right") rfl)
  g__law_number := He.glo_ok X G (c2.x.d.fact 12 (f := .glo "_law_number") rfl)
  g_law := He.glo_ok X G (c2.x.d.fact 13 (f := .glo "law") rfl)
  k_BadHouse := He.glo_ok X G (c2.x.d.fact 14 (f := .glo "BadHouse") rfl)
  k_TooMany := He.glo_ok X G (c2.x.d.fact 15 (f := .glo "TooMany") rfl)
  k_NoRoom := He.glo_ok X G (c2.x.d.fact 16 (f := .glo "NoRoom") rfl)
  k_NoDoor := He.glo_ok X G (c2.x.d.fact 17 (f := .glo "NoDoor") rfl)
  k_BadRow := He.glo_ok X G (c2.x.d.fact 18 (f := .glo "BadRow") rfl)
  k_NeverEntered := He.glo_ok X G (c2.x.d.fact 19 (f := .glo "NeverEntered") rfl)
  k_NeverOpened := He.glo_ok X G (c2.x.d.fact 20 (f := .glo "NeverOpened") rfl)
  k_NotReady := He.glo_ok X G (c2.x.d.fact 21 (f := .glo "NotReady") rfl)
  k_NotWay := He.glo_ok X G (c2.x.d.fact 22 (f := .glo "NotWay") rfl)
  k_NotPlay := He.glo_ok X G (c2.x.d.fact 23 (f := .glo "NotPlay") rfl)
  k_NoState := He.glo_ok X G (c2.x.d.fact 24 (f := .glo "NoState") rfl)
  k_NotPlain := He.glo_ok X G (c2.x.d.fact 25 (f := .glo "NotPlain") rfl)
  k_BadTable := He.glo_ok X G (c2.x.d.fact 26 (f := .glo "BadTable") rfl)
  k_Cyclic := He.glo_ok X G (c2.x.d.fact 27 (f := .glo "Cyclic") rfl)
  k_BadRoute := He.glo_ok X G (c2.x.d.fact 28 (f := .glo "BadRoute") rfl)
  k_TooTight := He.glo_ok X G (c2.x.d.fact 29 (f := .glo "TooTight") rfl)
  k_NoStory := He.glo_ok X G (c2.x.d.fact 30 (f := .glo "NoStory") rfl)
  k_NothingBack := He.glo_ok X G (c2.x.d.fact 31 (f := .glo "NothingBack") rfl)
  k_NothingForth := He.glo_ok X G (c2.x.d.fact 32 (f := .glo "NothingForth") rfl)
  k_BadLog := He.glo_ok X G (c2.x.d.fact 33 (f := .glo "BadLog") rfl)
  k_WrongPaper := He.glo_ok X G (c2.x.d.fact 34 (f := .glo "WrongPaper") rfl)
  k_TextError := He.glo_ok X G (c2.x.d.fact 35 (f := .glo "TextError") rfl)
  k_WrongWord := He.glo_ok X G (c2.x.d.fact 36 (f := .glo "WrongWord") rfl)
  k_WrongNumber := He.glo_ok X G (c2.x.d.fact 37 (f := .glo "WrongNumber") rfl)
  k_WrongTools := He.glo_ok X G (c2.x.d.fact 38 (f := .glo "WrongTools") rfl)
  k_WrongForm := He.glo_ok X G (c2.x.d.fact 39 (f := .glo "WrongForm") rfl)
  k_MissingLine := He.glo_ok X G (c2.x.d.fact 40 (f := .glo "MissingLine") rfl)
  k_RiddleError := He.glo_ok X G (c2.x.d.fact 41 (f := .glo "RiddleError") rfl)
  b_ValueError := He.free_ok X G (c2.x.d.fact 42 (f := .free "ValueError") rfl)
  b_abs := He.free_ok X G (c2.x.d.fact 43 (f := .free "abs") rfl)
  b_int := He.free_ok X G (c2.x.d.fact 44 (f := .free "int") rfl)
  b_isinstance := He.free_ok X G (c2.x.d.fact 45 (f := .free "isinstance") rfl)
  b_len := He.free_ok X G (c2.x.d.fact 46 (f := .free "len") rfl)
  b_range := He.free_ok X G (c2.x.d.fact 47 (f := .free "range") rfl)
  b_super := He.free_ok X G (c2.x.d.fact 48 (f := .free "super") rfl)
  x_all := fun x hx => XCl.w (List.all_eq_true.mp (show XCS.all (fun x => x.ok K XTS XBT) = true from c2.x.t) x hx)
  xi_BadHouse := c2.sup 0 (d := xd_BadHouse) rfl
  xi_TooMany := c2.sup 1 (d := xd_TooMany) rfl
  xi_NoRoom := c2.sup 2 (d := xd_NoRoom) rfl
  xi_NoDoor := c2.sup 3 (d := xd_NoDoor) rfl
  xi_BadRow := c2.sup 4 (d := xd_BadRow) rfl
  xi_NeverEntered := c2.sup 5 (d := xd_NeverEntered) rfl
  xi_NeverOpened := c2.sup 6 (d := xd_NeverOpened) rfl
  xi_NotReady := c2.sup 7 (d := xd_NotReady) rfl
  xi_NotWay := c2.sup 8 (d := xd_NotWay) rfl
  xi_NotPlay := c2.sup 9 (d := xd_NotPlay) rfl
  xi_NoState := c2.sup 10 (d := xd_NoState) rfl
  xi_NotPlain := c2.sup 11 (d := xd_NotPlain) rfl
  xi_BadTable := c2.sup 12 (d := xd_BadTable) rfl
  xi_Cyclic := c2.sup 13 (d := xd_Cyclic) rfl
  xi_BadRoute := c2.sup 14 (d := xd_BadRoute) rfl
  xi_TooTight := c2.sup 15 (d := xd_TooTight) rfl
  xi_NoStory := c2.sup 16 (d := xd_NoStory) rfl
  xi_NothingBack := c2.sup 17 (d := xd_NothingBack) rfl
  xi_NothingForth := c2.sup 18 (d := xd_NothingForth) rfl
  xi_BadLog := c2.sup 19 (d := xd_BadLog) rfl
  xi_WrongPaper := c2.sup 20 (d := xd_WrongPaper) rfl
  xi_TextError := c2.sup 21 (d := xd_TextError) rfl
  d__law_source := c2.x.d.def_ 0 (d := dd__law_source) rfl
  d__law_draw := c2.x.d.def_ 1 (d := dd__law_draw) rfl
  d__law_first_half := c2.x.d.def_ 2 (d := dd__law_first_half) rfl
  d__law_second_half := c2.x.d.def_ 3 (d := dd__law_second_half) rfl
  d__law_made := c2.x.d.def_ 4 (d := dd__law_made) rfl
  d__law_fields_one := c2.x.d.def_ 5 (d := dd__law_fields_one) rfl
  d__law_fields_two := c2.x.d.def_ 6 (d := dd__law_fields_two) rfl
  d__law_fields := c2.x.d.def_ 7 (d := dd__law_fields) rfl
  d__law_due_one := c2.x.d.def_ 8 (d := dd__law_due_one) rfl
  d__law_due := c2.x.d.def_ 9 (d := dd__law_due) rfl
  d__law_kinds := c2.x.d.def_ 10 (d := dd__law_kinds) rfl
  d__law_right := c2.x.d.def_ 11 (d := dd__law_right) rfl
  d__law_number := c2.x.d.def_ 12 (d := dd__law_number) rfl
  d_law := c2.x.d.def_ 13 (d := dd_law) rfl
end K83
open PySem PySem.W PySem.Calls PyProof.Rows
theorem PySem.Challenge.cw_lastdoor_k83_errors_made_holds : PySem.Challenge.rw_lastdoor_k83_errors_made.Holds := by
  w_on; o_law
  o_head K83.hk_
  case hw => w_witness2
  case hc =>
    refine L2.walk_ofE (l := PySem.Challenge.rw_lastdoor_k83_errors_made) (n := 63) (k := 5) (x := "script") (CX := L2.CX0) rfl (by decide) (by kernel_rfl) ⟨rfl, by decide, by decide⟩ ?F (fun _ _ _ _ z => z)
    intro w mg fa h Y G hmg0
    obtain ⟨K, KX, c⟩ := Y
    have hmg : mg ("law" : PySem.Str) = some (.ref fa) := by
      exact hmg0
    have W := K83.wd_of KX G c
    have e := hmg.symm.trans W.g_law
    cases e
    obtain ⟨sp, hsp, hF⟩ := K83.law_end (w := w) W
    have hb := L2.FunD.bindsA (ps := ["script"]) W.d_law.choose_spec fun _ _ _ _ _ _ us hl => match us, hl with | [_], _ => rfl
    exact ⟨K, W.d_law.choose, sp, KX, fun s v => hb s [v] rfl, hsp, fun base _ _ => hF base⟩
