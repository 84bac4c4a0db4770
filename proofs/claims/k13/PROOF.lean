import PyProof.Rows.All
import Wide.All
import OpenK.AllK
import Wide.FinOn
import HandS.ForMost
import HandS.ForExc
import HandS.CallSlots
import HandS.HeadHook1
import HandS.TupAny
import HandS.Flow
import HandS.Style
import HandS.TupLe
import HandS.Deep
import HandS.Zip
import HandS.SortInts
import HandS.IsInst
import HandS.More
import HandS.Defaults
import HandS.SetFor
import KE.KStateDown
import Lean
import HandS.Ends
import HandS.Words
import HandS.WordsExc
import HandS.Head0
import HandS.Head1
import HandS.Head2
import HandS.HeadEnd
import HandS.HeadHook2
import HandS.HeadHook3
import HandS.HeadHook4
import HandS.HeadWalk
import PySem.Challenge.RW_drumwords_k13_whole_spots_go_round
section
set_option Elab.async false
set_option linter.all false
set_option maxRecDepth 100000
set_option autoImplicit false
set_option maxHeartbeats 1000000
namespace Z
open PySem L2

/-! ### data: values, boxes, outcomes -/
inductive Sl where
  | d (x : PyData)
  | box (n : Nat)
  | sub (n : Nat)
  | pr (x : PyData) (n : Nat)
  | fn
inductive Box where
  | lst (ds : List PyData)
  | dic (kvs : List (Key × PyData))
  | dit (kvs : List (List Key × PyData))
  | ins (C : Str) (fs : List (Str × PyData)) (g : Str) (kvs : List (Key × PyData))
  | inz (C : Str) (fs : List (Str × PyData))
  | tbl (P : Addr)
  | scr (ns : List Int)
  | dead
abbrev Sto := List Box
abbrev Env1 := List (Option Sl)
inductive Out (α : Type) where
  | val (a : α) (S : Sto)
  | exc (c : Str) (S : Sto)
  | bad
def Out.bind {α β : Type} (o : Out α) (f : α → Sto → Out β) : Out β := match o with
  | .val a S => f a S
  | .exc c S => .exc c S
  | .bad => .bad
theorem bind_val {α β : Type} {a : α} {S : Sto} {f : α → Sto → Out β} : (Out.val a S).bind f = f a S := rfl
theorem bind_exc {α β : Type} {c : Str} {S : Sto} {f : α → Sto → Out β} : (Out.exc c S : Out α).bind f = .exc c S := rfl
theorem bind_bad {α β : Type} {f : α → Sto → Out β} : (Out.bad : Out α).bind f = .bad := rfl
def ofOpt {α : Type} (o : Option α) (S : Sto) : Out α := match o with
  | some a => .val a S
  | none => .bad
theorem ofOpt_some {α : Type} {a : α} {S : Sto} : ofOpt (some a) S = .val a S := rfl
theorem ofOpt_none {α : Type} {S : Sto} : (ofOpt (none : Option α) S) = .bad := rfl
abbrev ZE := Env1 → Sto → Out Sl
abbrev ZT := Env1 → Sto → Out Bool
abbrev ZA := Env1 → Sto → Out (List Sl)
abbrev ZI := Env1 → Sto → Out (List PyData)
/-- a new mutable object -/
abbrev ZF := Env1 → Sto → Out Box
abbrev Fn := List Sl → Sto → Out Sl

/-! ### what stands for what -/
section
variable {K : PySem.W.Frag}
theorem same_t {H H' : Hp} {a : Addr} {xs : List V} (e : Same H H') (h : SqT K H a xs) : SqT K H' a xs := by
  rcases h with (h | ⟨o, h⟩) | h
  · exact .inl (.inl (e _ _ h))
  · exact .inl (.inr ⟨o, e _ _ h⟩)
  · exact .inr h
theorem same_upd {H : Hp} {p : Addr} {o : HO} (h : H p = none) : Same H (upd H p o) := fun b x e => by
  rw [upd_ne (ne_of_none e h)]
  exact e
end
mutual
theorem dp_mono {K : PySem.W.Frag} {H H' : Hp} (e : Same H H') : ∀ {v : V} {d : PyData}, Dp K H v d → Dp K H' v d
  | _, _, .non => .non
  | _, _, .bl b => .bl b
  | _, _, .int i => .int i
  | _, _, .str x => .str x
  | _, _, .lst s a => .lst (e.seq s) (dpAll_mono e a)
  | _, _, .tup s a => .tup (same_t e s) (dpAll_mono e a)
theorem dpAll_mono {K : PySem.W.Frag} {H H' : Hp} (e : Same H H') : ∀ {vs : List V} {ds : List PyData}, DpAll K H vs ds → DpAll K H' vs ds
  | _, _, .nil => .nil
  | _, _, .cons a b => .cons (dp_mono e a) (dpAll_mono e b)
end
abbrev KvOk {κ : Type} (K : PySem.W.Frag) (Hd : Hp) : List (κ × V) → List (κ × PyData) → Prop := Paired fun p q => p.1 = q.1 ∧ Dp K Hd p.2 q.2
theorem kv_mono {κ : Type} {K : PySem.W.Frag} {H H' : Hp} (e : Same H H') : ∀ {a : List (κ × V)} {b : List (κ × PyData)}, KvOk K H a b → KvOk K H' a b
  | _, _, .nil => .nil
  | _, _, .cons h t => .cons ⟨h.1, dp_mono e h.2⟩ (kv_mono e t)
abbrev Ads := List (List Addr)
def SlIs (K : PySem.W.Frag) (ρ : Ads) (Hd : Hp) (v : V) : Sl → Prop
  | .d x => Dp K Hd v x
  | .box n => ∃ a r, v = .ref a ∧ ρ[n]? = some (a :: r)
  | .sub n => ∃ a b r, v = .ref b ∧ ρ[n]? = some (a :: b :: r)
  | .pr x n => ∃ t v1 a r, v = .ref t ∧ SqT K Hd t [v1, .ref a] ∧ Dp K Hd v1 x ∧ ρ[n]? = some (a :: r)
  | .fn => True
def BoxOk (K : PySem.W.Frag) (Hd H : Hp) (as : List Addr) : Box → Prop
  | .lst ds => ∃ a vs, as = [a] ∧ H a = some (.lst vs) ∧ DpAll K Hd vs ds
  | .dic kvs => ∃ a us, as = [a] ∧ H a = some (.dK us) ∧ KvOk K Hd us kvs
  | .dit kvs => ∃ a us, as = [a] ∧ H a = some (.dT us) ∧ KvOk K Hd us kvs
  | .ins C fs g kvs => ∃ a b dx gs us, as = [a, b] ∧ H a = some (.ins (He.ga K C) dx gs) ∧ gs.length ≤ 100 ∧ (∀ f x, fs.lookup f = some x → ∃ v, gs.lookup f = some v ∧ Dp K Hd v x) ∧ gs.lookup g = some (.ref b) ∧ H b = some (.dK us) ∧ KvOk K Hd us kvs
  | .inz C fs => ∃ a dx gs, as = [a] ∧ H a = some (.ins (He.ga K C) dx gs) ∧ gs.length ≤ 100 ∧ (∀ f x, fs.lookup f = some x → ∃ v, gs.lookup f = some v ∧ Dp K Hd v x)
  | .tbl P => ∃ ps, as = [P] ∧ H P = some (.tbl ps)
  | .scr ns => ∃ a o, as = [a] ∧ H a = some (.frz o (.lst (ns.map V.int)))
  | .dead => True
def NoFz : HO → Prop
  | .frz _ _ => False
  | _ => True
structure Grow (ρ : Ads) (Hd : Hp) (ρ' : Ads) (Hd' : Hp) : Prop where
  h : Same Hd Hd'
  r : ∃ t, ρ' = ρ ++ t
theorem Grow.refl {ρ : Ads} {Hd : Hp} : Grow ρ Hd ρ Hd := ⟨Same.refl _, [], by simp⟩
theorem Grow.trans {ρ ρ1 ρ2 : Ads} {Hd H1 H2 : Hp} (a : Grow ρ Hd ρ1 H1) (b : Grow ρ1 H1 ρ2 H2) : Grow ρ Hd ρ2 H2 := by
  obtain ⟨a1, t1, rfl⟩ := a
  obtain ⟨b1, t2, rfl⟩ := b
  exact ⟨a1.trans b1, t1 ++ t2, by simp⟩
theorem Grow.hd {ρ : Ads} {Hd Hd' : Hp} (h : Same Hd Hd') : Grow ρ Hd ρ Hd' := ⟨h, [], by simp⟩
theorem Grow.get {ρ ρ' : Ads} {Hd Hd' : Hp} (g : Grow ρ Hd ρ' Hd') {n : Nat} {x : List Addr} (h : ρ[n]? = some x) : ρ'[n]? = some x := by
  obtain ⟨_, t, rfl⟩ := g
  obtain ⟨hl, _⟩ := List.getElem?_eq_some_iff.mp h
  rw [List.getElem?_append_left hl]
  exact h
theorem SlIs.grow {K : PySem.W.Frag} {ρ ρ' : Ads} {Hd Hd' : Hp} (g : Grow ρ Hd ρ' Hd') {v : V} : ∀ {x : Sl}, SlIs K ρ Hd v x → SlIs K ρ' Hd' v x
  | .d _, h => dp_mono g.h h
  | .box _, ⟨a, r, e, h⟩ => ⟨a, r, e, g.get h⟩
  | .sub _, ⟨a, b, r, e, h⟩ => ⟨a, b, r, e, g.get h⟩
  | .pr _ _, ⟨t, v1, a, r, e, h1, h2, h3⟩ => ⟨t, v1, a, r, e, same_t g.h h1, dp_mono g.h h2, g.get h3⟩
  | .fn, _ => trivial
abbrev SlAll (K : PySem.W.Frag) (ρ : Ads) (Hd : Hp) : List V → List Sl → Prop := Paired (SlIs K ρ Hd)
theorem SlAll.grow {K : PySem.W.Frag} {ρ ρ' : Ads} {Hd Hd' : Hp} (g : Grow ρ Hd ρ' Hd') : ∀ {vs : List V} {xs : List Sl}, SlAll K ρ Hd vs xs → SlAll K ρ' Hd' vs xs
  | _, _, .nil => .nil
  | _, _, .cons h t => .cons (h.grow g) (SlAll.grow g t)
structure Rel (K : PySem.W.Frag) (F : Hp) (ρ : Ads) (Hd H : Hp) (S : Sto) : Prop where
  hd : Same Hd H
  fr : Same F H
  dj : ∀ a o, F a = some o → Hd a = none
  nf : ∀ a o, Hd a = some o → NoFz o
  nk : ∀ a o, K.lookup a = some o → o.cls ≠ .type "list"
  len : ρ.length = S.length
  nd : ρ.flatten.Nodup
  trk : ∀ a ∈ ρ.flatten, H a ≠ none
  box : ∀ (i : Nat) (b : Box) (as : List Addr), S[i]? = some b → ρ[i]? = some as → b ≠ .dead → (∀ a ∈ as, F a = none ∧ Hd a = none) ∧ BoxOk K Hd H as b
def Slots (K : PySem.W.Frag) (ρ : Ads) (Hd : Hp) (σ : L2.St) (Γ : Env1) : Prop :=
  Γ.length = σ.length ∧ ∀ (i : Nat) (x : Sl), Γ[i]? = some (some x) → ∃ v, σ[i]? = some (some v) ∧ SlIs K ρ Hd v x
theorem Slots.grow {K : PySem.W.Frag} {ρ ρ' : Ads} {Hd Hd' : Hp} {σ : L2.St} {Γ : Env1} (g : Grow ρ Hd ρ' Hd') (h : Slots K ρ Hd σ Γ) : Slots K ρ' Hd' σ Γ :=
  ⟨h.1, fun i x e => let ⟨v, a, b⟩ := h.2 i x e; ⟨v, a, b.grow g⟩⟩
theorem Slots.set {K : PySem.W.Frag} {ρ : Ads} {Hd : Hp} {σ : L2.St} {Γ : Env1} {i : Nat} {v : V} {x : Sl} (h : Slots K ρ Hd σ Γ) (hv : SlIs K ρ Hd v x) : Slots K ρ Hd (σ.set i (some v)) (Γ.set i (some x)) := by
  refine ⟨by rw [List.length_set, List.length_set]; exact h.1, fun j y e => ?_⟩
  by_cases hj : i = j
  · subst hj
    by_cases hi : i < Γ.length
    · rw [List.getElem?_set_self hi] at e
      cases e
      exact ⟨v, List.getElem?_set_self (by rw [← h.1]; exact hi), hv⟩
    · rw [List.getElem?_eq_none (by rw [List.length_set]; omega)] at e
      cases e
  · rw [List.getElem?_set_ne hj] at e
    rw [List.getElem?_set_ne hj]
    exact h.2 j y e
theorem Slots.none {K : PySem.W.Frag} {ρ : Ads} {Hd : Hp} {σ : L2.St} {Γ : Env1} {i : Nat} (h : Slots K ρ Hd σ Γ) : Slots K ρ Hd (σ.set i none) (Γ.set i none) := by
  refine ⟨by rw [List.length_set, List.length_set]; exact h.1, fun j y e => ?_⟩
  by_cases hj : i = j
  · subst hj
    by_cases hi : i < Γ.length
    · rw [List.getElem?_set_self hi] at e
      cases e
    · rw [List.getElem?_eq_none (by rw [List.length_set]; omega)] at e
      cases e
  · rw [List.getElem?_set_ne hj] at e
    rw [List.getElem?_set_ne hj]
    exact h.2 j y e
/-- some slots are forgotten -/
theorem Slots.weak {K : PySem.W.Frag} {ρ : Ads} {Hd : Hp} {σ : L2.St} {Γ Γ' : Env1} (h : Slots K ρ Hd σ Γ) (hl : Γ'.length = Γ.length) (w : ∀ (i : Nat) (x : Sl), Γ'[i]? = some (some x) → Γ[i]? = some (some x)) : Slots K ρ Hd σ Γ' :=
  ⟨hl.trans h.1, fun i x e => h.2 i x (w i x e)⟩

/-! ### the store under the heap's changes -/
theorem BoxOk.congr {K : PySem.W.Frag} {Hd Hd' H H' : Hp} {as : List Addr} (e : Same Hd Hd') (h : ∀ a ∈ as, H' a = H a) : ∀ {b : Box}, BoxOk K Hd H as b → BoxOk K Hd' H' as b
  | .lst _, ⟨a, vs, e1, h1, h2⟩ => ⟨a, vs, e1, by rw [h a (by rw [e1]; simp)]; exact h1, dpAll_mono e h2⟩
  | .dic _, ⟨a, us, e1, h1, h2⟩ => ⟨a, us, e1, by rw [h a (by rw [e1]; simp)]; exact h1, kv_mono e h2⟩
  | .dit _, ⟨a, us, e1, h1, h2⟩ => ⟨a, us, e1, by rw [h a (by rw [e1]; simp)]; exact h1, kv_mono e h2⟩
  | .ins _ _ _ _, ⟨a, b, dx, gs, us, e1, h1, hl, h2, h3, h4, h5⟩ => ⟨a, b, dx, gs, us, e1, by rw [h a (by rw [e1]; simp)]; exact h1, hl, fun f x q => let ⟨v, p1, p2⟩ := h2 f x q; ⟨v, p1, dp_mono e p2⟩, h3, by rw [h b (by rw [e1]; simp)]; exact h4, kv_mono e h5⟩
  | .inz _ _, ⟨a, dx, gs, e1, h1, hl, h2⟩ => ⟨a, dx, gs, e1, by rw [h a (by rw [e1]; simp)]; exact h1, hl, fun f x q => let ⟨v, p1, p2⟩ := h2 f x q; ⟨v, p1, dp_mono e p2⟩⟩
  | .tbl _, ⟨ps, e1, h1⟩ => ⟨ps, e1, by rw [h _ (by rw [e1]; simp)]; exact h1⟩
  | .scr _, ⟨a, o, e1, h1⟩ => ⟨a, o, e1, by rw [h _ (by rw [e1]; simp)]; exact h1⟩
  | .dead, _ => trivial
theorem mem_flat {ρ : Ads} {i : Nat} {as : List Addr} {a : Addr} (h : ρ[i]? = some as) (ha : a ∈ as) : a ∈ ρ.flatten :=
  List.mem_flatten.mpr ⟨as, List.mem_of_getElem? h, ha⟩
theorem flat_ne : ∀ {ρ : Ads} {i j : Nat} {as bs : List Addr} {a b : Addr}, ρ.flatten.Nodup → ρ[i]? = some as → ρ[j]? = some bs → i ≠ j → a ∈ as → b ∈ bs → a ≠ b
  | [], _, _, _, _, _, _, _, h, _, _, _, _ => by simp at h
  | r :: ρ, 0, 0, _, _, _, _, _, _, _, h, _, _ => absurd rfl h
  | r :: ρ, 0, j + 1, as, bs, a, b, nd, h1, h2, _, ha, hb => by
    rw [List.flatten_cons] at nd
    have e : r = as := by simpa using h1
    subst e
    have := (List.nodup_append.mp nd).2.2 a ha b (mem_flat (by simpa using h2) hb)
    exact this
  | r :: ρ, i + 1, 0, as, bs, a, b, nd, h1, h2, _, ha, hb => by
    rw [List.flatten_cons] at nd
    have e : r = bs := by simpa using h2
    subst e
    have := (List.nodup_append.mp nd).2.2 b hb a (mem_flat (by simpa using h1) ha)
    exact this.symm
  | r :: ρ, i + 1, j + 1, as, bs, a, b, nd, h1, h2, h, ha, hb => by
    rw [List.flatten_cons] at nd
    exact flat_ne (List.nodup_append.mp nd).2.1 (by simpa using h1) (by simpa using h2) (fun e => h (by rw [e])) ha hb
section
variable {K : PySem.W.Frag} {F : Hp} {ρ : Ads} {Hd H : Hp} {S : Sto}
theorem Rel.ne_new (r : Rel K F ρ Hd H S) {p : Addr} (hp : H p = none) {a : Addr} (ha : a ∈ ρ.flatten) : a ≠ p := fun e => by
  rw [e] at ha
  exact r.trk p ha hp
/-- a new object that nothing is said of -/
theorem Rel.junk (r : Rel K F ρ Hd H S) {p : Addr} {o : HO} (hp : H p = none) : Rel K F ρ Hd (upd H p o) S :=
  ⟨r.hd.trans (same_upd hp), r.fr.trans (same_upd hp), r.dj, r.nf, r.nk, r.len, r.nd, fun a ha => by
    rw [upd_ne (r.ne_new hp ha)]
    exact r.trk a ha, fun i b as h1 h2 h3 => ⟨(r.box i b as h1 h2 h3).1, (r.box i b as h1 h2 h3).2.congr (Same.refl _) fun a ha => upd_ne (r.ne_new hp (mem_flat h2 ha))⟩⟩
/-- a new object that is data -/
theorem Rel.newD (r : Rel K F ρ Hd H S) {p : Addr} {o : HO} (hp : H p = none) (ho : NoFz o := by exact True.intro) : Rel K F ρ (upd Hd p o) (upd H p o) S := by
  have hdp : Hd p = none := r.hd.free hp
  refine ⟨fun a u e => ?_, r.fr.trans (same_upd hp), fun a o e => by
    rw [upd_ne (ne_of_none (r.fr _ _ e) hp)]
    exact r.dj a o e, fun a u e => by
    by_cases q : a = p
    · rw [q, upd_same] at e
      cases e
      exact ho
    · rw [upd_ne q] at e
      exact r.nf a u e, r.nk, r.len, r.nd, fun a ha => by
    rw [upd_ne (r.ne_new hp ha)]
    exact r.trk a ha, fun i b as h1 h2 h3 => ⟨fun a ha => ?_, (r.box i b as h1 h2 h3).2.congr (same_upd hdp) fun a ha => upd_ne (r.ne_new hp (mem_flat h2 ha))⟩⟩
  · by_cases q : a = p
    · subst q
      rw [upd_same] at e ⊢
      exact e
    · rw [upd_ne q] at e ⊢
      exact r.hd _ _ e
  · obtain ⟨x, y⟩ := (r.box i b as h1 h2 h3).1 a ha
    exact ⟨x, by rw [upd_ne (r.ne_new hp (mem_flat h2 ha))]; exact y⟩
theorem Rel.grD (r : Rel K F ρ Hd H S) {p : Addr} {o : HO} (hp : H p = none) : Grow ρ Hd ρ (upd Hd p o) := .hd (same_upd (r.hd.free hp))
theorem Rel.fr_free (r : Rel K F ρ Hd H S) {p : Addr} (hp : H p = none) : F p = none := r.fr.free hp
/-- a new object is put into the store -/
theorem Rel.newB (r : Rel K F ρ Hd H S) {p : Addr} {b : Box} (hp : p ∉ ρ.flatten) (hf : F p = none) (hd : Hd p = none) (ht : H p ≠ none) (ok : BoxOk K Hd H [p] b) : Rel K F (ρ ++ [[p]]) Hd H (S ++ [b]) := by
  refine ⟨r.hd, r.fr, r.dj, r.nf, r.nk, by simp [r.len], ?_, fun a ha => ?_, fun i c as h1 h2 h3 => ?_⟩
  · rw [List.flatten_append]
    refine List.nodup_append.mpr ⟨r.nd, by simp, fun a ha b hb => ?_⟩
    have e : b = p := by simpa using hb
    intro q
    exact hp (by rw [← e, ← q]; exact ha)
  · rw [List.flatten_append] at ha
    rcases List.mem_append.mp ha with h | h
    · exact r.trk a h
    · have e : a = p := by simpa using h
      rw [e]
      exact ht
  · by_cases hi : i < S.length
    · rw [List.getElem?_append_left hi] at h1
      rw [List.getElem?_append_left (by rw [r.len]; exact hi)] at h2
      exact r.box i c as h1 h2 h3
    · have e : i = S.length := by
        have := (List.getElem?_eq_some_iff.mp h1).1
        rw [List.length_append, List.length_singleton] at this
        omega
      subst e
      have e1 : b = c := by simpa using h1
      have e2 : [p] = as := by
        rw [← r.len] at h2
        simpa using h2
      subst e1 e2
      refine ⟨fun a ha => ?_, ok⟩
      have e : a = p := by simpa using ha
      rw [e]
      exact ⟨hf, hd⟩
theorem Rel.grB {p : Addr} : Grow ρ Hd (ρ ++ [[p]]) Hd := ⟨Same.refl _, [[p]], rfl⟩
/-- an object of the store is changed -/
theorem Rel.write (r : Rel K F ρ Hd H S) {n : Nat} {b b' : Box} {as : List Addr} {a : Addr} {o : HO} (h1 : S[n]? = some b) (h2 : ρ[n]? = some as) (h3 : b ≠ .dead) (ha : a ∈ as) (ok : BoxOk K Hd (upd H a o) as b') : Rel K F ρ Hd (upd H a o) (S.set n b') := by
  obtain ⟨fr, _⟩ := r.box n b as h1 h2 h3
  obtain ⟨fa, da⟩ := fr a ha
  refine ⟨fun c u e => ?_, fun c u e => ?_, r.dj, r.nf, r.nk, by rw [List.length_set]; exact r.len, r.nd, fun c hc => ?_, fun i c cs g1 g2 g3 => ?_⟩
  · rw [upd_ne (ne_of_none e da)]
    exact r.hd _ _ e
  · rw [upd_ne (ne_of_none e fa)]
    exact r.fr _ _ e
  · by_cases q : c = a
    · rw [q, upd_same]
      simp
    · rw [upd_ne q]
      exact r.trk c hc
  · by_cases q : n = i
    · subst q
      rw [List.getElem?_set_self (List.getElem?_eq_some_iff.mp h1).1] at g1
      rw [h2] at g2
      cases g1
      cases g2
      exact ⟨fr, ok⟩
    · rw [List.getElem?_set_ne q] at g1
      obtain ⟨x, y⟩ := r.box i c cs g1 g2 g3
      exact ⟨x, y.congr (Same.refl _) fun d hd => upd_ne (flat_ne r.nd g2 h2 (Ne.symm q) hd ha)⟩
/-- the store is cut off -/
theorem Rel.take (r : Rel K F ρ Hd H S) (n : Nat) : Rel K F (ρ.take n) Hd H (S.take n) := by
  have sub : (ρ.take n).flatten <+: ρ.flatten := ⟨(ρ.drop n).flatten, by rw [← List.flatten_append, List.take_append_drop]⟩
  refine ⟨r.hd, r.fr, r.dj, r.nf, r.nk, by simp [r.len], r.nd.sublist sub.sublist, fun a ha => r.trk a (sub.subset ha), fun i b as h1 h2 h3 => ?_⟩
  by_cases hi : i < n
  · rw [List.getElem?_take_of_lt hi] at h1 h2
    exact r.box i b as h1 h2 h3
  · rw [List.getElem?_eq_none (by rw [List.length_take]; omega)] at h1
    cases h1
/-- a list of the store becomes data -/
theorem Rel.freeze (r : Rel K F ρ Hd H S) {n : Nat} {ds : List PyData} {a : Addr} {as : List Addr} (h1 : S[n]? = some (.lst ds)) (h2 : ρ[n]? = some (a :: as)) :
    ∃ Hd', Same Hd Hd' ∧ Rel K F ρ Hd' H (S.set n .dead) ∧ Dp K Hd' (.ref a) (.list ds) := by
  obtain ⟨fr, a', vs, e, hv, hds⟩ := r.box n _ _ h1 h2 (by simp)
  have e1 : a = a' := by simpa using (List.cons.inj e).1
  subst e1
  have da : Hd a = none := (fr a (by simp)).2
  refine ⟨upd Hd a (.lst vs), same_upd da, ⟨fun c u q => ?_, r.fr, fun c o q => by
    rw [upd_ne (ne_of_none q (fr a (by simp)).1)]
    exact r.dj c o q, fun c u q => by
    by_cases z : c = a
    · rw [z, upd_same] at q
      cases q
      exact True.intro
    · rw [upd_ne z] at q
      exact r.nf c u q, r.nk, by rw [List.length_set]; exact r.len, r.nd, r.trk, fun i b bs g1 g2 g3 => ?_⟩, .lst (SqL.of upd_same) (dpAll_mono (same_upd da) hds)⟩
  · by_cases z : c = a
    · subst z
      rw [upd_same] at q
      rw [hv]
      exact q
    · rw [upd_ne z] at q
      exact r.hd _ _ q
  · by_cases q : n = i
    · subst q
      rw [List.getElem?_set_self (List.getElem?_eq_some_iff.mp h1).1] at g1
      cases g1
      exact absurd rfl g3
    · rw [List.getElem?_set_ne q] at g1
      obtain ⟨x, y⟩ := r.box i b bs g1 g2 g3
      refine ⟨fun c hc => ⟨(x c hc).1, ?_⟩, y.congr (same_upd da) fun _ _ => rfl⟩
      rw [upd_ne (flat_ne r.nd g2 h2 (Ne.symm q) hc (by simp))]
      exact (x c hc).2
/-- the frame grows by a new object, shrinks again -/
theorem Rel.frame (r : Rel K F ρ Hd H S) {p : Addr} {o : HO} (hp : H p = some o) (hr : p ∉ ρ.flatten) (hd : Hd p = none) : Rel K (upd F p o) ρ Hd H S := by
  refine ⟨r.hd, fun c u e => ?_, fun c u e => ?_, r.nf, r.nk, r.len, r.nd, r.trk, fun i b as h1 h2 h3 => ?_⟩
  · by_cases q : c = p
    · subst q
      rw [upd_same] at e
      rw [hp]
      exact e
    · rw [upd_ne q] at e
      exact r.fr _ _ e
  · by_cases q : c = p
    · rw [q]
      exact hd
    · rw [upd_ne q] at e
      exact r.dj _ _ e
  · obtain ⟨x, y⟩ := r.box i b as h1 h2 h3
    refine ⟨fun c hc => ⟨?_, (x c hc).2⟩, y⟩
    rw [upd_ne (fun q => hr (by rw [← q]; exact mem_flat h2 hc))]
    exact (x c hc).1
theorem Rel.unframe {F' : Hp} (r : Rel K F' ρ Hd H S) (h : Same F F') : Rel K F ρ Hd H S :=
  ⟨r.hd, h.trans r.fr, fun a o e => r.dj a o (h _ _ e), r.nf, r.nk, r.len, r.nd, r.trk, fun i b as h1 h2 h3 => ⟨fun c hc => ⟨h.free ((r.box i b as h1 h2 h3).1 c hc).1, ((r.box i b as h1 h2 h3).1 c hc).2⟩, (r.box i b as h1 h2 h3).2⟩⟩
end

/-- a list that is data is a plain one -/
theorem Rel.plain {K : PySem.W.Frag} {F : Hp} {ρ : Ads} {Hd H : Hp} {S : Sto} (r : Rel K F ρ Hd H S) {a : Addr} {vs : List V} (h : SqL K Hd a vs) : Hd a = some (.lst vs) := by
  rcases h with (h | ⟨o, h⟩) | ⟨o, its, n, hk, hc, _⟩
  · exact h
  · exact (r.nf _ _ h).elim
  · exact absurd hc (r.nk _ _ hk)
/-! ### what is wanted behind, the judgements -/
def Aft {α β : Type} (K : PySem.W.Frag) (F : Hp) (W : WX) (σ : L2.St) (rel : Ads → Hp → β → α → Prop) (Q : β → Hp → Prop) (ρ : Ads) (Hd : Hp) : Out α → Prop
  | .val x S => ∀ v H' ρ' Hd', Grow ρ Hd ρ' Hd' → Rel K F ρ' Hd' H' S → rel ρ' Hd' v x → Q v H'
  | .exc c S => ∀ H' ρ' Hd', Grow ρ Hd ρ' Hd' → Rel K F ρ' Hd' H' S → W (.ref (He.ga K c)) none σ H'
  | .bad => False
theorem Aft.grow {α β : Type} {K : PySem.W.Frag} {F : Hp} {W : WX} {σ : L2.St} {rel : Ads → Hp → β → α → Prop} {Q : β → Hp → Prop} {ρ ρ' : Ads} {Hd Hd' : Hp} (g : Grow ρ Hd ρ' Hd') : ∀ {o : Out α}, Aft K F W σ rel Q ρ Hd o → Aft K F W σ rel Q ρ' Hd' o
  | .val _ _, h => fun v H' ρ2 Hd2 g2 r x => h v H' ρ2 Hd2 (g.trans g2) r x
  | .exc _ _, h => fun H' ρ2 Hd2 g2 r => h H' ρ2 Hd2 (g.trans g2) r
  | .bad, h => h
/-- THE JOINT -/
theorem aft_bind {α β α' β' : Type} {K : PySem.W.Frag} {F : Hp} {W : WX} {σ : L2.St} {rel : Ads → Hp → β → α → Prop} {rel' : Ads → Hp → β' → α' → Prop} {Q' : β' → Hp → Prop} {ρ : Ads} {Hd : Hp} {o : Out α} {f : α → Sto → Out α'}
    (h : Aft K F W σ rel' Q' ρ Hd (o.bind f)) : Aft K F W σ rel (fun v H' => ∃ ρ' Hd' x S', Grow ρ Hd ρ' Hd' ∧ Rel K F ρ' Hd' H' S' ∧ rel ρ' Hd' v x ∧ Aft K F W σ rel' Q' ρ' Hd' (f x S')) ρ Hd o := by
  cases o with
  | val x S => exact fun v H' ρ' Hd' g r hx => ⟨ρ', Hd', x, S, g, r, hx, Aft.grow g h⟩
  | exc c S => exact h
  | bad => exact h
theorem Aft.imp {α β : Type} {K : PySem.W.Frag} {F : Hp} {W : WX} {σ : L2.St} {rel : Ads → Hp → β → α → Prop} {Q Q' : β → Hp → Prop} {ρ : Ads} {Hd : Hp} {o : Out α} (h : Aft K F W σ rel Q ρ Hd o) (i : ∀ v H', Q v H' → Q' v H') : Aft K F W σ rel Q' ρ Hd o := by
  cases o with
  | val x S => exact fun v H' ρ' Hd' g r hx => i _ _ (h v H' ρ' Hd' g r hx)
  | exc c S => exact h
  | bad => exact h
/-- a reading is sound for a meaning -/
def Snd {α β : Type} (K : PySem.W.Frag) (W : WX) (rel : Ads → Hp → β → α → Prop) (t : L2.St → Hp → (β → Hp → Prop) → Prop) (z : Env1 → Sto → Out α) : Prop :=
  ∀ (F : Hp) (σ : L2.St) (H : Hp) (Q : β → Hp → Prop) (Γ : Env1) (S : Sto) (ρ : Ads) (Hd : Hp), Rel K F ρ Hd H S → Slots K ρ Hd σ Γ → Aft K F W σ rel Q ρ Hd (z Γ S) → t σ H Q
def eqB : Ads → Hp → Bool → Bool → Prop := fun _ _ a b => a = b
/-- a new object, not in the store, not data yet -/
def FrB (K : PySem.W.Frag) (F : Hp) (ρ : Ads) (Hd H : Hp) (v : V) (b : Box) : Prop := ∃ p, v = .ref p ∧ p ∉ ρ.flatten ∧ F p = none ∧ Hd p = none ∧ BoxOk K Hd H [p] b
def PZ (X : Cx) (e : Expr) (z : ZE) : Prop := ∀ W, Takes X W → ∃ t : TE, PE X e t ∧ Snd X.K W (SlIs X.K) t z
def PZT (X : Cx) (e : Expr) (z : ZT) : Prop := ∀ W, Takes X W → ∃ t : TT, PT X e t ∧ Snd X.K W eqB t z
def PZA (X : Cx) (es : List Expr) (z : ZA) : Prop := ∀ W, Takes X W → ∃ t : TA, PA X es t ∧ Snd X.K W (SlAll X.K) t z
/-- a new object -/
def AftF (K : PySem.W.Frag) (F : Hp) (W : WX) (σ : L2.St) (Q : VK) (ρ : Ads) (Hd : Hp) : Out Box → Prop
  | .val b S => ∀ p H' ρ' Hd', Grow ρ Hd ρ' Hd' → Rel K F ρ' Hd' H' S → p ∉ ρ'.flatten → F p = none → Hd' p = none → H' p ≠ none → BoxOk K Hd' H' [p] b → Q (.ref p) H'
  | .exc c S => ∀ H' ρ' Hd', Grow ρ Hd ρ' Hd' → Rel K F ρ' Hd' H' S → W (.ref (He.ga K c)) none σ H'
  | .bad => False
def SndF (K : PySem.W.Frag) (W : WX) (t : TE) (z : ZF) : Prop :=
  ∀ (F : Hp) (σ : L2.St) (H : Hp) (Q : VK) (Γ : Env1) (S : Sto) (ρ : Ads) (Hd : Hp), Rel K F ρ Hd H S → Slots K ρ Hd σ Γ → AftF K F W σ Q ρ Hd (z Γ S) → t σ H Q
def PZF (X : Cx) (e : Expr) (z : ZF) : Prop := ∀ W, Takes X W → ∃ t : TE, PE X e t ∧ SndF X.K W t z
end Z
end
section
set_option Elab.async false
set_option linter.all false
set_option maxRecDepth 100000
set_option autoImplicit false
set_option maxHeartbeats 1000000
namespace Z
open PySem L2
abbrev lim : Nat := 1000000
theorem lim_line {n : Nat} (h : n ≤ lim) : n ≤ sizeLine := Nat.le_trans h (by decide)
theorem lim_lt {n : Nat} (h : n ≤ lim) : n < sizeLine := Nat.lt_of_le_of_lt h (by decide)

/-! ### names, constants -/
def zv (i : Nat) : ZE := fun Γ S => match Γ[i]? with
  | some (some x) => .val x S
  | _ => .bad
def zc (x : PyData) : ZE := fun _ S => .val (.d x) S
section
variable {X : Cx}
theorem pz_v (i : Nat) {x : Str} {pos : Pos} (hN : X.N[i]? = some x := by rfl) (hv : Vis X.env.scope x := by first | exact Or.inl rfl | exact Or.inr (Or.inl rfl) | exact Or.inr (Or.inr rfl)) (hd : (x == ("__debug__" : Str)) = false := by decide)
    (hcd : (x == ("__classdict__" : Str)) = false := by decide) : PZ X (.Name x pos) (zv i) := fun W _ => by
  refine ⟨tVar i, pe_var hN hv hd hcd, fun F σ H Q Γ S ρ Hd r sl a => ?_⟩
  unfold zv at a
  split at a
  · rename_i x e
    obtain ⟨v, e1, e2⟩ := sl.2 i x e
    exact ⟨v, e1, a v H ρ Hd .refl r e2⟩
  · exact a.elim
theorem pz_c {e : Expr} {v : V} {x : PyData} (h : PE X e (tC v)) (hd : ∀ Hd : Hp, Dp X.K Hd v x) : PZ X e (zc x) := fun _ _ =>
  ⟨_, h, fun _ _ H _ _ _ ρ Hd r _ a => a v H ρ Hd .refl r (hd Hd)⟩
theorem pz_int {i : Int} {j : Nat} {pos : Pos} : PZ X (.Constant (.int i) j pos) (zc (.int i)) := pz_c pe_int fun _ => .int i
theorem pz_str {x : Str} {j : Nat} {pos : Pos} : PZ X (.Constant (.str x) j pos) (zc (.str x)) := pz_c pe_str fun _ => .str x
theorem pz_bl {b : Bool} {j : Nat} {pos : Pos} : PZ X (.Constant (.bool b) j pos) (zc (.bool b)) := pz_c pe_bl fun _ => .bl b
theorem pz_non {j : Nat} {pos : Pos} : PZ X (.Constant .none j pos) (zc .none) := pz_c pe_non fun _ => .non
end

/-! ### what a value is seen as -/
def res (S : Sto) : Sl → Option PyData
  | .d x => some x
  | .box n => match S[n]? with
    | some (.lst ds) => some (.list ds)
    | some (.scr ns) => some (.list (ns.map .int))
    | _ => none
  | _ => none
theorem ints_dp0 {K : PySem.W.Frag} {H : Hp} : ∀ ns : List Int, DpAll K H (ns.map .int) (ns.map .int)
  | [] => .nil
  | n :: ns => .cons (.int n) (ints_dp0 ns)
def Vw (K : PySem.W.Frag) (Hd H : Hp) (v : V) : PyData → Prop
  | .list ds => ∃ a vs, v = .ref a ∧ SqL K H a vs ∧ DpAll K Hd vs ds
  | .tuple ds => ∃ a vs, v = .ref a ∧ SqT K Hd a vs ∧ DpAll K Hd vs ds
  | .none => v = .non
  | .bool b => v = .bl b
  | .int i => v = .int i
  | .str x => v = .str x
  | .dict _ => False
theorem dp_vw {K : PySem.W.Frag} {Hd H : Hp} {v : V} {x : PyData} (e : Same Hd H) (h : Dp K Hd v x) : Vw K Hd H v x := by
  cases h with
  | non => rfl
  | bl b => rfl
  | int i => rfl
  | str x => rfl
  | lst s a => exact ⟨_, _, rfl, e.seq s, a⟩
  | tup s a => exact ⟨_, _, rfl, s, a⟩
theorem Vw.dp {K : PySem.W.Frag} {Hd H : Hp} {v : V} {x : PyData} (e : Same Hd H) (h : Vw K Hd H v x) : Dp K H v x := by
  cases x with
  | none => rw [show v = .non from h]; exact .non
  | bool b => rw [show v = .bl b from h]; exact .bl b
  | int i => rw [show v = .int i from h]; exact .int i
  | str s => rw [show v = .str s from h]; exact .str s
  | list ds => obtain ⟨a, vs, rfl, h1, h2⟩ := h; exact .lst h1 (dpAll_mono e h2)
  | tuple ds => obtain ⟨a, vs, rfl, h1, h2⟩ := h; exact .tup (same_t e h1) (dpAll_mono e h2)
  | dict ks => exact h.elim
theorem vw_of {K : PySem.W.Frag} {F : Hp} {ρ : Ads} {Hd H : Hp} {S : Sto} {v : V} {x : Sl} {d : PyData} (r : Rel K F ρ Hd H S) (h : SlIs K ρ Hd v x) (e : res S x = some d) : Vw K Hd H v d := by
  cases x with
  | d y =>
    cases e
    exact dp_vw r.hd h
  | box n =>
    obtain ⟨a, as, rfl, h2⟩ := h
    unfold res at e
    dsimp only at e
    split at e
    · rename_i ds h1
      cases e
      obtain ⟨_, a', vs, e1, hv, hds⟩ := r.box n _ _ h1 h2 (by simp)
      have e2 : a = a' := (List.cons.inj e1).1
      subst e2
      exact ⟨a, vs, rfl, SqL.of hv, hds⟩
    · rename_i ns h1
      cases e
      obtain ⟨_, a', o, e1, hv⟩ := r.box n _ _ h1 h2 (by simp)
      have e2 : a = a' := (List.cons.inj e1).1
      subst e2
      exact ⟨a, _, rfl, .inl (.inr ⟨o, hv⟩), ints_dp0 ns⟩
    · cases e
  | sub n => cases e
  | pr y n => cases e
  | fn => cases e
/-- an operation's answer is data that it makes -/
def Made (K : PySem.W.Frag) (F : Hp) (ρ : Ads) (Hd : Hp) (S : Sto) (c : PyData) (Q : VK) : Prop := ∀ v H' Hd', Same Hd Hd' → Rel K F ρ Hd' H' S → Dp K Hd' v c → Q v H'

/-! ### two operands -/
def OpZ (X : Cx) (f : Value → Value → Sem Value) (r : PyData → PyData → Option PyData) : Prop := ∃ rr : R2, OpR X f rr ∧
  ∀ (F : Hp) (x y : V) (H : Hp) (Q : VK) (a b c : PyData) (S : Sto) (ρ : Ads) (Hd : Hp), Rel X.K F ρ Hd H S → Vw X.K Hd H x a → Vw X.K Hd H y b → r a b = some c → Made X.K F ρ Hd S c Q → rr x y H Q
def app2 (r : PyData → PyData → Option PyData) (S : Sto) (x y : Sl) : Out Sl := match res S x, res S y with
  | some a, some b => (match r a b with
    | some c => .val (.d c) S
    | none => .bad)
  | _, _ => .bad
def zop (r : PyData → PyData → Option PyData) (za zb : ZE) : ZE := fun Γ S => (za Γ S).bind fun x S1 => (zb Γ S1).bind fun y S2 => app2 r S2 x y
theorem app2_some {r : PyData → PyData → Option PyData} {S : Sto} {x y : Sl} {α β : Type} {K : PySem.W.Frag} {F : Hp} {W : WX} {σ : L2.St} {rel : Ads → Hp → β → Sl → Prop} {Q : β → Hp → Prop} {ρ : Ads} {Hd : Hp} (h : Aft K F W σ rel Q ρ Hd (app2 r S x y)) : ∃ a b c, res S x = some a ∧ res S y = some b ∧ r a b = some c ∧ Aft K F W σ rel Q ρ Hd (.val (.d c) S) := by
  unfold app2 at h
  split at h
  · rename_i a b e1 e2
    split at h
    · rename_i c e3
      exact ⟨a, b, c, e1, e2, e3, h⟩
    · exact h.elim
  · exact h.elim
section
variable {X : Cx} {a b c : Expr} {za zb zc' : ZE} {pos : Pos}
theorem snd_op {W : WX} {ta tb : TE} {rr : R2} {r : PyData → PyData → Option PyData} (ha : Snd X.K W (SlIs X.K) ta za) (hb : Snd X.K W (SlIs X.K) tb zb)
    (ho : ∀ (F : Hp) (x y : V) (H : Hp) (Q : VK) (a b c : PyData) (S : Sto) (ρ : Ads) (Hd : Hp), Rel X.K F ρ Hd H S → Vw X.K Hd H x a → Vw X.K Hd H y b → r a b = some c → Made X.K F ρ Hd S c Q → rr x y H Q) : Snd X.K W (SlIs X.K) (tOp rr ta tb) (zop r za zb) := by
  intro F σ H Q Γ S ρ Hd rl sl af
  refine ha F σ H _ Γ S ρ Hd rl sl (Aft.imp (aft_bind af) ?_)
  rintro x H1 ⟨ρ1, Hd1, x', S1, g1, r1, hx, af1⟩
  refine hb F σ H1 _ Γ S1 ρ1 Hd1 r1 (sl.grow g1) (Aft.imp (aft_bind af1) ?_)
  rintro y H2 ⟨ρ2, Hd2, y', S2, g2, r2, hy, af2⟩
  obtain ⟨p, q, c, e1, e2, e3, af3⟩ := app2_some (α := Unit) af2
  exact ho F x y H2 Q p q c S2 ρ2 Hd2 r2 (vw_of r2 (hx.grow g2) e1) (vw_of r2 hy e2) e3 fun v H' Hd' s r' d => af3 v H' ρ2 Hd' (.hd s) r' d
theorem pz_op {op : Operator} {r : PyData → PyData → Option PyData} (ho : OpZ X (binaryOp op) r) (ha : PZ X a za) (hb : PZ X b zb) : PZ X (.BinOp a op b pos) (zop r za zb) := fun W tk => by
  obtain ⟨rr, h1, h2⟩ := ho
  obtain ⟨ta, pa, sa⟩ := ha W tk
  obtain ⟨tb, pb, sb⟩ := hb W tk
  exact ⟨_, pe_op h1 pa pb, snd_op sa sb h2⟩
theorem pz_cmp {op : CmpOp} {r : PyData → PyData → Option PyData} (ho : OpZ X (compareOp op) r) (ha : PZ X a za) (hb : PZ X b zb) (hm : behindInMarks op b = false := by first | exact nomark _ | rfl) : PZ X (.Compare a [op] [b] pos) (zop r za zb) := fun W tk => by
  obtain ⟨rr, h1, h2⟩ := ho
  obtain ⟨ta, pa, sa⟩ := ha W tk
  obtain ⟨tb, pb, sb⟩ := hb W tk
  exact ⟨_, pe_cmpR h1 pa pb hm, snd_op sa sb h2⟩
end
/-- a truth as a test -/
def ztst (z : ZE) : ZT := fun Γ S => (z Γ S).bind fun x S1 => match x with
  | .d (.bool b) => .val b S1
  | _ => .bad
section
variable {X : Cx} {a b c : Expr} {za zb zc' : ZE} {pos : Pos}
theorem snd_tst {W : WX} {t : TE} {z : ZE} (h : Snd X.K W (SlIs X.K) t z) : Snd X.K W eqB (tTest t) (ztst z) := by
  intro F σ H Q Γ S ρ Hd rl sl af
  refine h F σ H _ Γ S ρ Hd rl sl (Aft.imp (aft_bind af) ?_)
  rintro x H1 ⟨ρ1, Hd1, x', S1, g1, r1, hx, af1⟩
  cases x' with
  | d y =>
    cases y with
    | bool b =>
      have e : x = .bl b := dp_vw (H := Hd1) (Same.refl _) hx
      exact ⟨b, e, af1 b H1 ρ1 Hd1 .refl r1 rfl⟩
    | _ => exact False.elim af1
  | _ => exact False.elim af1
theorem pzt_cmp {op : CmpOp} {r : PyData → PyData → Option PyData} (ho : OpZ X (compareOp op) r) (ha : PZ X a za) (hb : PZ X b zb) (hm : behindInMarks op b = false := by first | exact nomark _ | rfl) : PZT X (.Compare a [op] [b] pos) (ztst (zop r za zb)) := fun W tk => by
  obtain ⟨rr, h1, h2⟩ := ho
  obtain ⟨ta, pa, sa⟩ := ha W tk
  obtain ⟨tb, pb, sb⟩ := hb W tk
  exact ⟨_, pt_cmpR h1 pa pb hm, snd_tst (snd_op sa sb h2)⟩
/-- a < b < c -/
def zchain (r r' : PyData → PyData → Option PyData) (za zb zd : ZE) : ZE := fun Γ S => (za Γ S).bind fun x S1 => (zb Γ S1).bind fun y S2 => (app2 r S2 x y).bind fun k S3 => match k with
  | .d (.bool true) => (zd Γ S3).bind fun w S4 => app2 r' S4 y w
  | .d (.bool false) => .val (.d (.bool false)) S3
  | _ => .bad
theorem snd_chain {W : WX} {ta tb tc : TE} {rr rr' : R2} {r r' : PyData → PyData → Option PyData} {zd : ZE} (ha : Snd X.K W (SlIs X.K) ta za) (hb : Snd X.K W (SlIs X.K) tb zb) (hc : Snd X.K W (SlIs X.K) tc zd)
    (ho : ∀ (F : Hp) (x y : V) (H : Hp) (Q : VK) (a b c : PyData) (S : Sto) (ρ : Ads) (Hd : Hp), Rel X.K F ρ Hd H S → Vw X.K Hd H x a → Vw X.K Hd H y b → r a b = some c → Made X.K F ρ Hd S c Q → rr x y H Q)
    (ho' : ∀ (F : Hp) (x y : V) (H : Hp) (Q : VK) (a b c : PyData) (S : Sto) (ρ : Ads) (Hd : Hp), Rel X.K F ρ Hd H S → Vw X.K Hd H x a → Vw X.K Hd H y b → r' a b = some c → Made X.K F ρ Hd S c Q → rr' x y H Q) : Snd X.K W (SlIs X.K) (tChain rr rr' ta tb tc) (zchain r r' za zb zd) := by
  intro F σ H Q Γ S ρ Hd rl sl af
  refine ha F σ H _ Γ S ρ Hd rl sl (Aft.imp (aft_bind af) ?_)
  rintro x H1 ⟨ρ1, Hd1, x', S1, g1, r1, hx, af1⟩
  refine hb F σ H1 _ Γ S1 ρ1 Hd1 r1 (sl.grow g1) (Aft.imp (aft_bind af1) ?_)
  rintro y H2 ⟨ρ2, Hd2, y', S2, g2, r2, hy, af2⟩
  obtain ⟨p, q, c, e1, e2, e3, af3⟩ := app2_some (α := Unit) (rel := SlIs X.K) (aft_bind af2)
  refine ho F x y H2 _ p q c S2 ρ2 Hd2 r2 (vw_of r2 (hx.grow g2) e1) (vw_of r2 hy e2) e3 fun v H' Hd' s r' d => ?_
  obtain ⟨ρ3, Hd3, k, S3, g3, r3, hk, af4⟩ := af3 v H' ρ2 Hd' (.hd s) r' d
  cases k with
  | d k =>
    cases k with
    | bool k =>
      have e : v = .bl k := dp_vw (H := Hd3) (Same.refl _) hk
      cases k with
      | true =>
        refine ⟨true, e, ?_⟩
        rw [if_pos rfl]
        refine hc F σ H' _ Γ S3 ρ3 Hd3 r3 ((sl.grow g1).grow (g2.trans g3)) (Aft.imp (aft_bind af4) ?_)
        rintro w H4 ⟨ρ4, Hd4, w', S4, g4, r4, hw, af5⟩
        obtain ⟨p', q', c', f1, f2, f3, af6⟩ := app2_some (α := Unit) af5
        exact ho' F y w H4 Q p' q' c' S4 ρ4 Hd4 r4 (vw_of r4 (hy.grow (g3.trans g4)) f1) (vw_of r4 hw f2) f3 fun v H' Hd' s r' d => af6 v H' ρ4 Hd' (.hd s) r' d
      | false =>
        refine ⟨false, e, ?_⟩
        rw [if_neg Bool.false_ne_true]
        exact af4 (.bl false) H' ρ3 Hd3 .refl r3 (.bl false)
    | _ => exact False.elim af4
  | _ => exact False.elim af4
theorem pz_chain {op op' : CmpOp} {r r' : PyData → PyData → Option PyData} {zd : ZE} (ho : OpZ X (compareOp op) r) (ho' : OpZ X (compareOp op') r') (ha : PZ X a za) (hb : PZ X b zb) (hc : PZ X c zd)
    (hm : lastMarks [op, op'] [b, c] = false := by rfl) : PZ X (.Compare a [op, op'] [b, c] pos) (zchain r r' za zb zd) := fun W tk => by
  obtain ⟨rr, h1, h2⟩ := ho
  obtain ⟨rr', h1', h2'⟩ := ho'
  obtain ⟨ta, pa, sa⟩ := ha W tk
  obtain ⟨tb, pb, sb⟩ := hb W tk
  obtain ⟨tc, pc, sc⟩ := hc W tk
  exact ⟨_, pe_chain h1 h1' pa pb pc hm, snd_chain sa sb sc h2 h2'⟩
theorem pzt_chain {op op' : CmpOp} {r r' : PyData → PyData → Option PyData} {zd : ZE} (ho : OpZ X (compareOp op) r) (ho' : OpZ X (compareOp op') r') (ha : PZ X a za) (hb : PZ X b zb) (hc : PZ X c zd)
    (hm : lastMarks [op, op'] [b, c] = false := by rfl) : PZT X (.Compare a [op, op'] [b, c] pos) (ztst (zchain r r' za zb zd)) := fun W tk => by
  obtain ⟨rr, h1, h2⟩ := ho
  obtain ⟨rr', h1', h2'⟩ := ho'
  obtain ⟨ta, pa, sa⟩ := ha W tk
  obtain ⟨tb, pb, sb⟩ := hb W tk
  obtain ⟨tc, pc, sc⟩ := hc W tk
  exact ⟨_, pt_chain h1 h1' pa pb pc hm, snd_tst (snd_chain sa sb sc h2 h2')⟩
end

/-! ### and, or, not, if .. else; truth -/
def PZW (X : Cx) (e : Expr) (z : ZT) : Prop := ∀ W, Takes X W → ∃ t : TT, PW X e t ∧ Snd X.K W eqB t z
def zand (za zb : ZT) : ZT := fun Γ S => (za Γ S).bind fun k S1 => if k = true then zb Γ S1 else .val false S1
def zor (za zb : ZT) : ZT := fun Γ S => (za Γ S).bind fun k S1 => if k = true then .val true S1 else zb Γ S1
def znot (za : ZT) : ZT := fun Γ S => (za Γ S).bind fun k S1 => .val (!k) S1
def zandV (za zb : ZE) : ZE := fun Γ S => (za Γ S).bind fun x S1 => match x with
  | .d (.bool true) => zb Γ S1
  | .d (.bool false) => .val (.d (.bool false)) S1
  | _ => .bad
def zorV (za zb : ZE) : ZE := fun Γ S => (za Γ S).bind fun x S1 => match x with
  | .d (.bool true) => .val (.d (.bool true)) S1
  | .d (.bool false) => zb Γ S1
  | _ => .bad
def znotV (za : ZT) : ZE := fun Γ S => (za Γ S).bind fun k S1 => .val (.d (.bool !k)) S1
def zif (zt : ZT) (za zb : ZE) : ZE := fun Γ S => (zt Γ S).bind fun k S1 => if k = true then za Γ S1 else zb Γ S1
def truth : PyData → Option Bool
  | .none => some false
  | .bool b => some b
  | .int i => some (i != 0)
  | .str y => if y.length ≤ lim then some ((y.length : Int) != 0) else none
  | .list ds => some !ds.isEmpty
  | .tuple ds => some !ds.isEmpty
  | .dict _ => none
def truS (S : Sto) (x : Sl) : Option Bool := match x with
  | .box n => (match S[n]? with
    | some (.lst ds) => some !ds.isEmpty
    | some (.dic kvs) => some !kvs.isEmpty
    | some (.scr ns) => some !ns.isEmpty
    | _ => none)
  | .d y => truth y
  | _ => none
def ztru (z : ZE) : ZT := fun Γ S => (z Γ S).bind fun x S1 => ofOpt (truS S1 x) S1
theorem dpAll_len {K : PySem.W.Frag} {H : Hp} : ∀ {vs : List V} {ds : List PyData}, DpAll K H vs ds → vs.length = ds.length
  | _, _, .nil => rfl
  | _, _, .cons _ t => by rw [List.length_cons, List.length_cons, dpAll_len t]
theorem dpAll_empty {K : PySem.W.Frag} {H : Hp} {vs : List V} {ds : List PyData} (h : DpAll K H vs ds) : vs.isEmpty = ds.isEmpty := by
  cases h <;> rfl
theorem kv_empty {κ : Type} {K : PySem.W.Frag} {H : Hp} {us : List (κ × V)} {ks : List (κ × PyData)} (h : KvOk K H us ks) : us.isEmpty = ks.isEmpty := by
  cases h <;> rfl
theorem kv_len {κ : Type} {K : PySem.W.Frag} {H : Hp} {us : List (κ × V)} {ks : List (κ × PyData)} (h : KvOk K H us ks) : us.length = ks.length := Paired.length h
theorem tru_of {K : PySem.W.Frag} {F : Hp} {ρ : Ads} {Hd H : Hp} {S : Sto} {v : V} {x : Sl} {k : Bool} (r : Rel K F ρ Hd H S) (h : SlIs K ρ Hd v x) (e : truS S x = some k) : TruV K v H k := by
  cases x with
  | d y =>
    have e : truth y = some k := e
    have w := dp_vw r.hd h
    cases y with
    | none => rw [show v = .non from w]; exact (Option.some.inj e).symm
    | bool b => rw [show v = .bl b from w]; exact (Option.some.inj e).symm
    | int i => rw [show v = .int i from w]; exact (Option.some.inj e).symm
    | str s =>
      rw [show v = .str s from w]
      have e : (if s.length ≤ lim then some ((s.length : Int) != 0) else none) = some k := e
      split at e
      · rename_i hl
        exact ⟨lim_line hl, (Option.some.inj e).symm⟩
      · cases e
    | list ds =>
      obtain ⟨a, vs, rfl, h1, h2⟩ := w
      exact .inl ⟨vs, h1, by rw [dpAll_empty h2]; exact (Option.some.inj e).symm⟩
    | tuple ds =>
      obtain ⟨a, vs, rfl, h1, h2⟩ := w
      exact .inr (.inl ⟨vs, same_t r.hd h1, by rw [dpAll_empty h2]; exact (Option.some.inj e).symm⟩)
    | dict ks => cases e
  | box n =>
    obtain ⟨a, as, rfl, h2⟩ := h
    unfold truS at e
    dsimp only at e
    split at e
    · rename_i ds h1
      obtain ⟨_, a', vs, e1, hv, hds⟩ := r.box n _ _ h1 h2 (by simp)
      have e2 : a = a' := (List.cons.inj e1).1
      subst e2
      exact .inl ⟨vs, SqL.of hv, by rw [dpAll_empty hds]; exact (Option.some.inj e).symm⟩
    · rename_i ds h1
      obtain ⟨_, a', us, e1, hv, hds⟩ := r.box n _ _ h1 h2 (by simp)
      have e2 : a = a' := (List.cons.inj e1).1
      subst e2
      exact .inr (.inr ⟨us, hv, by rw [kv_empty hds]; exact (Option.some.inj e).symm⟩)
    · rename_i ns h1
      obtain ⟨_, a', o, e1, hv⟩ := r.box n _ _ h1 h2 (by simp)
      have e2 : a = a' := (List.cons.inj e1).1
      subst e2
      exact .inl ⟨_, .inl (.inr ⟨o, hv⟩), by rw [← Option.some.inj e]; cases ns <;> rfl⟩
    · cases e
  | sub n => cases e
  | pr y n => cases e
  | fn => cases e
section
variable {X : Cx} {a b c : Expr} {rest : List Expr} {za zb : ZE} {ta tb : ZT} {pos : Pos}
theorem pzt_w (h : PZW X a ta) : PZT X a ta := fun W tk => let ⟨t, p, s⟩ := h W tk; ⟨t, p.pt, s⟩
theorem snd_and {W : WX} {t u : TT} (h1 : Snd X.K W eqB t ta) (h2 : Snd X.K W eqB u tb) : Snd X.K W eqB (tAnd t u) (zand ta tb) := by
  intro F σ H Q Γ S ρ Hd rl sl af
  refine h1 F σ H _ Γ S ρ Hd rl sl (Aft.imp (aft_bind af) ?_)
  rintro k H1 ⟨ρ1, Hd1, k', S1, g1, r1, hk, af1⟩
  have e : k = k' := hk
  subst e
  cases k with
  | true =>
    rw [if_pos rfl]
    exact h2 F σ H1 Q Γ S1 ρ1 Hd1 r1 (sl.grow g1) af1
  | false =>
    rw [if_neg Bool.false_ne_true]
    exact af1 false H1 ρ1 Hd1 .refl r1 rfl
theorem snd_or {W : WX} {t u : TT} (h1 : Snd X.K W eqB t ta) (h2 : Snd X.K W eqB u tb) : Snd X.K W eqB (tOr t u) (zor ta tb) := by
  intro F σ H Q Γ S ρ Hd rl sl af
  refine h1 F σ H _ Γ S ρ Hd rl sl (Aft.imp (aft_bind af) ?_)
  rintro k H1 ⟨ρ1, Hd1, k', S1, g1, r1, hk, af1⟩
  have e : k = k' := hk
  subst e
  cases k with
  | true =>
    rw [if_pos rfl]
    exact af1 true H1 ρ1 Hd1 .refl r1 rfl
  | false =>
    rw [if_neg Bool.false_ne_true]
    exact h2 F σ H1 Q Γ S1 ρ1 Hd1 r1 (sl.grow g1) af1
theorem pzw_and1 (ha : PZT X a ta) : PZW X (.BoolOp .And [a] pos) ta := fun W tk => let ⟨_, p, s⟩ := ha W tk; ⟨_, pw_and1 p, s⟩
theorem pzw_or1 (ha : PZT X a ta) : PZW X (.BoolOp .Or [a] pos) ta := fun W tk => let ⟨_, p, s⟩ := ha W tk; ⟨_, pw_or1 p, s⟩
theorem pzw_and (ha : PZT X a ta) (hb : PZW X (.BoolOp .And (b :: rest) pos) tb) : PZW X (.BoolOp .And (a :: b :: rest) pos) (zand ta tb) := fun W tk => let ⟨_, p, s⟩ := ha W tk; let ⟨_, p', s'⟩ := hb W tk; ⟨_, pw_and p p', snd_and s s'⟩
theorem pzw_or (ha : PZT X a ta) (hb : PZW X (.BoolOp .Or (b :: rest) pos) tb) : PZW X (.BoolOp .Or (a :: b :: rest) pos) (zor ta tb) := fun W tk => let ⟨_, p, s⟩ := ha W tk; let ⟨_, p', s'⟩ := hb W tk; ⟨_, pw_or p p', snd_or s s'⟩
theorem pzt_not (ha : PZT X a ta) : PZT X (.UnaryOp .Not a pos) (znot ta) := fun W tk => by
  obtain ⟨t, p, s⟩ := ha W tk
  refine ⟨_, pt_not p, fun F σ H Q Γ S ρ Hd rl sl af => ?_⟩
  refine s F σ H _ Γ S ρ Hd rl sl (Aft.imp (aft_bind af) ?_)
  rintro k H1 ⟨ρ1, Hd1, k', S1, g1, r1, hk, af1⟩
  have e : k = k' := hk
  subst e
  exact af1 (!k) H1 ρ1 Hd1 .refl r1 rfl
theorem pzt_tru (ha : PZ X a za) (he : ∀ whole, isTrue a X.env whole = (do let v ← whole; standAt a.pos; holding [v] (truthy v)) := by intro _; rfl) : PZT X a (ztru za) := fun W tk => by
  obtain ⟨t, p, s⟩ := ha W tk
  refine ⟨_, pt_truth p he, fun F σ H Q Γ S ρ Hd rl sl af => ?_⟩
  refine s F σ H _ Γ S ρ Hd rl sl (Aft.imp (aft_bind af) ?_)
  rintro x H1 ⟨ρ1, Hd1, x', S1, g1, r1, hx, af1⟩
  cases e : truS S1 x' with
  | none => rw [e] at af1; exact False.elim af1
  | some k =>
    rw [e] at af1
    exact ⟨k, tru_of r1 hx e, af1 k H1 ρ1 Hd1 .refl r1 rfl⟩
theorem pz_one {op : BoolOp} (h : PZ X a za) : PZ X (.BoolOp op [a] pos) za := fun W tk => let ⟨_, p, s⟩ := h W tk; ⟨_, pe_one p, s⟩
theorem pz_and (ha : PZ X a za) (hb : PZ X (.BoolOp .And (b :: rest) pos) zb) : PZ X (.BoolOp .And (a :: b :: rest) pos) (zandV za zb) := fun W tk => by
  obtain ⟨t, p, s⟩ := ha W tk
  obtain ⟨t', p', s'⟩ := hb W tk
  refine ⟨_, L2.pe_and p p', fun F σ H Q Γ S ρ Hd rl sl af => ?_⟩
  refine s F σ H _ Γ S ρ Hd rl sl (Aft.imp (aft_bind af) ?_)
  rintro x H1 ⟨ρ1, Hd1, x', S1, g1, r1, hx, af1⟩
  cases x' with
  | d y =>
    cases y with
    | bool k =>
      have e : x = .bl k := dp_vw (H := Hd1) (Same.refl _) hx
      refine ⟨k, e, ?_⟩
      cases k with
      | true =>
        rw [if_pos rfl]
        exact s' F σ H1 Q Γ S1 ρ1 Hd1 r1 (sl.grow g1) af1
      | false =>
        rw [if_neg Bool.false_ne_true]
        exact af1 (.bl false) H1 ρ1 Hd1 .refl r1 (.bl false)
    | _ => exact False.elim af1
  | _ => exact False.elim af1
theorem pz_or (ha : PZ X a za) (hb : PZ X (.BoolOp .Or (b :: rest) pos) zb) : PZ X (.BoolOp .Or (a :: b :: rest) pos) (zorV za zb) := fun W tk => by
  obtain ⟨t, p, s⟩ := ha W tk
  obtain ⟨t', p', s'⟩ := hb W tk
  refine ⟨_, L2.pe_or p p', fun F σ H Q Γ S ρ Hd rl sl af => ?_⟩
  refine s F σ H _ Γ S ρ Hd rl sl (Aft.imp (aft_bind af) ?_)
  rintro x H1 ⟨ρ1, Hd1, x', S1, g1, r1, hx, af1⟩
  cases x' with
  | d y =>
    cases y with
    | bool k =>
      have e : x = .bl k := dp_vw (H := Hd1) (Same.refl _) hx
      refine ⟨k, e, ?_⟩
      cases k with
      | true =>
        rw [if_pos rfl]
        exact af1 (.bl true) H1 ρ1 Hd1 .refl r1 (.bl true)
      | false =>
        rw [if_neg Bool.false_ne_true]
        exact s' F σ H1 Q Γ S1 ρ1 Hd1 r1 (sl.grow g1) af1
    | _ => exact False.elim af1
  | _ => exact False.elim af1
/-- not as a value, by truth -/
theorem pz_not (ha : PZ X a za) : PZ X (.UnaryOp .Not a pos) (znotV (ztru za)) := fun W tk => by
  obtain ⟨t, p, s⟩ := ha W tk
  refine ⟨_, pe_notT p, fun F σ H Q Γ S ρ Hd rl sl af => ?_⟩
  have af' : Aft X.K F W σ (SlIs X.K) Q ρ Hd ((za Γ S).bind fun x S1 => (ofOpt (truS S1 x) S1).bind fun k S1 => .val (.d (.bool !k)) S1) := by
    unfold znotV ztru at af
    cases h : za Γ S with
    | val x S1 => rw [h] at af; exact af
    | exc c S1 => rw [h] at af; exact af
    | bad => rw [h] at af; exact af
  refine s F σ H _ Γ S ρ Hd rl sl (Aft.imp (aft_bind af') ?_)
  rintro x H1 ⟨ρ1, Hd1, x', S1, g1, r1, hx, af1⟩
  cases e : truS S1 x' with
  | none => rw [e] at af1; exact False.elim af1
  | some k =>
    rw [e] at af1
    exact ⟨k, tru_of r1 hx e, af1 (.bl !k) H1 ρ1 Hd1 .refl r1 (.bl _)⟩
theorem pz_if (hc : PZT X c ta) (ha : PZ X a za) (hb : PZ X b zb) : PZ X (.IfExp c a b pos) (zif ta za zb) := fun W tk => by
  obtain ⟨t, p, s⟩ := hc W tk
  obtain ⟨t1, p1, s1⟩ := ha W tk
  obtain ⟨t2, p2, s2⟩ := hb W tk
  refine ⟨_, pe_ifExp p p1 p2, fun F σ H Q Γ S ρ Hd rl sl af => ?_⟩
  refine s F σ H _ Γ S ρ Hd rl sl (Aft.imp (aft_bind af) ?_)
  rintro k H1 ⟨ρ1, Hd1, k', S1, g1, r1, hk, af1⟩
  have e : k = k' := hk
  subst e
  cases k with
  | true =>
    rw [if_pos rfl]
    exact s1 F σ H1 Q Γ S1 ρ1 Hd1 r1 (sl.grow g1) af1
  | false =>
    rw [if_neg Bool.false_ne_true]
    exact s2 F σ H1 Q Γ S1 ρ1 Hd1 r1 (sl.grow g1) af1
end
end Z
end
section
set_option Elab.async false
set_option linter.all false
set_option maxRecDepth 100000
set_option autoImplicit false
set_option maxHeartbeats 1000000
namespace Z
open PySem L2
/-! ### operators -/
def dAdd : PyData → PyData → Option PyData
  | .int i, .int j => some (.int (i + j))
  | .str a, .str b => if a.length + b.length ≤ lim then some (.str (a ++ b)) else none
  | .tuple a, .tuple b => if a.length + b.length ≤ lim then some (.tuple (a ++ b)) else none
  | _, _ => none
def dSub : PyData → PyData → Option PyData
  | .int i, .int j => some (.int (i - j))
  | _, _ => none
def dMul : PyData → PyData → Option PyData
  | .int i, .int j => if i.natAbs < 2 ^ 64 ∨ j.natAbs < 2 ^ 64 then some (.int (i * j)) else none
  | _, _ => none
def dMod : PyData → PyData → Option PyData
  | .int i, .int j => if 0 < j then some (.int (i % j)) else none
  | _, _ => none
def dDiv : PyData → PyData → Option PyData
  | .int i, .int j => if 0 < j ∧ j.natAbs < 1073741824 then some (.int (i / j)) else none
  | _, _ => none
def dLt : PyData → PyData → Option PyData
  | .int i, .int j => some (.bool (decide (i < j)))
  | .str a, .str b => some (.bool (decide (a.cps.toList < b.cps.toList)))
  | _, _ => none
def dLe : PyData → PyData → Option PyData
  | .int i, .int j => some (.bool (decide (i ≤ j)))
  | .str a, .str b => some (.bool (!decide (b.cps.toList < a.cps.toList)))
  | _, _ => none
def dGt : PyData → PyData → Option PyData
  | .int i, .int j => some (.bool (decide (j < i)))
  | .str a, .str b => some (.bool (decide (b.cps.toList < a.cps.toList)))
  | _, _ => none
def dGe : PyData → PyData → Option PyData
  | .int i, .int j => some (.bool (decide (j ≤ i)))
  | .str a, .str b => some (.bool (!decide (a.cps.toList < b.cps.toList)))
  | _, _ => none
def dEq : PyData → PyData → Option PyData
  | .int i, .int j => some (.bool (i == j))
  | .str a, .str b => some (.bool (a == b))
  | .bool a, .bool b => some (.bool (a == b))
  | a, b => if SeqAt.shaped a = true ∧ SeqAt.shaped b = true then some (.bool (PyData.eqv a b)) else none
def dNe : PyData → PyData → Option PyData
  | .int i, .int j => some (.bool (!(i == j)))
  | .str a, .str b => some (.bool (!(a == b)))
  | .bool a, .bool b => some (.bool (!(a == b)))
  | a, b => if SeqAt.shaped a = true ∧ SeqAt.shaped b = true then some (.bool (!PyData.eqv a b)) else none
def nonD : PyData → Bool
  | .none => true
  | _ => false
def dIs : PyData → PyData → Option PyData
  | a, .none => some (.bool (nonD a))
  | .bool a, .bool b => some (.bool (decide (a = b)))
  | _, _ => none
def dIsNot : PyData → PyData → Option PyData
  | a, .none => some (.bool (!nonD a))
  | .bool a, .bool b => some (.bool (!decide (a = b)))
  | _, _ => none
def flatD : PyData → Bool
  | .none | .bool _ | .int _ | .str _ => true
  | _ => false
/-- x in a list or tuple -/
def isIn (x : PyData) (ds : List PyData) : Bool := ds.any fun y => PyData.eqv y x
def one? (x : Str) : Option Nat := match x.cps.toList with
  | [c] => some c
  | _ => none
def memD (x : PyData) : PyData → Option Bool
  | .list ds => if flatD x = true ∧ ds.all flatD = true then some (isIn x ds) else if SeqAt.shaped x = true ∧ SeqAt.shaped (.list ds) = true then some (isIn x ds) else none
  | .tuple ds => if flatD x = true ∧ ds.all flatD = true then some (isIn x ds) else none
  | .str y => (match x with
    | .str z => (one? z).map fun c => decide (c ∈ y.cps.toList)
    | _ => none)
  | _ => none
def dIn : PyData → PyData → Option PyData := fun x y => (memD x y).map .bool
def dNotIn : PyData → PyData → Option PyData := fun x y => (memD x y).map fun b => .bool !b
theorem dpAll_app {K : PySem.W.Frag} {H : Hp} : ∀ {vs us : List V} {ds es : List PyData}, DpAll K H vs ds → DpAll K H us es → DpAll K H (vs ++ us) (ds ++ es)
  | _, _, _, _, .nil, b => b
  | _, _, _, _, .cons h t, b => .cons h (dpAll_app t b)
section
variable {X : Cx}
theorem made0 {K : PySem.W.Frag} {F : Hp} {ρ : Ads} {Hd H : Hp} {S : Sto} {c : PyData} {Q : VK} {v : V} (m : Made K F ρ Hd S c Q) (r : Rel K F ρ Hd H S) (d : Dp K Hd v c) : Q v H := m v H Hd (Same.refl _) r d
theorem opz_add : OpZ X (binaryOp .Add) dAdd := by
  refine ⟨_, op_add.or (op_add_str.or op_catA), fun F x y H Q a b c S ρ Hd r hx hy e m => ?_⟩
  cases a with
  | int i =>
    cases b with
    | int j => cases e; exact .inl ⟨i, j, hx, hy, made0 m r (.int _)⟩
    | _ => cases e
  | str i =>
    cases b with
    | str j =>
      have e : (if i.length + j.length ≤ lim then some (PyData.str (i ++ j)) else none) = some c := e
      split at e
      · rename_i hl
        cases e
        exact .inr (.inl ⟨i, j, hx, hy, lim_line hl, made0 m r (.str _)⟩)
      · cases e
    | _ => cases e
  | tuple i =>
    cases b with
    | tuple j =>
      have e : (if i.length + j.length ≤ lim then some (PyData.tuple (i ++ j)) else none) = some c := e
      split at e
      · rename_i hl
        cases e
        obtain ⟨p, vs, rfl, h1, h2⟩ := hx
        obtain ⟨q, us, rfl, h3, h4⟩ := hy
        have l1 := dpAll_len h2
        have l2 := dpAll_len h4
        refine .inr (.inr ⟨p, q, vs, us, rfl, rfl, same_t r.hd h1, same_t r.hd h3, by rw [l1, l2]; exact lim_line hl, fun e => ?_, fun _ e => ?_, fun _ _ p' hp => ?_⟩)
        · subst e
          cases h2
          exact made0 m r (.tup h3 h4)
        · subst e
          cases h4
          rw [List.append_nil] at m
          exact made0 m r (.tup h1 h2)
        · have hdp := r.hd.free hp
          refine m _ _ (upd Hd p' (.tup (vs ++ us))) (same_upd hdp) (r.newD hp) (.tup (SqT.of upd_same) ?_)
          have a1 := dpAll_mono (same_upd hdp (o := .tup (vs ++ us))) h2
          have a2 := dpAll_mono (same_upd hdp (o := .tup (vs ++ us))) h4
          exact dpAll_app a1 a2
      · cases e
    | _ => cases e
  | _ => cases e
theorem opz_sub : OpZ X (binaryOp .Sub) dSub := by
  refine ⟨_, op_sub, fun F x y H Q a b c S ρ Hd r hx hy e m => ?_⟩
  cases a with
  | int i =>
    cases b with
    | int j => cases e; exact ⟨i, j, hx, hy, made0 m r (.int _)⟩
    | _ => cases e
  | _ => cases e
theorem abs64 {i : Int} (h : i.natAbs < 2 ^ 64) : -(2 ^ 64) < i ∧ i < 2 ^ 64 := by omega
theorem opz_mul : OpZ X (binaryOp .Mult) dMul := by
  refine ⟨_, op_mul, fun F x y H Q a b c S ρ Hd r hx hy e m => ?_⟩
  cases a with
  | int i =>
    cases b with
    | int j =>
      have e : (if i.natAbs < 2 ^ 64 ∨ j.natAbs < 2 ^ 64 then some (PyData.int (i * j)) else none) = some c := e
      split at e
      · rename_i h
        cases e
        exact ⟨i, j, hx, hy, h.imp abs64 abs64, made0 m r (.int _)⟩
      · cases e
    | _ => cases e
  | _ => cases e
theorem opz_mod : OpZ X (binaryOp .Mod) dMod := by
  refine ⟨_, op_mod, fun F x y H Q a b c S ρ Hd r hx hy e m => ?_⟩
  cases a with
  | int i =>
    cases b with
    | int j =>
      have e : (if 0 < j then some (PyData.int (i % j)) else none) = some c := e
      split at e
      · rename_i h
        cases e
        exact ⟨i, j, hx, hy, h, made0 m r (.int _)⟩
      · cases e
    | _ => cases e
  | _ => cases e
theorem opz_div : OpZ X (binaryOp .FloorDiv) dDiv := by
  refine ⟨_, op_fdiv, fun F x y H Q a b c S ρ Hd r hx hy e m => ?_⟩
  cases a with
  | int i =>
    cases b with
    | int j =>
      have e : (if 0 < j ∧ j.natAbs < 1073741824 then some (PyData.int (i / j)) else none) = some c := e
      split at e
      · rename_i h
        cases e
        exact ⟨i, j, hx, hy, ⟨h.1, by omega⟩, made0 m r (.int _)⟩
      · cases e
    | _ => cases e
  | _ => cases e
theorem opz_lt : OpZ X (compareOp .Lt) dLt := by
  refine ⟨_, op_lt.or op_lt_str, fun F x y H Q a b c S ρ Hd r hx hy e m => ?_⟩
  cases a with
  | int i =>
    cases b with
    | int j => cases e; exact .inl ⟨i, j, hx, hy, made0 m r (.bl _)⟩
    | _ => cases e
  | str i =>
    cases b with
    | str j => cases e; exact .inr ⟨i, j, hx, hy, made0 m r (.bl _)⟩
    | _ => cases e
  | _ => cases e
theorem opz_le : OpZ X (compareOp .LtE) dLe := by
  refine ⟨_, op_le.or op_le_str, fun F x y H Q a b c S ρ Hd r hx hy e m => ?_⟩
  cases a with
  | int i =>
    cases b with
    | int j => cases e; exact .inl ⟨i, j, hx, hy, made0 m r (.bl _)⟩
    | _ => cases e
  | str i =>
    cases b with
    | str j => cases e; exact .inr ⟨i, j, hx, hy, made0 m r (.bl _)⟩
    | _ => cases e
  | _ => cases e
theorem opz_gt : OpZ X (compareOp .Gt) dGt := by
  refine ⟨_, op_gt.or op_gt_str, fun F x y H Q a b c S ρ Hd r hx hy e m => ?_⟩
  cases a with
  | int i =>
    cases b with
    | int j => cases e; exact .inl ⟨i, j, hx, hy, made0 m r (.bl _)⟩
    | _ => cases e
  | str i =>
    cases b with
    | str j => cases e; exact .inr ⟨i, j, hx, hy, made0 m r (.bl _)⟩
    | _ => cases e
  | _ => cases e
theorem opz_ge : OpZ X (compareOp .GtE) dGe := by
  refine ⟨_, op_ge.or op_ge_str, fun F x y H Q a b c S ρ Hd r hx hy e m => ?_⟩
  cases a with
  | int i =>
    cases b with
    | int j => cases e; exact .inl ⟨i, j, hx, hy, made0 m r (.bl _)⟩
    | _ => cases e
  | str i =>
    cases b with
    | str j => cases e; exact .inr ⟨i, j, hx, hy, made0 m r (.bl _)⟩
    | _ => cases e
  | _ => cases e
theorem deep_eq {a b c : PyData} {op : Bool → Bool} (h : (if SeqAt.shaped a = true ∧ SeqAt.shaped b = true then some (PyData.bool (op (PyData.eqv a b))) else none) = some c) : SeqAt.shaped a = true ∧ SeqAt.shaped b = true ∧ c = .bool (op (PyData.eqv a b)) := by
  split at h
  · rename_i h1
    exact ⟨h1.1, h1.2, (Option.some.inj h).symm⟩
  · cases h
theorem opz_eq (hu : X.A.units + 64 < cLine) : OpZ X (compareOp .Eq) dEq := by
  refine ⟨_, op_eq.or (op_eqD hu), fun F x y H Q a b c S ρ Hd r hx hy e m => ?_⟩
  unfold dEq at e
  split at e
  · cases e
    refine .inl ?_
    rw [show x = _ from hx, show y = _ from hy]
    refine ⟨rfl, ?_⟩
    rw [dec_int]
    exact made0 m r (.bl _)
  · cases e
    refine .inl ?_
    rw [show x = _ from hx, show y = _ from hy]
    refine ⟨rfl, ?_⟩
    rw [dec_str]
    exact made0 m r (.bl _)
  · cases e
    refine .inl ?_
    rw [show x = _ from hx, show y = _ from hy]
    refine ⟨rfl, ?_⟩
    rw [dec_bl]
    exact made0 m r (.bl _)
  · obtain ⟨h1, h2, rfl⟩ := deep_eq (op := id) e
    exact .inr ⟨a, b, hx.dp r.hd, hy.dp r.hd, h1, h2, made0 m r (.bl _)⟩
theorem opz_ne (hu : X.A.units + 64 < cLine) : OpZ X (compareOp .NotEq) dNe := by
  refine ⟨_, op_ne.or (op_neD hu), fun F x y H Q a b c S ρ Hd r hx hy e m => ?_⟩
  unfold dNe at e
  split at e
  · cases e
    refine .inl ?_
    rw [show x = _ from hx, show y = _ from hy]
    refine ⟨rfl, ?_⟩
    rw [dec_int]
    exact made0 m r (.bl _)
  · cases e
    refine .inl ?_
    rw [show x = _ from hx, show y = _ from hy]
    refine ⟨rfl, ?_⟩
    rw [dec_str]
    exact made0 m r (.bl _)
  · cases e
    refine .inl ?_
    rw [show x = _ from hx, show y = _ from hy]
    refine ⟨rfl, ?_⟩
    rw [dec_bl]
    exact made0 m r (.bl _)
  · obtain ⟨h1, h2, rfl⟩ := deep_eq (op := not) e
    exact .inr ⟨a, b, hx.dp r.hd, hy.dp r.hd, h1, h2, made0 m r (.bl _)⟩
theorem vw_none {K : PySem.W.Frag} {Hd H : Hp} {v : V} {a : PyData} (h : Vw K Hd H v a) : decide (v = .non) = nonD a := by
  cases a with
  | none => rw [show v = _ from h]; rfl
  | bool b => rw [show v = _ from h]; rfl
  | int i => rw [show v = _ from h]; rfl
  | str s => rw [show v = _ from h]; rfl
  | list ds => obtain ⟨p, vs, rfl, _⟩ := h; rfl
  | tuple ds => obtain ⟨p, vs, rfl, _⟩ := h; rfl
  | dict ks => exact h.elim
theorem opz_is : OpZ X (compareOp .Is) dIs := by
  refine ⟨_, op_isN.or op_is_bl, fun F x y H Q a b c S ρ Hd r hx hy e m => ?_⟩
  unfold dIs at e
  split at e
  · cases e
    refine .inl ⟨hy, ?_⟩
    rw [vw_none hx]
    exact made0 m r (.bl _)
  · cases e
    exact .inr ⟨_, _, hx, hy, made0 m r (.bl _)⟩
  · cases e
theorem opz_isNot : OpZ X (compareOp .IsNot) dIsNot := by
  refine ⟨_, op_notN.or op_isnot_bl, fun F x y H Q a b c S ρ Hd r hx hy e m => ?_⟩
  unfold dIsNot at e
  split at e
  · rename_i a
    cases e
    refine .inl ⟨hy, ?_⟩
    rw [vw_none hx]
    exact made0 m r (.bl _)
  · cases e
    exact .inr ⟨_, _, hx, hy, made0 m r (.bl _)⟩
  · cases e
theorem flat_v {K : PySem.W.Frag} {Hd : Hp} {v : V} {a : PyData} (h : Dp K Hd v a) (f : flatD a = true) : flatV v = true := by
  cases h <;> first | rfl | cases f
theorem flat_eq {K K' : PySem.W.Frag} {Hd Hd' : Hp} {v u : V} {a b : PyData} (h : Dp K Hd v a) (h' : Dp K' Hd' u b) (f : flatD a = true) (f' : flatD b = true) : eqV v u = PyData.eqv a b := by
  cases h <;> cases h' <;> first | rfl | cases f | cases f' | simp only [eqV, PyData.eqv]
theorem flat_all {K : PySem.W.Frag} {Hd : Hp} : ∀ {vs : List V} {ds : List PyData}, DpAll K Hd vs ds → ds.all flatD = true → vs.all flatV = true
  | _, _, .nil, _ => rfl
  | _, _, .cons h t, f => by
    rw [List.all_cons, Bool.and_eq_true] at f ⊢
    exact ⟨flat_v h f.1, flat_all t f.2⟩
theorem flat_in {K K' : PySem.W.Frag} {Hd Hd' : Hp} {u : V} {b : PyData} (hb : Dp K' Hd' u b) (f' : flatD b = true) : ∀ {vs : List V} {ds : List PyData}, DpAll K Hd vs ds → ds.all flatD = true → inV u vs = isIn b ds
  | _, _, .nil, _ => rfl
  | _, _, .cons h t, f => by
    rw [List.all_cons, Bool.and_eq_true] at f
    unfold inV isIn
    rw [List.any_cons, List.any_cons, flat_eq h hb f.1 f']
    congr 1
    exact flat_in hb f' t f.2
theorem mem_snd {op : Bool → Bool} {rS rI rD : R2} (hS : rS = fun x y H Q => ∃ (c : Nat) (z : Str), x = .str ⟨#[c]⟩ ∧ y = .str z ∧ Q (.bl (op (decide (c ∈ z.cps.toList)))) H)
    (hI : rI = fun x y H Q => ∃ p xs, y = .ref p ∧ (SqL X.K H p xs ∨ SqT X.K H p xs) ∧ flatV x = true ∧ xs.all flatV = true ∧ Q (.bl (op (inV x xs))) H)
    (hD : rD = fun x y H Q => ∃ d ds, Dp X.K H x d ∧ Dp X.K H y (.list ds) ∧ SeqAt.shaped d = true ∧ SeqAt.shaped (.list ds) = true ∧ Q (.bl (op (ds.any fun z => PyData.eqv z d))) H)
    (F : Hp) (x y : V) (H : Hp) (Q : VK) (a b c : PyData) (S : Sto) (ρ : Ads) (Hd : Hp) (r : Rel X.K F ρ Hd H S) (hx : Vw X.K Hd H x a) (hy : Vw X.K Hd H y b) (e : (memD a b).map (fun k => PyData.bool (op k)) = some c) (m : Made X.K F ρ Hd S c Q) : rS x y H Q ∨ rI x y H Q ∨ rD x y H Q := by
  have dx := hx.dp r.hd
  cases b with
  | str z =>
    cases a with
    | str w =>
      have e : ((one? w).map fun c => decide (c ∈ z.cps.toList)).map (fun k => PyData.bool (op k)) = some c := e
      unfold one? at e
      split at e
      · rename_i c' hc
        cases e
        refine .inl ?_
        rw [hS]
        refine ⟨c', z, ?_, hy, made0 m r (.bl _)⟩
        rw [show x = V.str w from hx]
        obtain ⟨⟨l⟩⟩ := w
        have hl : l = [c'] := hc
        rw [hl]
      · cases e
    | _ => cases e
  | list ds =>
    obtain ⟨p, vs, rfl, h1, h2⟩ := hy
    have e : (if flatD a = true ∧ ds.all flatD = true then some (isIn a ds) else if SeqAt.shaped a = true ∧ SeqAt.shaped (.list ds) = true then some (isIn a ds) else none).map (fun k => PyData.bool (op k)) = some c := e
    split at e
    · rename_i hf
      cases e
      refine .inr (.inl ?_)
      rw [hI]
      refine ⟨p, vs, rfl, .inl h1, flat_v dx hf.1, flat_all h2 hf.2, ?_⟩
      rw [flat_in dx hf.1 h2 hf.2]
      exact made0 m r (.bl _)
    · split at e
      · rename_i hs
        cases e
        refine .inr (.inr ?_)
        rw [hD]
        exact ⟨a, ds, dx, .lst h1 (dpAll_mono r.hd h2), hs.1, hs.2, made0 m r (.bl _)⟩
      · cases e
  | tuple ds =>
    obtain ⟨p, vs, rfl, h1, h2⟩ := hy
    have e : (if flatD a = true ∧ ds.all flatD = true then some (isIn a ds) else none).map (fun k => PyData.bool (op k)) = some c := e
    split at e
    · rename_i hf
      cases e
      refine .inr (.inl ?_)
      rw [hI]
      refine ⟨p, vs, rfl, .inr (same_t r.hd h1), flat_v dx hf.1, flat_all h2 hf.2, ?_⟩
      rw [flat_in dx hf.1 h2 hf.2]
      exact made0 m r (.bl _)
    · cases e
  | _ => cases e
theorem opz_in (hu : X.A.units + 65 < cLine) : OpZ X (compareOp .In) dIn :=
  ⟨_, op_in_sign.or (op_in_seq.or (op_inD hu)), mem_snd (op := id) rfl (by funext x y H Q; simp [rIn]) rfl⟩
theorem opz_notIn (hu : X.A.units + 65 < cLine) : OpZ X (compareOp .NotIn) dNotIn :=
  ⟨_, op_notIn_sign.or (op_notIn_seq.or (op_notInD hu)), mem_snd (op := not) rfl (by funext x y H Q; simp [rIn]) rfl⟩
end
/-! ### - -/
def zneg (za : ZE) : ZE := fun Γ S => (za Γ S).bind fun x S1 => match x with
  | .d (.int i) => .val (.d (.int (-i))) S1
  | _ => .bad
section
variable {X : Cx} {a b c : Expr} {za zb : ZE} {pos : Pos}
theorem pz_neg (ha : PZ X a za) : PZ X (.UnaryOp .USub a pos) (zneg za) := fun W tk => by
  obtain ⟨t, p, s⟩ := ha W tk
  refine ⟨_, pe_un un_neg p, fun F σ H Q Γ S ρ Hd rl sl af => ?_⟩
  refine s F σ H _ Γ S ρ Hd rl sl (Aft.imp (aft_bind af) ?_)
  rintro x H1 ⟨ρ1, Hd1, x', S1, g1, r1, hx, af1⟩
  cases x' with
  | d y =>
    cases y with
    | int i =>
      have e : x = .int i := dp_vw (H := Hd1) (Same.refl _) hx
      exact ⟨i, e, af1 (.int (-i)) H1 ρ1 Hd1 .refl r1 (.int _)⟩
    | _ => exact False.elim af1
  | _ => exact False.elim af1
end
/-! ### arguments, tuples, lists -/
def zanil : ZA := fun _ S => .val [] S
def zacons (za : ZE) (zr : ZA) : ZA := fun Γ S => (za Γ S).bind fun x S1 => (zr Γ S1).bind fun xs S2 => .val (x :: xs) S2
def allD : List Sl → Option (List PyData)
  | [] => some []
  | .d x :: r => (allD r).map (x :: ·)
  | _ :: _ => none
theorem allD_ok {K : PySem.W.Frag} {ρ : Ads} {Hd : Hp} : ∀ {vs : List V} {xs : List Sl} {ds : List PyData}, SlAll K ρ Hd vs xs → allD xs = some ds → DpAll K Hd vs ds
  | _, _, _, .nil, e => by cases e; exact .nil
  | _, x :: r, ds, .cons h t, e => by
    cases x with
    | d y =>
      have e : (allD r).map (y :: ·) = some ds := e
      cases q : allD r with
      | none => rw [q] at e; cases e
      | some es =>
        rw [q] at e
        cases e
        exact .cons h (allD_ok t q)
    | _ => cases e
def ztup (za : ZA) : ZE := fun Γ S => (za Γ S).bind fun xs S1 => match allD xs with
  | some ds => if ds.length ≤ lim then .val (.d (.tuple ds)) S1 else .bad
  | none => .bad
def zlst (za : ZA) : ZF := fun Γ S => (za Γ S).bind fun xs S1 => match allD xs with
  | some ds => if ds.length ≤ lim then .val (.lst ds) S1 else .bad
  | none => .bad
theorem aft_bindF {α β : Type} {K : PySem.W.Frag} {F : Hp} {W : WX} {σ : L2.St} {rel : Ads → Hp → β → α → Prop} {Q' : VK} {ρ : Ads} {Hd : Hp} {o : Out α} {f : α → Sto → Out Box}
    (h : AftF K F W σ Q' ρ Hd (o.bind f)) : Aft K F W σ rel (fun v H' => ∃ ρ' Hd' x S', Grow ρ Hd ρ' Hd' ∧ Rel K F ρ' Hd' H' S' ∧ rel ρ' Hd' v x ∧ AftF K F W σ Q' ρ' Hd' (f x S')) ρ Hd o := by
  cases o with
  | val x S =>
    refine fun v H' ρ' Hd' g r hx => ⟨ρ', Hd', x, S, g, r, hx, ?_⟩
    have h : AftF K F W σ Q' ρ Hd (f x S) := h
    cases q : f x S with
    | val b S2 =>
      rw [q] at h
      exact fun p H2 ρ2 Hd2 g2 r2 a1 a2 a3 a4 a5 => h p H2 ρ2 Hd2 (g.trans g2) r2 a1 a2 a3 a4 a5
    | exc c S2 =>
      rw [q] at h
      exact fun H2 ρ2 Hd2 g2 r2 => h H2 ρ2 Hd2 (g.trans g2) r2
    | bad => rw [q] at h; exact h
  | exc c S => exact h
  | bad => exact h
/-- a new object that is data from the beginning -/
def zfz (z : ZF) : ZE := fun Γ S => (z Γ S).bind fun b S1 => match b with
  | .lst ds => .val (.d (.list ds)) S1
  | _ => .bad
section
variable {X : Cx} {a b c e : Expr} {es : List Expr} {za zb : ZE} {zs : ZA} {pos : Pos}
theorem pza_nil : PZA X [] zanil := fun _ _ => ⟨_, pa_nil, fun _ _ H _ _ _ ρ Hd r _ a => a [] H ρ Hd .refl r .nil⟩
theorem pza_cons (ha : PZ X e za) (hr : PZA X es zs) (hs : starEach (e :: es) X.env = (false, eval e X.env) :: starEach es X.env := by rfl) : PZA X (e :: es) (zacons za zs) := fun W tk => by
  obtain ⟨t, p, s⟩ := ha W tk
  obtain ⟨t', p', s'⟩ := hr W tk
  refine ⟨_, pa_cons p p' hs, fun F σ H Q Γ S ρ Hd rl sl af => ?_⟩
  refine s F σ H _ Γ S ρ Hd rl sl (Aft.imp (aft_bind af) ?_)
  rintro x H1 ⟨ρ1, Hd1, x', S1, g1, r1, hx, af1⟩
  refine s' F σ H1 _ Γ S1 ρ1 Hd1 r1 (sl.grow g1) (Aft.imp (aft_bind af1) ?_)
  rintro xs H2 ⟨ρ2, Hd2, xs', S2, g2, r2, hxs, af2⟩
  exact af2 (x :: xs) H2 ρ2 Hd2 .refl r2 (.cons (hx.grow g2) hxs)
theorem pz_tup {k : Nat} (h : PZA X es zs) : PZ X (.Tuple es k pos) (ztup zs) := fun W tk => by
  obtain ⟨t, p, s⟩ := h W tk
  refine ⟨_, pe_tup p, fun F σ H Q Γ S ρ Hd rl sl af => ?_⟩
  refine s F σ H _ Γ S ρ Hd rl sl (Aft.imp (aft_bind af) ?_)
  rintro xs H1 ⟨ρ1, Hd1, xs', S1, g1, r1, hx, af1⟩
  cases q : allD xs' with
  | none => rw [q] at af1; exact False.elim af1
  | some ds =>
    rw [q] at af1
    have h2 := allD_ok hx q
    have l2 := dpAll_len h2
    have af1 : Aft X.K F W σ (SlIs X.K) Q ρ1 Hd1 (if ds.length ≤ lim then .val (.d (.tuple ds)) S1 else .bad) := af1
    split at af1
    · rename_i hl
      refine ⟨by rw [l2]; exact lim_line hl, fun p hp => ?_⟩
      exact af1 (.ref p) _ ρ1 _ (r1.grD hp) (r1.newD hp (o := .tup xs)) (.tup (SqT.of upd_same) (dpAll_mono (same_upd (r1.hd.free hp)) h2))
    · exact False.elim af1
theorem pzf_lst (h : PZA X es zs) : PZF X (.List es pos) (zlst zs) := fun W tk => by
  obtain ⟨t, p, s⟩ := h W tk
  refine ⟨_, pe_lst p, fun F σ H Q Γ S ρ Hd rl sl af => ?_⟩
  refine s F σ H _ Γ S ρ Hd rl sl (Aft.imp (aft_bindF af) ?_)
  rintro xs H1 ⟨ρ1, Hd1, xs', S1, g1, r1, hx, af1⟩
  cases q : allD xs' with
  | none => rw [q] at af1; exact False.elim af1
  | some ds =>
    rw [q] at af1
    have h2 := allD_ok hx q
    have l2 := dpAll_len h2
    have af1 : AftF X.K F W σ Q ρ1 Hd1 (if ds.length ≤ lim then .val (.lst ds) S1 else .bad) := af1
    split at af1
    · rename_i hl
      refine ⟨by rw [l2]; exact lim_line hl, fun p hp => ?_⟩
      exact af1 p _ ρ1 Hd1 .refl (r1.junk hp) (fun z => r1.ne_new hp z rfl) (r1.fr_free hp) (r1.hd.free hp) (by rw [upd_same]; simp) ⟨p, xs, rfl, upd_same, h2⟩
    · exact False.elim af1
theorem snd_fz {z : ZF} {W : WX} {t : TE} (s : SndF X.K W t z) : Snd X.K W (SlIs X.K) t (zfz z) := by
  intro F σ H Q Γ S ρ Hd rl sl af
  refine s F σ H Q Γ S ρ Hd rl sl ?_
  unfold zfz at af
  cases q : z Γ S with
  | bad => rw [q] at af; exact af
  | exc c S1 => rw [q] at af; exact af
  | val b S1 =>
    rw [q] at af
    intro p H' ρ' Hd' g r h1 h2 h3 h4 h5
    cases b with
    | lst ds =>
      obtain ⟨a, vs, e1, hv, hds⟩ := h5
      have e2 : p = a := by simpa using e1
      subst e2
      refine af (.ref p) H' ρ' (upd Hd' p (.lst vs)) (g.trans (.hd (same_upd h3))) ⟨fun c u z => ?_, r.fr, fun c o z => by
        rw [upd_ne (ne_of_none z h2)]
        exact r.dj c o z, fun c u z => by
        by_cases y : c = p
        · rw [y, upd_same] at z
          cases z
          exact True.intro
        · rw [upd_ne y] at z
          exact r.nf c u z, r.nk, r.len, r.nd, r.trk, fun i b as g1 g2 g3 => ?_⟩ (.lst (SqL.of upd_same) (dpAll_mono (same_upd h3) hds))
      · by_cases y : c = p
        · subst y
          rw [upd_same] at z
          rw [hv]
          exact z
        · rw [upd_ne y] at z
          exact r.hd _ _ z
      · obtain ⟨x, y⟩ := r.box i b as g1 g2 g3
        refine ⟨fun c hc => ⟨(x c hc).1, ?_⟩, y.congr (same_upd h3) fun _ _ => rfl⟩
        rw [upd_ne (fun z => h1 (by rw [← z]; exact mem_flat g2 hc))]
        exact (x c hc).2
    | _ => exact False.elim af
theorem pz_f {z : ZF} (h : PZF X e z) : PZ X e (zfz z) := fun W tk => let ⟨t, p, s⟩ := h W tk; ⟨t, p, snd_fz s⟩
end
end Z
end
section
set_option Elab.async false
set_option linter.all false
set_option maxRecDepth 100000
set_option autoImplicit false
set_option maxHeartbeats 1000000
namespace Z
open PySem L2
/-! ### a[i] of tuples, lists, texts -/
def dIx : PyData → PyData → Option PyData
  | .tuple ds, .int i => atI ds i
  | .list ds, .int i => atI ds i
  | .str z, .int i => if z.length ≤ lim then (atI z.cps.toList i).map fun c => .str ⟨#[c]⟩ else none
  | _, _ => none
theorem dpAll_get {K : PySem.W.Frag} {H : Hp} : ∀ {vs : List V} {ds : List PyData} {i : Nat} {d : PyData}, DpAll K H vs ds → ds[i]? = some d → ∃ v, vs[i]? = some v ∧ Dp K H v d
  | _, _, _, _, .nil, e => by simp at e
  | _, _, 0, _, .cons h _, e => by simp at e; subst e; exact ⟨_, rfl, h⟩
  | _, _, i + 1, d, .cons _ t, e => by
    obtain ⟨v, h1, h2⟩ := dpAll_get (i := i) (d := d) t (by simpa using e)
    exact ⟨v, by simpa using h1, h2⟩
theorem dpAll_at {K : PySem.W.Frag} {H : Hp} {vs : List V} {ds : List PyData} {i : Int} {d : PyData} (h : DpAll K H vs ds) (e : atI ds i = some d) : ∃ v, atI vs i = some v ∧ Dp K H v d := by
  unfold atI at e ⊢
  rw [dpAll_len h]
  cases q : ixN ds.length i with
  | none => rw [q] at e; cases e
  | some j =>
    rw [q] at e
    exact dpAll_get h e
section
variable {X : Cx} {a b c : Expr} {za zb : ZE} {pos : Pos}
theorem pz_ix (ha : PZ X a za) (hb : PZ X b zb) (hs : PlainIx b := by exact fun _ _ => rfl) : PZ X (.Subscript a b pos) (zop dIx za zb) := fun W tk => by
  obtain ⟨ta, pa, sa⟩ := ha W tk
  obtain ⟨tb, pb, sb⟩ := hb W tk
  refine ⟨_, pe_ix ix_seq pa pb hs, snd_op sa sb fun F x y H Q a b c S ρ Hd r hx hy e m => ?_⟩
  unfold dIx at e
  split at e
  · obtain ⟨p, vs, rfl, h1, h2⟩ := hx
    obtain ⟨v, e1, e2⟩ := dpAll_at h2 e
    exact .inr (.inl ⟨p, vs, _, v, rfl, hy, same_t r.hd h1, e1, made0 m r e2⟩)
  · obtain ⟨p, vs, rfl, h1, h2⟩ := hx
    obtain ⟨v, e1, e2⟩ := dpAll_at h2 e
    exact .inl ⟨p, vs, _, v, rfl, hy, h1, e1, made0 m r e2⟩
  · rename_i z i
    split at e
    · rename_i hl
      cases q : atI z.cps.toList i with
      | none => rw [q] at e; cases e
      | some c' =>
        rw [q] at e
        cases e
        exact .inr (.inr ⟨z, i, c', hx, hy, lim_line hl, q, made0 m r (.str _)⟩)
    · cases e
  · cases e
end
/-! ### slices -/
abbrev ZO := Env1 → Sto → Out (Option Int)
def eqO1 : Ads → Hp → Option Int → Option Int → Prop := fun _ _ a b => a = b
def PZO (X : Cx) (e : Option Expr) (z : ZO) : Prop := ∀ W, Takes X W → ∃ t : TO, PO X e t ∧ Snd X.K W eqO1 t z
def zon : ZO := fun _ S => .val none S
def zos (z : ZE) : ZO := fun Γ S => (z Γ S).bind fun x S1 => match x with
  | .d (.int i) => .val (some i) S1
  | _ => .bad
def cutL {α : Type} (xs : List α) (lo hi : Option Int) : List α := (xs.drop (HT.sIx xs.length 0 lo)).take (HT.sIx xs.length xs.length hi - HT.sIx xs.length 0 lo)
def dSl : PyData → Option Int → Option Int → Option PyData
  | .tuple ds, lo, hi => some (.tuple (cutL ds lo hi))
  | .str z, lo, hi => if z.length ≤ lim then some (.str (cutS z lo hi)) else none
  | _, _, _ => none
def zsl (za : ZE) (zl zh : ZO) : ZE := fun Γ S => (za Γ S).bind fun x S1 => (zl Γ S1).bind fun l S2 => (zh Γ S2).bind fun h S3 => match res S3 x with
  | some d => (match dSl d l h with
    | some c => .val (.d c) S3
    | none => .bad)
  | none => .bad
/-- a slice of a list is a new list -/
def zslF (za : ZE) (zl zh : ZO) : ZF := fun Γ S => (za Γ S).bind fun x S1 => (zl Γ S1).bind fun l S2 => (zh Γ S2).bind fun h S3 => match res S3 x with
  | some (.list ds) => .val (.lst (cutL ds l h)) S3
  | _ => .bad
theorem dpAll_drop {K : PySem.W.Frag} {H : Hp} : ∀ {vs : List V} {ds : List PyData} (n : Nat), DpAll K H vs ds → DpAll K H (vs.drop n) (ds.drop n)
  | _, _, 0, h => h
  | _, _, _ + 1, .nil => .nil
  | _, _, n + 1, .cons _ t => dpAll_drop n t
theorem dpAll_take {K : PySem.W.Frag} {H : Hp} : ∀ {vs : List V} {ds : List PyData} (n : Nat), DpAll K H vs ds → DpAll K H (vs.take n) (ds.take n)
  | _, _, 0, _ => .nil
  | _, _, _ + 1, .nil => .nil
  | _, _, n + 1, .cons h t => .cons h (dpAll_take n t)
theorem dpAll_cut {K : PySem.W.Frag} {H : Hp} {vs : List V} {ds : List PyData} (h : DpAll K H vs ds) (lo hi : Option Int) : DpAll K H (cutV vs lo hi) (cutL ds lo hi) := by
  unfold cutV cutL
  rw [dpAll_len h]
  exact dpAll_take _ (dpAll_drop _ h)
theorem cut_whole {α : Type} {xs : List α} {lo hi : Option Int} (h : HT.sIx xs.length 0 lo = 0 ∧ HT.sIx xs.length xs.length hi = xs.length) : cutL xs lo hi = xs := by
  unfold cutL
  rw [h.1, h.2]
  simp
section
variable {X : Cx} {a b c e : Expr} {lo hi : Option Expr} {za zb : ZE} {zl zh : ZO} {pos p2 : Pos}
theorem pzo_none : PZO X none zon := fun _ _ => ⟨_, po_none, fun _ _ H _ _ _ ρ Hd r _ a => a none H ρ Hd .refl r rfl⟩
theorem pzo_some (h : PZ X e za) : PZO X (some e) (zos za) := fun W tk => by
  obtain ⟨t, p, s⟩ := h W tk
  refine ⟨_, po_some p, fun F σ H Q Γ S ρ Hd rl sl af => ?_⟩
  refine s F σ H _ Γ S ρ Hd rl sl (Aft.imp (aft_bind af) ?_)
  rintro x H1 ⟨ρ1, Hd1, x', S1, g1, r1, hx, af1⟩
  cases x' with
  | d y =>
    cases y with
    | int i =>
      have e : x = .int i := dp_vw (H := Hd1) (Same.refl _) hx
      exact ⟨i, e, af1 (some i) H1 ρ1 Hd1 .refl r1 rfl⟩
    | _ => exact False.elim af1
  | _ => exact False.elim af1
theorem pz_sl (he : PZ X e za) (hl : PZO X lo zl) (hh : PZO X hi zh) : PZ X (.Subscript e (.Slice lo hi none p2) pos) (zsl za zl zh) := fun W tk => by
  obtain ⟨t, p, s⟩ := he W tk
  obtain ⟨t1, p1, s1⟩ := hl W tk
  obtain ⟨t2, p2, s2⟩ := hh W tk
  refine ⟨_, pe_slice (sl_tupA.or sl_str) p p1 p2, fun F σ H Q Γ S ρ Hd rl sl af => ?_⟩
  refine s F σ H _ Γ S ρ Hd rl sl (Aft.imp (aft_bind af) ?_)
  rintro x H1 ⟨ρ1, Hd1, x', S1, g1, r1, hx, af1⟩
  refine s1 F σ H1 _ Γ S1 ρ1 Hd1 r1 (sl.grow g1) (Aft.imp (aft_bind af1) ?_)
  rintro l H2 ⟨ρ2, Hd2, l', S2, g2, r2, hl, af2⟩
  refine s2 F σ H2 _ Γ S2 ρ2 Hd2 r2 ((sl.grow g1).grow g2) (Aft.imp (aft_bind af2) ?_)
  rintro h H3 ⟨ρ3, Hd3, h', S3, g3, r3, hh, af3⟩
  have e1 : l = l' := hl
  have e2 : h = h' := hh
  subst e1 e2
  cases q : res S3 x' with
  | none => rw [q] at af3; exact False.elim af3
  | some d =>
    rw [q] at af3
    have w := vw_of r3 ((hx.grow g2).grow g3) q
    cases d with
    | tuple ds =>
      obtain ⟨pa, vs, rfl, h1, h2⟩ := w
      have af3 : Aft X.K F W σ (SlIs X.K) Q ρ3 Hd3 (.val (.d (.tuple (cutL ds l h))) S3) := af3
      refine .inl ⟨pa, vs, rfl, same_t r3.hd h1, fun hw => ?_, fun _ np hp => ?_⟩
      · rw [cut_whole (by rw [← dpAll_len h2]; exact hw)] at af3
        exact af3 _ H3 ρ3 Hd3 .refl r3 (.tup h1 h2)
      · exact af3 (.ref np) _ ρ3 _ (r3.grD hp) (r3.newD hp (o := .tup (cutV vs l h))) (.tup (SqT.of upd_same) (dpAll_mono (same_upd (r3.hd.free hp)) (dpAll_cut h2 l h)))
    | str z =>
      have af3 : Aft X.K F W σ (SlIs X.K) Q ρ3 Hd3 (match (if z.length ≤ lim then some (PyData.str (cutS z l h)) else none) with | some c => .val (.d c) S3 | none => .bad) := af3
      split at af3
      · rename_i c hc
        split at hc
        · rename_i hl
          cases hc
          exact .inr ⟨z, w, lim_line hl, af3 _ H3 ρ3 Hd3 .refl r3 (.str _)⟩
        · cases hc
      · exact False.elim af3
    | _ => exact False.elim af3
theorem pzf_sl (he : PZ X e za) (hl : PZO X lo zl) (hh : PZO X hi zh) : PZF X (.Subscript e (.Slice lo hi none p2) pos) (zslF za zl zh) := fun W tk => by
  obtain ⟨t, p, s⟩ := he W tk
  obtain ⟨t1, p1, s1⟩ := hl W tk
  obtain ⟨t2, p2, s2⟩ := hh W tk
  refine ⟨_, pe_slice sl_list p p1 p2, fun F σ H Q Γ S ρ Hd rl sl af => ?_⟩
  refine s F σ H _ Γ S ρ Hd rl sl (Aft.imp (aft_bindF af) ?_)
  rintro x H1 ⟨ρ1, Hd1, x', S1, g1, r1, hx, af1⟩
  refine s1 F σ H1 _ Γ S1 ρ1 Hd1 r1 (sl.grow g1) (Aft.imp (aft_bindF af1) ?_)
  rintro l H2 ⟨ρ2, Hd2, l', S2, g2, r2, hl, af2⟩
  refine s2 F σ H2 _ Γ S2 ρ2 Hd2 r2 ((sl.grow g1).grow g2) (Aft.imp (aft_bindF af2) ?_)
  rintro h H3 ⟨ρ3, Hd3, h', S3, g3, r3, hh, af3⟩
  have e1 : l = l' := hl
  have e2 : h = h' := hh
  subst e1 e2
  cases q : res S3 x' with
  | none => rw [q] at af3; exact False.elim af3
  | some d =>
    rw [q] at af3
    have w := vw_of r3 ((hx.grow g2).grow g3) q
    cases d with
    | list ds =>
      obtain ⟨pa, vs, rfl, h1, h2⟩ := w
      exact ⟨pa, vs, rfl, h1, fun np hp => af3 np _ ρ3 Hd3 .refl (r3.junk hp) (fun z => r3.ne_new hp z rfl) (r3.fr_free hp) (r3.hd.free hp) (by rw [upd_same]; simp) ⟨np, _, rfl, upd_same, dpAll_cut h2 l h⟩⟩
    | _ => exact False.elim af3
end
/-! ### dicts -/
section
variable {κ : Type} [DecidableEq κ]
def valD (kvs : List (κ × PyData)) (k : κ) : Option PyData := (kvs.find? fun kv => decide (kv.1 = k)).map (·.2)
def putD (kvs : List (κ × PyData)) (k : κ) (v : PyData) : List (κ × PyData) :=
  if (kvs.any fun kv => decide (kv.1 = k)) = true then kvs.map (fun kv => if kv.1 = k then (kv.1, v) else kv) else kvs ++ [(k, v)]
theorem kv_any {K : PySem.W.Frag} {H : Hp} {k : κ} : ∀ {us : List (κ × V)} {ks : List (κ × PyData)}, KvOk K H us ks → (us.any fun kv => decide (kv.1 = k)) = (ks.any fun kv => decide (kv.1 = k))
  | _, _, .nil => rfl
  | _, _, .cons h t => by rw [List.any_cons, List.any_cons, h.1, kv_any t]
theorem kv_val {K : PySem.W.Frag} {H : Hp} {k : κ} : ∀ {us : List (κ × V)} {ks : List (κ × PyData)}, KvOk K H us ks → (∀ d, valD ks k = some d → ∃ v, valV us k = some v ∧ Dp K H v d) ∧ (valD ks k = none → valV us k = none)
  | _, _, .nil => ⟨fun d e => absurd (show (none : Option PyData) = some d from e) (by simp), fun _ => rfl⟩
  | (p :: _), (q :: _), .cons h t => by
    obtain ⟨h1, h2⟩ := kv_val (k := k) t
    unfold valD valV at *
    rw [List.find?_cons, List.find?_cons]
    by_cases e : q.1 = k
    · rw [decide_eq_true e, decide_eq_true (h.1.trans e)]
      exact ⟨fun d z => by cases z; exact ⟨p.2, rfl, h.2⟩, fun z => by cases z⟩
    · rw [decide_eq_false e, decide_eq_false (fun z => e (h.1.symm.trans z))]
      exact ⟨h1, h2⟩
theorem kv_map {K : PySem.W.Frag} {H : Hp} {k : κ} {v : V} {d : PyData} (hv : Dp K H v d) : ∀ {us : List (κ × V)} {ks : List (κ × PyData)}, KvOk K H us ks → KvOk K H (us.map fun kv => if kv.1 = k then (kv.1, v) else kv) (ks.map fun kv => if kv.1 = k then (kv.1, d) else kv)
  | _, _, .nil => .nil
  | (p :: _), (q :: _), .cons h t => by
    rw [List.map_cons, List.map_cons]
    refine .cons ?_ (kv_map hv t)
    by_cases e : q.1 = k
    · rw [if_pos e, if_pos (h.1.trans e)]
      exact ⟨h.1, hv⟩
    · rw [if_neg e, if_neg (fun z => e (h.1.symm.trans z))]
      exact h
theorem kv_app {K : PySem.W.Frag} {H : Hp} : ∀ {us us' : List (κ × V)} {ks ks' : List (κ × PyData)}, KvOk K H us ks → KvOk K H us' ks' → KvOk K H (us ++ us') (ks ++ ks')
  | _, _, _, _, .nil, b => b
  | _, _, _, _, .cons h t, b => .cons h (kv_app t b)
theorem kv_put {K : PySem.W.Frag} {H : Hp} {k : κ} {v : V} {d : PyData} (hv : Dp K H v d) {us : List (κ × V)} {ks : List (κ × PyData)} (h : KvOk K H us ks) : KvOk K H (putK us k v) (putD ks k d) := by
  unfold putK putD
  rw [kv_any h]
  by_cases e : (ks.any fun kv => decide (kv.1 = k)) = true
  · rw [if_pos e, if_pos e]
    exact kv_map hv h
  · rw [if_neg e, if_neg e]
    exact kv_app h (.cons ⟨rfl, hv⟩ .nil)
end
def keyOf : PyData → Option Key
  | .int i => some (.inl i)
  | .str x => some (.inr x)
  | _ => none
def keySl : Sl → Option Key
  | .d x => keyOf x
  | _ => none
theorem key_of {K : PySem.W.Frag} {ρ : Ads} {Hd : Hp} {v : V} {x : Sl} {k : Key} (h : SlIs K ρ Hd v x) (e : keySl x = some k) : v = kV k := by
  cases x with
  | d y =>
    have w := dp_vw (H := Hd) (Same.refl _) h
    cases y with
    | int i => cases e; exact w
    | str s => cases e; exact w
    | _ => cases e
  | _ => cases e
def resD (S : Sto) : Sl → Option (List (Key × PyData))
  | .box n => (match S[n]? with
    | some (.dic kvs) => some kvs
    | _ => none)
  | .sub n => (match S[n]? with
    | some (.ins _ _ _ kvs) => some kvs
    | _ => none)
  | _ => none
theorem dic_of {K : PySem.W.Frag} {F : Hp} {ρ : Ads} {Hd H : Hp} {S : Sto} {v : V} {x : Sl} {kvs : List (Key × PyData)} (r : Rel K F ρ Hd H S) (h : SlIs K ρ Hd v x) (e : resD S x = some kvs) : ∃ a us, v = .ref a ∧ H a = some (.dK us) ∧ KvOk K Hd us kvs := by
  cases x with
  | box n =>
    obtain ⟨a, as, rfl, h2⟩ := h
    unfold resD at e
    dsimp only at e
    split at e
    · rename_i ks h1
      cases e
      obtain ⟨_, a', us, e1, hv, hks⟩ := r.box n _ _ h1 h2 (by simp)
      have e2 : a = a' := (List.cons.inj e1).1
      subst e2
      exact ⟨a, us, rfl, hv, hks⟩
    · cases e
  | sub n =>
    obtain ⟨a, b, as, rfl, h2⟩ := h
    unfold resD at e
    dsimp only at e
    split at e
    · rename_i C fs g ks h1
      cases e
      obtain ⟨_, a', b', dx, gs, us, e1, _, _, _, _, hv, hks⟩ := r.box n _ _ h1 h2 (by simp)
      have e2 : b = b' := (List.cons.inj (List.cons.inj e1).2).1
      subst e2
      exact ⟨b, us, rfl, hv, hks⟩
    · cases e
  | _ => cases e
def putS (S : Sto) (x : Sl) (k : Key) (d : PyData) : Option Sto := match x with
  | .box n => (match S[n]? with
    | some (.dic kvs) => if kvs.length < lim then some (S.set n (.dic (putD kvs k d))) else none
    | _ => none)
  | .sub n => (match S[n]? with
    | some (.ins C fs g kvs) => if kvs.length < lim then some (S.set n (.ins C fs g (putD kvs k d))) else none
    | _ => none)
  | _ => none
theorem put_of {K : PySem.W.Frag} {F : Hp} {ρ : Ads} {Hd H : Hp} {S S' : Sto} {v u : V} {x : Sl} {k : Key} {d : PyData} (r : Rel K F ρ Hd H S) (h : SlIs K ρ Hd v x) (hd : Dp K Hd u d) (e : putS S x k d = some S') :
    ∃ a H', v = .ref a ∧ DPut H a (kV k) u H' ∧ Rel K F ρ Hd H' S' := by
  cases x with
  | box n =>
    obtain ⟨a, as, rfl, h2⟩ := h
    unfold putS at e
    dsimp only at e
    split at e
    · rename_i ks h1
      split at e
      · rename_i hl
        cases e
        obtain ⟨_, a', us, e1, hv, hks⟩ := r.box n _ _ h1 h2 (by simp)
        obtain ⟨e2, e3⟩ := List.cons.inj e1
        subst e2
        refine ⟨a, _, rfl, .k hv (by rw [kv_len hks]; exact lim_lt (Nat.le_of_lt hl)), r.write h1 h2 (by simp) (by simp) ⟨a, _, e1, upd_same, kv_put hd hks⟩⟩
      · cases e
    · cases e
  | sub n =>
    obtain ⟨a, b, as, rfl, h2⟩ := h
    unfold putS at e
    dsimp only at e
    split at e
    · rename_i C fs g ks h1
      split at e
      · rename_i hl
        cases e
        obtain ⟨_, a', b', dx, gs, us, e1, hi, hg, hf, hgg, hv, hks⟩ := r.box n _ _ h1 h2 (by simp)
        obtain ⟨e2, e3⟩ := List.cons.inj e1
        obtain ⟨e4, e5⟩ := List.cons.inj e3
        subst e2 e4
        have nab : a ≠ b := ne_of hi hv (by intro z; cases z)
        refine ⟨b, _, rfl, .k hv (by rw [kv_len hks]; exact lim_lt (Nat.le_of_lt hl)), r.write h1 h2 (by simp) (by simp) ⟨a, b, dx, gs, _, e1, by rw [upd_ne nab]; exact hi, hg, hf, hgg, upd_same, kv_put hd hks⟩⟩
      · cases e
    · cases e
  | _ => cases e
def zdget (zd zk : ZE) : ZE := fun Γ S => (zd Γ S).bind fun x S1 => (zk Γ S1).bind fun y S2 => match resD S2 x, keySl y with
  | some kvs, some k => (match valD kvs k with
    | some c => .val (.d c) S2
    | none => .bad)
  | _, _ => .bad
def zdin (zk zd : ZE) : ZE := fun Γ S => (zk Γ S).bind fun y S1 => (zd Γ S1).bind fun x S2 => match resD S2 x, keySl y with
  | some kvs, some k => .val (.d (.bool (valD kvs k).isSome)) S2
  | _, _ => .bad
def zdnin (zk zd : ZE) : ZE := fun Γ S => (zk Γ S).bind fun y S1 => (zd Γ S1).bind fun x S2 => match resD S2 x, keySl y with
  | some kvs, some k => .val (.d (.bool !(valD kvs k).isSome)) S2
  | _, _ => .bad
def zdget2 (zd zk zo : ZE) : ZE := fun Γ S => (zd Γ S).bind fun x S1 => match resD S1 x with
  | some _ => (zk Γ S1).bind fun y S2 => (zo Γ S2).bind fun o S3 => (match resD S3 x, keySl y, o with
    | some kvs, some k, .d d => .val (.d ((valD kvs k).getD d)) S3
    | _, _, _ => .bad)
  | none => .bad
theorem dget_of {K : PySem.W.Frag} {F : Hp} {ρ : Ads} {Hd H : Hp} {S : Sto} {v u : V} {x y : Sl} {kvs : List (Key × PyData)} {k : Key} (r : Rel K F ρ Hd H S) (h : SlIs K ρ Hd v x) (h' : SlIs K ρ Hd u y) (e : resD S x = some kvs) (e' : keySl y = some k) :
    ∃ a o, v = .ref a ∧ IsD H a ∧ DGet H a u o ∧ (∀ d, valD kvs k = some d → ∃ w, o = some w ∧ Dp K Hd w d) ∧ (valD kvs k = none → o = none) := by
  obtain ⟨a, us, rfl, hv, hks⟩ := dic_of r h e
  rw [key_of h' e']
  obtain ⟨h1, h2⟩ := kv_val (k := k) hks
  exact ⟨a, _, rfl, .inl ⟨us, .inl hv⟩, .k hv, h1, h2⟩
section
variable {X : Cx} {o i f e : Expr} {zd zk zo : ZE} {pos apos cpos : Pos}
theorem pz_dget (hu : X.A.units + 1 < cLine) (ho : PZ X o zd) (hi : PZ X i zk) (hs : NoSl i := by exact fun _ _ => rfl) : PZ X (.Subscript o i pos) (zdget zd zk) := fun W tk => by
  obtain ⟨t, p, s⟩ := ho W tk
  obtain ⟨t', p', s'⟩ := hi W tk
  refine ⟨_, pe_dget hu p p' hs, fun F σ H Q Γ S ρ Hd rl sl af => ?_⟩
  refine s F σ H _ Γ S ρ Hd rl sl (Aft.imp (aft_bind af) ?_)
  rintro x H1 ⟨ρ1, Hd1, x', S1, g1, r1, hx, af1⟩
  refine s' F σ H1 _ Γ S1 ρ1 Hd1 r1 (sl.grow g1) (Aft.imp (aft_bind af1) ?_)
  rintro y H2 ⟨ρ2, Hd2, y', S2, g2, r2, hy, af2⟩
  split at af2
  · rename_i kvs k e1 e2
    obtain ⟨a, ov, rfl, _, g, h1, h2⟩ := dget_of r2 (hx.grow g2) hy e1 e2
    split at af2
    · rename_i c hc
      obtain ⟨w, rfl, hw⟩ := h1 c hc
      exact ⟨a, w, rfl, g, af2 w H2 ρ2 Hd2 .refl r2 hw⟩
    · exact False.elim af2
  · exact False.elim af2
theorem snd_din {W : WX} {td ty : TE} {op : Bool → Bool} {z : ZE} {tt : TE} (s' : Snd X.K W (SlIs X.K) td zd) (s : Snd X.K W (SlIs X.K) ty zk)
    (ht : tt = fun σ H Q => ty σ H fun y H1 => td σ H1 fun x H2 => ∃ a o, x = .ref a ∧ DGet H2 a y o ∧ Q (.bl (op o.isSome)) H2)
    (hz : z = fun Γ S => (zk Γ S).bind fun y S1 => (zd Γ S1).bind fun x S2 => match resD S2 x, keySl y with
      | some kvs, some k => .val (.d (.bool (op (valD kvs k).isSome))) S2
      | _, _ => .bad) : Snd X.K W (SlIs X.K) tt z := by
  subst ht hz
  intro F σ H Q Γ S ρ Hd rl sl af
  refine s F σ H _ Γ S ρ Hd rl sl (Aft.imp (aft_bind af) ?_)
  rintro y H1 ⟨ρ1, Hd1, y', S1, g1, r1, hy, af1⟩
  refine s' F σ H1 _ Γ S1 ρ1 Hd1 r1 (sl.grow g1) (Aft.imp (aft_bind af1) ?_)
  rintro x H2 ⟨ρ2, Hd2, x', S2, g2, r2, hx, af2⟩
  split at af2
  · rename_i kvs k e1 e2
    obtain ⟨a, ov, rfl, _, g, h1, h2⟩ := dget_of r2 hx (hy.grow g2) e1 e2
    refine ⟨a, ov, rfl, g, ?_⟩
    have eo : ov.isSome = (valD kvs k).isSome := by
      cases q : valD kvs k with
      | none => rw [h2 q]; rfl
      | some d => obtain ⟨w, rfl, _⟩ := h1 d q; rfl
    rw [eo]
    exact af2 _ H2 ρ2 Hd2 .refl r2 (.bl _)
  · exact False.elim af2
theorem pz_din (hu : X.A.units + 1 < cLine) (hi : PZ X i zk) (ho : PZ X o zd) (hm : behindInMarks .In o = false := by rfl) : PZ X (.Compare i [.In] [o] pos) (zdin zk zd) := fun W tk => by
  obtain ⟨t, p, s⟩ := ho W tk
  obtain ⟨t', p', s'⟩ := hi W tk
  exact ⟨_, pe_cmp (pc_din hu p' p) hm, snd_din (op := id) s s' rfl rfl⟩
theorem pz_dnin (hu : X.A.units + 1 < cLine) (hi : PZ X i zk) (ho : PZ X o zd) (hm : behindInMarks .NotIn o = false := by rfl) : PZ X (.Compare i [.NotIn] [o] pos) (zdnin zk zd) := fun W tk => by
  obtain ⟨t, p, s⟩ := ho W tk
  obtain ⟨t', p', s'⟩ := hi W tk
  exact ⟨_, pe_cmp (pc_dnotin hu p' p) hm, snd_din (op := not) s s' rfl rfl⟩
theorem pzt_din (hu : X.A.units + 1 < cLine) (hi : PZ X i zk) (ho : PZ X o zd) (hm : behindInMarks .In o = false := by rfl) : PZT X (.Compare i [.In] [o] pos) (ztst (zdin zk zd)) := fun W tk => by
  obtain ⟨t, p, s⟩ := ho W tk
  obtain ⟨t', p', s'⟩ := hi W tk
  exact ⟨_, pt_cmp (pc_din hu p' p) hm, snd_tst (snd_din (op := id) s s' rfl rfl)⟩
theorem pzt_dnin (hu : X.A.units + 1 < cLine) (hi : PZ X i zk) (ho : PZ X o zd) (hm : behindInMarks .NotIn o = false := by rfl) : PZT X (.Compare i [.NotIn] [o] pos) (ztst (zdnin zk zd)) := fun W tk => by
  obtain ⟨t, p, s⟩ := ho W tk
  obtain ⟨t', p', s'⟩ := hi W tk
  exact ⟨_, pt_cmp (pc_dnotin hu p' p) hm, snd_tst (snd_din (op := not) s s' rfl rfl)⟩
theorem pz_dget2 (hu : X.A.units + 1 < cLine) (ho : PZ X o zd) (he : PZ X e zk) (hf : PZ X f zo) (m : M2 X o "get" apos e f cpos := by exact ⟨rfl, rfl, rfl, rfl⟩) : PZ X (.Call (.Attribute o "get" apos) [e, f] [] cpos) (zdget2 zd zk zo) := fun W tk => by
  obtain ⟨t, p, s⟩ := ho W tk
  obtain ⟨t', p', s'⟩ := he W tk
  obtain ⟨t2, p2, s2⟩ := hf W tk
  refine ⟨_, pe_dget2 hu p p' p2 m, fun F σ H Q Γ S ρ Hd rl sl af => ?_⟩
  refine s F σ H _ Γ S ρ Hd rl sl (Aft.imp (aft_bind af) ?_)
  rintro x H1 ⟨ρ1, Hd1, x', S1, g1, r1, hx, af1⟩
  split at af1
  · rename_i kvs0 e0
    obtain ⟨a, us, rfl, hv, _⟩ := dic_of r1 hx e0
    refine ⟨a, rfl, .inl ⟨us, .inl hv⟩, ?_⟩
    refine s' F σ H1 _ Γ S1 ρ1 Hd1 r1 (sl.grow g1) (Aft.imp (aft_bind af1) ?_)
    rintro y H2 ⟨ρ2, Hd2, y', S2, g2, r2, hy, af2⟩
    refine s2 F σ H2 _ Γ S2 ρ2 Hd2 r2 ((sl.grow g1).grow g2) (Aft.imp (aft_bind af2) ?_)
    rintro z H3 ⟨ρ3, Hd3, z', S3, g3, r3, hz, af3⟩
    split at af3
    · rename_i kvs k d e1 e2
      obtain ⟨a', ov, ea, _, g, h1, h2⟩ := dget_of r3 ((hx.grow g2).grow g3) (hy.grow g3) e1 e2
      cases ea
      refine ⟨ov, g, ?_⟩
      cases q : valD kvs k with
      | none =>
        rw [h2 q]
        rw [q] at af3
        exact af3 z H3 ρ3 Hd3 .refl r3 hz
      | some d' =>
        obtain ⟨w, rfl, hw⟩ := h1 d' q
        rw [q] at af3
        exact af3 w H3 ρ3 Hd3 .refl r3 hw
    · exact False.elim af3
  · exact False.elim af1
end
end Z
end
section
set_option Elab.async false
set_option linter.all false
set_option maxRecDepth 100000
set_option autoImplicit false
set_option maxHeartbeats 1000000
namespace Z
open PySem L2
/-! ### built-in functions -/
def CallZ (X : Cx) (f : Value) (r : Sto → List Sl → Option PyData) : Prop := ∃ rr : List V → Hp → VK → Prop, CallR X f rr ∧
  ∀ (F : Hp) (vs : List V) (H : Hp) (Q : VK) (xs : List Sl) (c : PyData) (S : Sto) (ρ : Ads) (Hd : Hp), Rel X.K F ρ Hd H S → SlAll X.K ρ Hd vs xs → r S xs = some c → Made X.K F ρ Hd S c Q → rr vs H Q
/-- the answer is a new mutable object -/
def MadeF (K : PySem.W.Frag) (F : Hp) (ρ : Ads) (Hd H : Hp) (S : Sto) (b : Box) (Q : VK) : Prop := ∀ p o, H p = none → BoxOk K Hd (upd H p o) [p] b → Q (.ref p) (upd H p o)
def CallZF (X : Cx) (f : Value) (r : Sto → List Sl → Option Box) : Prop := ∃ rr : List V → Hp → VK → Prop, CallR X f rr ∧
  ∀ (F : Hp) (vs : List V) (H : Hp) (Q : VK) (xs : List Sl) (b : Box) (S : Sto) (ρ : Ads) (Hd : Hp), Rel X.K F ρ Hd H S → SlAll X.K ρ Hd vs xs → r S xs = some b → MadeF X.K F ρ Hd H S b Q → rr vs H Q
def zcb (r : Sto → List Sl → Option PyData) (za : ZA) : ZE := fun Γ S => (za Γ S).bind fun xs S1 => match r S1 xs with
  | some c => .val (.d c) S1
  | none => .bad
def zcf (r : Sto → List Sl → Option Box) (za : ZA) : ZF := fun Γ S => (za Γ S).bind fun xs S1 => match r S1 xs with
  | some c => .val c S1
  | none => .bad
section
variable {X : Cx} {x : Str} {p pos : Pos} {e : Expr} {es : List Expr} {zs : ZA}
theorem CallR.or {f : Value} {r r' : List V → Hp → VK → Prop} (h : CallR X f r) (h' : CallR X f r') : CallR X f (fun xs H Q => r xs H Q ∨ r' xs H Q) := by
  intro pins s σ H xs us Q I rv q
  rcases q with q | q
  · exact h pins s σ H xs us Q I rv q
  · exact h' pins s σ H xs us Q I rv q
theorem snd_cb {W : WX} {t : TA} {rr : List V → Hp → VK → Prop} {r : Sto → List Sl → Option PyData} (s : Snd X.K W (SlAll X.K) t zs)
    (h : ∀ (F : Hp) (vs : List V) (H : Hp) (Q : VK) (xs : List Sl) (c : PyData) (S : Sto) (ρ : Ads) (Hd : Hp), Rel X.K F ρ Hd H S → SlAll X.K ρ Hd vs xs → r S xs = some c → Made X.K F ρ Hd S c Q → rr vs H Q) : Snd X.K W (SlIs X.K) (tCB rr t) (zcb r zs) := by
  intro F σ H Q Γ S ρ Hd rl sl af
  refine s F σ H _ Γ S ρ Hd rl sl (Aft.imp (aft_bind af) ?_)
  rintro vs H1 ⟨ρ1, Hd1, xs, S1, g1, r1, hx, af1⟩
  split at af1
  · rename_i c hc
    exact h F vs H1 Q xs c S1 ρ1 Hd1 r1 hx hc fun v H' Hd' sm r' d => af1 v H' ρ1 Hd' (.hd sm) r' d
  · exact False.elim af1
theorem snd_cf {W : WX} {t : TA} {rr : List V → Hp → VK → Prop} {r : Sto → List Sl → Option Box} (s : Snd X.K W (SlAll X.K) t zs)
    (h : ∀ (F : Hp) (vs : List V) (H : Hp) (Q : VK) (xs : List Sl) (b : Box) (S : Sto) (ρ : Ads) (Hd : Hp), Rel X.K F ρ Hd H S → SlAll X.K ρ Hd vs xs → r S xs = some b → MadeF X.K F ρ Hd H S b Q → rr vs H Q) : SndF X.K W (tCB rr t) (zcf r zs) := by
  intro F σ H Q Γ S ρ Hd rl sl af
  refine s F σ H _ Γ S ρ Hd rl sl (Aft.imp (aft_bindF af) ?_)
  rintro vs H1 ⟨ρ1, Hd1, xs, S1, g1, r1, hx, af1⟩
  split at af1
  · rename_i c hc
    exact h F vs H1 Q xs c S1 ρ1 Hd1 r1 hx hc fun np o hp ok => af1 np _ ρ1 Hd1 .refl (r1.junk hp) (fun z => r1.ne_new hp z rfl) (r1.fr_free hp) (r1.hd.free hp) (by rw [upd_same]; simp) ok
  · exact False.elim af1
theorem pz_cb {id : String} {r : Sto → List Sl → Option PyData} (hc : CallZ X (.builtin id) r) (hm : X.mg x = none) (hv : bootBuiltins x = some (.builtin id)) (ha : PZA X (e :: es) zs) (hg : Gl X x := by rfl) (hn : x ≠ "__name__" := by decide) (hdb : (x == ("__debug__" : Str)) = false := by decide)
    (he : starEach (e :: es) X.env = (false, eval e X.env) :: starEach es X.env := by rfl) (hpl : (backTo pos (starEach es X.env)).any (·.1) = false := by rfl) : PZ X (.Call (.Name x p) (e :: es) [] pos) (zcb r zs) := fun W tk => by
  obtain ⟨rr, h1, h2⟩ := hc
  obtain ⟨t, pa, sa⟩ := ha W tk
  exact ⟨_, pe_callB h1 hg hm hv pa hn hdb he hpl, snd_cb sa h2⟩
theorem pz_cty {T : String} {r : Sto → List Sl → Option PyData} (hc : CallZ X (.type T) r) (hm : X.mg x = none) (hv : bootBuiltins x = some (.type T)) (ha : PZA X (e :: es) zs) (hg : Gl X x := by rfl) (hn : x ≠ "__name__" := by decide) (hdb : (x == ("__debug__" : Str)) = false := by decide)
    (he : starEach (e :: es) X.env = (false, eval e X.env) :: starEach es X.env := by rfl) (hpl : (backTo pos (starEach es X.env)).any (·.1) = false := by rfl) : PZ X (.Call (.Name x p) (e :: es) [] pos) (zcb r zs) := fun W tk => by
  obtain ⟨rr, h1, h2⟩ := hc
  obtain ⟨t, pa, sa⟩ := ha W tk
  exact ⟨_, pe_callTy h1 hg hm hv pa hn hdb he hpl, snd_cb sa h2⟩
theorem pzf_cb {id : String} {r : Sto → List Sl → Option Box} (hc : CallZF X (.builtin id) r) (hm : X.mg x = none) (hv : bootBuiltins x = some (.builtin id)) (ha : PZA X (e :: es) zs) (hg : Gl X x := by rfl) (hn : x ≠ "__name__" := by decide) (hdb : (x == ("__debug__" : Str)) = false := by decide)
    (he : starEach (e :: es) X.env = (false, eval e X.env) :: starEach es X.env := by rfl) (hpl : (backTo pos (starEach es X.env)).any (·.1) = false := by rfl) : PZF X (.Call (.Name x p) (e :: es) [] pos) (zcf r zs) := fun W tk => by
  obtain ⟨rr, h1, h2⟩ := hc
  obtain ⟨t, pa, sa⟩ := ha W tk
  exact ⟨_, pe_callB h1 hg hm hv pa hn hdb he hpl, snd_cf sa h2⟩
theorem pzf_cty {T : String} {r : Sto → List Sl → Option Box} (hc : CallZF X (.type T) r) (hm : X.mg x = none) (hv : bootBuiltins x = some (.type T)) (ha : PZA X (e :: es) zs) (hg : Gl X x := by rfl) (hn : x ≠ "__name__" := by decide) (hdb : (x == ("__debug__" : Str)) = false := by decide)
    (he : starEach (e :: es) X.env = (false, eval e X.env) :: starEach es X.env := by rfl) (hpl : (backTo pos (starEach es X.env)).any (·.1) = false := by rfl) : PZF X (.Call (.Name x p) (e :: es) [] pos) (zcf r zs) := fun W tk => by
  obtain ⟨rr, h1, h2⟩ := hc
  obtain ⟨t, pa, sa⟩ := ha W tk
  exact ⟨_, pe_callTy h1 hg hm hv pa hn hdb he hpl, snd_cf sa h2⟩
end
/-! ### by one argument that is seen -/
def on1 {α : Type} (f : PyData → Option α) (S : Sto) : List Sl → Option α
  | [x] => (res S x).bind f
  | _ => none
theorem on1_ok {K : PySem.W.Frag} {F : Hp} {ρ : Ads} {Hd H : Hp} {S : Sto} {α : Type} {f : PyData → Option α} {vs : List V} {xs : List Sl} {c : α} (r : Rel K F ρ Hd H S) (h : SlAll K ρ Hd vs xs) (e : on1 f S xs = some c) : ∃ v d, vs = [v] ∧ Vw K Hd H v d ∧ f d = some c := by
  cases h with
  | nil => cases e
  | cons hx t =>
    cases t with
    | nil =>
      rename_i v x
      have e : (res S x).bind f = some c := e
      cases q : res S x with
      | none => rw [q] at e; cases e
      | some d =>
        rw [q] at e
        exact ⟨v, d, rfl, vw_of r hx q, e⟩
    | cons _ _ => cases e
def on2 {α : Type} (f : PyData → PyData → Option α) (S : Sto) : List Sl → Option α
  | [x, y] => (res S x).bind fun a => (res S y).bind fun b => f a b
  | _ => none
theorem on2_ok {K : PySem.W.Frag} {F : Hp} {ρ : Ads} {Hd H : Hp} {S : Sto} {α : Type} {f : PyData → PyData → Option α} {vs : List V} {xs : List Sl} {c : α} (r : Rel K F ρ Hd H S) (h : SlAll K ρ Hd vs xs) (e : on2 f S xs = some c) : ∃ v u d d', vs = [v, u] ∧ Vw K Hd H v d ∧ Vw K Hd H u d' ∧ f d d' = some c := by
  cases h with
  | nil => cases e
  | cons hx t =>
    cases t with
    | nil => cases e
    | cons hy t =>
      cases t with
      | nil =>
        rename_i v x u y
        have e : ((res S x).bind fun a => (res S y).bind fun b => f a b) = some c := e
        cases q : res S x with
        | none => rw [q] at e; cases e
        | some d =>
          rw [q] at e
          cases q' : res S y with
          | none => rw [q'] at e; cases e
          | some d' =>
            rw [q'] at e
            exact ⟨v, u, d, d', rfl, vw_of r hx q, vw_of r hy q', e⟩
      | cons _ _ => cases e
def intsOf : List PyData → Option (List Int)
  | [] => some []
  | .int i :: r => (intsOf r).map (i :: ·)
  | _ => none
def bolsOf : List PyData → Option (List Bool)
  | [] => some []
  | .bool i :: r => (bolsOf r).map (i :: ·)
  | _ => none
def strsOf : List PyData → Option (List Str)
  | [] => some []
  | .str i :: r => (strsOf r).map (i :: ·)
  | _ => none
theorem intsOf_map : ∀ ns : List Int, intsOf (ns.map .int) = some ns
  | [] => rfl
  | n :: ns => by rw [List.map_cons, intsOf, intsOf_map ns]; rfl
theorem bolsOf_map : ∀ ns : List Bool, bolsOf (ns.map .bool) = some ns
  | [] => rfl
  | n :: ns => by rw [List.map_cons, bolsOf, bolsOf_map ns]; rfl
theorem strsOf_map : ∀ ns : List Str, strsOf (ns.map .str) = some ns
  | [] => rfl
  | n :: ns => by rw [List.map_cons, strsOf, strsOf_map ns]; rfl
theorem ints_of : ∀ {ds : List PyData} {ns : List Int}, intsOf ds = some ns → ds = ns.map .int
  | [], _, e => by cases e; rfl
  | d :: r, ns, e => by
    cases d with
    | int i =>
      have e : (intsOf r).map (i :: ·) = some ns := e
      cases q : intsOf r with
      | none => rw [q] at e; cases e
      | some ms => rw [q] at e; cases e; rw [ints_of q]; rfl
    | _ => cases e
theorem bols_of : ∀ {ds : List PyData} {ns : List Bool}, bolsOf ds = some ns → ds = ns.map .bool
  | [], _, e => by cases e; rfl
  | d :: r, ns, e => by
    cases d with
    | bool i =>
      have e : (bolsOf r).map (i :: ·) = some ns := e
      cases q : bolsOf r with
      | none => rw [q] at e; cases e
      | some ms => rw [q] at e; cases e; rw [bols_of q]; rfl
    | _ => cases e
theorem strs_of : ∀ {ds : List PyData} {ns : List Str}, strsOf ds = some ns → ds = ns.map .str
  | [], _, e => by cases e; rfl
  | d :: r, ns, e => by
    cases d with
    | str i =>
      have e : (strsOf r).map (i :: ·) = some ns := e
      cases q : strsOf r with
      | none => rw [q] at e; cases e
      | some ms => rw [q] at e; cases e; rw [strs_of q]; rfl
    | _ => cases e
theorem dpAll_ints {K : PySem.W.Frag} {H : Hp} : ∀ {vs : List V} {ns : List Int}, DpAll K H vs (ns.map .int) → vs = ns.map .int
  | _, [], h => by cases h; rfl
  | _, n :: ns, h => by
    cases h with
    | cons a t => cases a; rw [dpAll_ints t]; rfl
theorem dpAll_bols {K : PySem.W.Frag} {H : Hp} : ∀ {vs : List V} {ns : List Bool}, DpAll K H vs (ns.map .bool) → vs = ns.map .bl
  | _, [], h => by cases h; rfl
  | _, n :: ns, h => by
    cases h with
    | cons a t => cases a; rw [dpAll_bols t]; rfl
theorem dpAll_strs {K : PySem.W.Frag} {H : Hp} : ∀ {vs : List V} {ns : List Str}, DpAll K H vs (ns.map .str) → vs = ns.map .str
  | _, [], h => by cases h; rfl
  | _, n :: ns, h => by
    cases h with
    | cons a t => cases a; rw [dpAll_strs t]; rfl
theorem ints_dp {K : PySem.W.Frag} {H : Hp} : ∀ ns : List Int, DpAll K H (ns.map .int) (ns.map .int)
  | [] => .nil
  | n :: ns => .cons (.int n) (ints_dp ns)
theorem strs_dp {K : PySem.W.Frag} {H : Hp} : ∀ ns : List Str, DpAll K H (ns.map .str) (ns.map .str)
  | [] => .nil
  | n :: ns => .cons (.str n) (strs_dp ns)
/-! ### len -/
def lenS (S : Sto) : List Sl → Option PyData
  | [x] => (match resD S x with
    | some kvs => some (.int kvs.length)
    | none => (match res S x with
      | some (.list ds) => some (.int ds.length)
      | some (.tuple ds) => some (.int ds.length)
      | some (.str z) => if z.length ≤ lim then some (.int z.length) else none
      | _ => none))
  | _ => none
section
variable {X : Cx}
theorem cz_len : CallZ X (.builtin "len") lenS := by
  refine ⟨_, CallR.or call_lenD call_len, fun F vs H Q xs c S ρ Hd r h e m => ?_⟩
  cases h with
  | nil => cases e
  | cons hx t =>
    cases t with
    | cons _ _ => cases e
    | nil =>
      rename_i v x
      unfold lenS at e
      dsimp only at e
      split at e
      · rename_i kvs q
        cases e
        obtain ⟨a, us, rfl, h1, h2⟩ := dic_of r hx q
        refine .inl ⟨a, us, rfl, h1, ?_⟩
        rw [kv_len h2]
        exact made0 m r (.int _)
      · split at e
        · rename_i ds q
          cases e
          obtain ⟨a, us, rfl, h1, h2⟩ := vw_of r hx q
          refine .inr ⟨_, _, rfl, .inl ⟨us, h1, rfl⟩, ?_⟩
          rw [dpAll_len h2]
          exact made0 m r (.int _)
        · rename_i ds q
          cases e
          obtain ⟨a, us, rfl, h1, h2⟩ := vw_of r hx q
          refine .inr ⟨_, _, rfl, .inr ⟨us, same_t r.hd h1, rfl⟩, ?_⟩
          rw [dpAll_len h2]
          exact made0 m r (.int _)
        · rename_i z q
          have w := vw_of r hx q
          split at e
          · rename_i hl
            cases e
            refine .inr ⟨v, z.length, rfl, ?_, made0 m r (.int _)⟩
            rw [show v = V.str z from w]
            exact ⟨lim_line hl, rfl⟩
          · cases e
        · cases e
/-! ### min, max, sum, all, any, abs -/
def minI : List Int → Option Int
  | [] => none
  | a :: r => some (r.foldl min a)
def maxI : List Int → Option Int
  | [] => none
  | a :: r => some (r.foldl max a)
theorem foldl_min : ∀ (r : List Int) (a : Int), (r.foldl min a = a ∨ r.foldl min a ∈ r) ∧ r.foldl min a ≤ a ∧ ∀ y ∈ r, r.foldl min a ≤ y
  | [], a => ⟨.inl rfl, Int.le_refl _, fun _ h => nomatch h⟩
  | b :: r, a => by
    obtain ⟨h1, h2, h3⟩ := foldl_min r (min a b)
    rw [List.foldl_cons]
    refine ⟨?_, by omega, fun y hy => ?_⟩
    · rcases h1 with h | h
      · rw [h]
        by_cases q : a ≤ b
        · exact .inl (by omega)
        · exact .inr (by rw [show min a b = b by omega]; exact List.mem_cons_self)
      · exact .inr (List.mem_cons_of_mem _ h)
    · rcases List.mem_cons.mp hy with rfl | hy
      · omega
      · exact h3 y hy
theorem foldl_max : ∀ (r : List Int) (a : Int), (r.foldl max a = a ∨ r.foldl max a ∈ r) ∧ a ≤ r.foldl max a ∧ ∀ y ∈ r, y ≤ r.foldl max a
  | [], a => ⟨.inl rfl, Int.le_refl _, fun _ h => nomatch h⟩
  | b :: r, a => by
    obtain ⟨h1, h2, h3⟩ := foldl_max r (max a b)
    rw [List.foldl_cons]
    refine ⟨?_, by omega, fun y hy => ?_⟩
    · rcases h1 with h | h
      · rw [h]
        by_cases q : b ≤ a
        · exact .inl (by omega)
        · exact .inr (by rw [show max a b = b by omega]; exact List.mem_cons_self)
      · exact .inr (List.mem_cons_of_mem _ h)
    · rcases List.mem_cons.mp hy with rfl | hy
      · omega
      · exact h3 y hy
theorem minI_iff {ns : List Int} {m : Int} (h : minI ns = some m) : m ∈ ns ∧ ∀ y ∈ ns, m ≤ y := by
  cases ns with
  | nil => cases h
  | cons a r =>
    cases h
    obtain ⟨h1, h2, h3⟩ := foldl_min r a
    refine ⟨?_, fun y hy => ?_⟩
    · rcases h1 with h | h
      · rw [h]; exact List.mem_cons_self
      · exact List.mem_cons_of_mem _ h
    · rcases List.mem_cons.mp hy with rfl | hy
      · exact h2
      · exact h3 y hy
theorem maxI_iff {ns : List Int} {m : Int} (h : maxI ns = some m) : m ∈ ns ∧ ∀ y ∈ ns, y ≤ m := by
  cases ns with
  | nil => cases h
  | cons a r =>
    cases h
    obtain ⟨h1, h2, h3⟩ := foldl_max r a
    refine ⟨?_, fun y hy => ?_⟩
    · rcases h1 with h | h
      · rw [h]; exact List.mem_cons_self
      · exact List.mem_cons_of_mem _ h
    · rcases List.mem_cons.mp hy with rfl | hy
      · exact h2
      · exact h3 y hy
theorem minI_eq {ns : List Int} {m : Int} (h1 : m ∈ ns) (h2 : ∀ y ∈ ns, m ≤ y) : minI ns = some m := by
  cases ns with
  | nil => cases h1
  | cons a r =>
    obtain ⟨a1, a2⟩ := minI_iff (ns := a :: r) (m := r.foldl min a) rfl
    have b1 := a2 m h1
    have b2 := h2 _ a1
    show some (r.foldl min a) = some m
    rw [Int.le_antisymm b1 b2]
theorem maxI_eq {ns : List Int} {m : Int} (h1 : m ∈ ns) (h2 : ∀ y ∈ ns, y ≤ m) : maxI ns = some m := by
  cases ns with
  | nil => cases h1
  | cons a r =>
    obtain ⟨a1, a2⟩ := maxI_iff (ns := a :: r) (m := r.foldl max a) rfl
    have b1 := a2 m h1
    have b2 := h2 _ a1
    show some (r.foldl max a) = some m
    rw [Int.le_antisymm b2 b1]
def lstOnly {α : Type} (f : List PyData → Option α) : PyData → Option α
  | .list ds => f ds
  | _ => none
def dMin : List PyData → Option PyData := fun ds => (intsOf ds).bind fun ns => (minI ns).map .int
def dMax : List PyData → Option PyData := fun ds => (intsOf ds).bind fun ns => (maxI ns).map .int
def dSum : List PyData → Option PyData := fun ds => (intsOf ds).map fun ns => .int ns.sum
def dAll : List PyData → Option PyData := fun ds => (bolsOf ds).map fun bs => .bool (bs.all id)
def dAny : List PyData → Option PyData := fun ds => (bolsOf ds).map fun bs => .bool (bs.any id)
theorem list_ints {K : PySem.W.Frag} {Hd H : Hp} {v : V} {ds : List PyData} {ns : List Int} (w : Vw K Hd H v (.list ds)) (e : intsOf ds = some ns) : ∃ a, v = .ref a ∧ SqL K H a (ns.map V.int) := by
  obtain ⟨a, vs, rfl, h1, h2⟩ := w
  rw [ints_of e] at h2
  rw [dpAll_ints h2] at h1
  exact ⟨a, rfl, h1⟩
theorem list_bols {K : PySem.W.Frag} {Hd H : Hp} {v : V} {ds : List PyData} {ns : List Bool} (w : Vw K Hd H v (.list ds)) (e : bolsOf ds = some ns) : ∃ a, v = .ref a ∧ SqL K H a (ns.map V.bl) := by
  obtain ⟨a, vs, rfl, h1, h2⟩ := w
  rw [bols_of e] at h2
  rw [dpAll_bols h2] at h1
  exact ⟨a, rfl, h1⟩
theorem list_strs {K : PySem.W.Frag} {Hd H : Hp} {v : V} {ds : List PyData} {ns : List Str} (w : Vw K Hd H v (.list ds)) (e : strsOf ds = some ns) : ∃ a, v = .ref a ∧ SqL K H a (ns.map V.str) := by
  obtain ⟨a, vs, rfl, h1, h2⟩ := w
  rw [strs_of e] at h2
  rw [dpAll_strs h2] at h1
  exact ⟨a, rfl, h1⟩
theorem cz_min (hc : X.calm = true := by rfl) : CallZ X (.builtin "min") (on1 (lstOnly dMin)) := by
  refine ⟨_, cr_min hc, fun F vs H Q xs c S ρ Hd r h e m => ?_⟩
  obtain ⟨v, d, rfl, w, e⟩ := on1_ok r h e
  cases d with
  | list ds =>
    have e : ((intsOf ds).bind fun ns => (minI ns).map PyData.int) = some c := e
    cases q : intsOf ds with
    | none => rw [q] at e; cases e
    | some ns =>
      rw [q] at e
      obtain ⟨a, rfl, hs⟩ := list_ints w q
      have e : (minI ns).map PyData.int = some c := e
      cases q2 : minI ns with
      | none => rw [q2] at e; cases e
      | some k =>
        rw [q2] at e
        cases e
        obtain ⟨k1, k2⟩ := minI_iff q2
        refine ⟨a, ns, rfl, hs, List.length_pos_of_mem k1, fun m' h1 h2 => ?_⟩
        rw [show m' = k from Int.le_antisymm (h2 k k1) (k2 m' h1)]
        exact made0 m r (.int _)
  | _ => cases e
theorem cz_max (hc : X.calm = true := by rfl) : CallZ X (.builtin "max") (on1 (lstOnly dMax)) := by
  refine ⟨_, cr_max hc, fun F vs H Q xs c S ρ Hd r h e m => ?_⟩
  obtain ⟨v, d, rfl, w, e⟩ := on1_ok r h e
  cases d with
  | list ds =>
    have e : ((intsOf ds).bind fun ns => (maxI ns).map PyData.int) = some c := e
    cases q : intsOf ds with
    | none => rw [q] at e; cases e
    | some ns =>
      rw [q] at e
      obtain ⟨a, rfl, hs⟩ := list_ints w q
      have e : (maxI ns).map PyData.int = some c := e
      cases q2 : maxI ns with
      | none => rw [q2] at e; cases e
      | some k =>
        rw [q2] at e
        cases e
        obtain ⟨k1, k2⟩ := maxI_iff q2
        refine ⟨a, ns, rfl, hs, List.length_pos_of_mem k1, fun m' h1 h2 => ?_⟩
        rw [show m' = k from Int.le_antisymm (k2 m' h1) (h2 k k1)]
        exact made0 m r (.int _)
  | _ => cases e
theorem cz_sum (hc : X.calm = true := by rfl) : CallZ X (.builtin "sum") (on1 (lstOnly dSum)) := by
  refine ⟨_, cr_sum hc, fun F vs H Q xs c S ρ Hd r h e m => ?_⟩
  obtain ⟨v, d, rfl, w, e⟩ := on1_ok r h e
  cases d with
  | list ds =>
    have e : ((intsOf ds).map fun ns => PyData.int ns.sum) = some c := e
    cases q : intsOf ds with
    | none => rw [q] at e; cases e
    | some ns =>
      rw [q] at e
      cases e
      obtain ⟨a, rfl, hs⟩ := list_ints w q
      exact ⟨a, ns, rfl, hs, made0 m r (.int _)⟩
  | _ => cases e
theorem cz_all (hc : X.calm = true := by rfl) : CallZ X (.builtin "all") (on1 (lstOnly dAll)) := by
  refine ⟨_, cr_all hc, fun F vs H Q xs c S ρ Hd r h e m => ?_⟩
  obtain ⟨v, d, rfl, w, e⟩ := on1_ok r h e
  cases d with
  | list ds =>
    have e : ((bolsOf ds).map fun bs => PyData.bool (bs.all id)) = some c := e
    cases q : bolsOf ds with
    | none => rw [q] at e; cases e
    | some ns =>
      rw [q] at e
      cases e
      obtain ⟨a, rfl, hs⟩ := list_bols w q
      exact ⟨a, ns, rfl, hs, made0 m r (.bl _)⟩
  | _ => cases e
theorem cz_any (hc : X.calm = true := by rfl) : CallZ X (.builtin "any") (on1 (lstOnly dAny)) := by
  refine ⟨_, cr_any hc, fun F vs H Q xs c S ρ Hd r h e m => ?_⟩
  obtain ⟨v, d, rfl, w, e⟩ := on1_ok r h e
  cases d with
  | list ds =>
    have e : ((bolsOf ds).map fun bs => PyData.bool (bs.any id)) = some c := e
    cases q : bolsOf ds with
    | none => rw [q] at e; cases e
    | some ns =>
      rw [q] at e
      cases e
      obtain ⟨a, rfl, hs⟩ := list_bols w q
      exact ⟨a, ns, rfl, hs, made0 m r (.bl _)⟩
  | _ => cases e
def dMin2 : PyData → PyData → Option PyData
  | .int i, .int j => some (.int (if j < i then j else i))
  | _, _ => none
def dMax2 : PyData → PyData → Option PyData
  | .int i, .int j => some (.int (if j > i then j else i))
  | _, _ => none
theorem cz_min2 (hc : X.calm = true := by rfl) : CallZ X (.builtin "min") (on2 dMin2) := by
  refine ⟨_, call_min2 hc, fun F vs H Q xs c S ρ Hd r h e m => ?_⟩
  obtain ⟨v, u, d, d', rfl, w, w', e⟩ := on2_ok r h e
  cases d with
  | int i =>
    cases d' with
    | int j => cases e; exact ⟨i, j, by rw [show v = V.int i from w, show u = V.int j from w'], made0 m r (.int _)⟩
    | _ => cases e
  | _ => cases e
theorem cz_max2 (hc : X.calm = true := by rfl) : CallZ X (.builtin "max") (on2 dMax2) := by
  refine ⟨_, call_max2 hc, fun F vs H Q xs c S ρ Hd r h e m => ?_⟩
  obtain ⟨v, u, d, d', rfl, w, w', e⟩ := on2_ok r h e
  cases d with
  | int i =>
    cases d' with
    | int j => cases e; exact ⟨i, j, by rw [show v = V.int i from w, show u = V.int j from w'], made0 m r (.int _)⟩
    | _ => cases e
  | _ => cases e
def dAbs : PyData → Option PyData
  | .int i => some (.int (if i < 0 then -i else i))
  | _ => none
theorem cz_abs : CallZ X (.builtin "abs") (on1 dAbs) := by
  refine ⟨_, call_abs, fun F vs H Q xs c S ρ Hd r h e m => ?_⟩
  obtain ⟨v, d, rfl, w, e⟩ := on1_ok r h e
  cases d with
  | int i => cases e; exact ⟨i, by rw [show v = V.int i from w], made0 m r (.int _)⟩
  | _ => cases e
def dInt : PyData → Option PyData
  | .int i => some (.int i)
  | .bool k => some (.int (if k then 1 else 0))
  | .str a => if a.length ≤ 640 then (PySem.intText? a).map .int else none
  | _ => none
theorem cz_int : CallZ X (.type "int") (on1 dInt) := by
  refine ⟨_, CallR.or call_int1 call_int_str, fun F vs H Q xs c S ρ Hd r h e m => ?_⟩
  obtain ⟨v, d, rfl, w, e⟩ := on1_ok r h e
  cases d with
  | int i => cases e; exact .inl (.inl ⟨i, by rw [show v = V.int i from w], made0 m r (.int _)⟩)
  | bool k => cases e; exact .inl (.inr ⟨k, by rw [show v = V.bl k from w], made0 m r (.int _)⟩)
  | str a =>
    have e : (if a.length ≤ 640 then (PySem.intText? a).map PyData.int else none) = some c := e
    split at e
    · rename_i hl
      cases q : PySem.intText? a with
      | none => rw [q] at e; cases e
      | some n => rw [q] at e; cases e; exact .inr ⟨a, n, by rw [show v = V.str a from w], q, hl, made0 m r (.int _)⟩
    · cases e
  | _ => cases e
def dStr : PyData → Option PyData
  | .int i => if i.natAbs.log2 < 1920 then some (.str (toString i)) else none
  | _ => none
theorem cz_str : CallZ X (.type "str") (on1 dStr) := by
  refine ⟨_, call_str_int, fun F vs H Q xs c S ρ Hd r h e m => ?_⟩
  obtain ⟨v, d, rfl, w, e⟩ := on1_ok r h e
  cases d with
  | int i =>
    have e : (if i.natAbs.log2 < 1920 then some (PyData.str (toString i)) else none) = some c := e
    split at e
    · rename_i hl
      cases e
      exact ⟨i, by rw [show v = V.int i from w], hl, made0 m r (.str _)⟩
    · cases e
  | _ => cases e
/-! ### tuple(x), list(x) -/
def dTup : PyData → Option PyData
  | .list ds => some (.tuple ds)
  | .tuple ds => some (.tuple ds)
  | _ => none
def bLst : PyData → Option Box
  | .list ds => some (.lst ds)
  | .tuple ds => some (.lst ds)
  | _ => none
theorem cz_tuple : CallZ X (.type "tuple") (on1 dTup) := by
  refine ⟨_, call_tuple_of, fun F vs H Q xs c S ρ Hd r h e m => ?_⟩
  obtain ⟨v, d, rfl, w, e⟩ := on1_ok r h e
  cases d with
  | list ds =>
    cases e
    obtain ⟨a, us, rfl, h1, h2⟩ := w
    exact ⟨a, us, rfl, .inl ⟨h1, fun l hl => m _ _ _ (same_upd (r.hd.free hl)) (r.newD hl (o := .tup us)) (.tup (SqT.of upd_same) (dpAll_mono (same_upd (r.hd.free hl)) h2))⟩⟩
  | tuple ds =>
    cases e
    obtain ⟨a, us, rfl, h1, h2⟩ := w
    exact ⟨a, us, rfl, .inr ⟨same_t r.hd h1, made0 m r (.tup h1 h2)⟩⟩
  | _ => cases e
theorem cz_list : CallZF X (.type "list") (on1 bLst) := by
  refine ⟨_, call_list_of, fun F vs H Q xs c S ρ Hd r h e m => ?_⟩
  obtain ⟨v, d, rfl, w, e⟩ := on1_ok r h e
  cases d with
  | list ds =>
    cases e
    obtain ⟨a, us, rfl, h1, h2⟩ := w
    exact ⟨a, us, rfl, .inl h1, fun l hl => m l _ hl ⟨l, us, rfl, upd_same, h2⟩⟩
  | tuple ds =>
    cases e
    obtain ⟨a, us, rfl, h1, h2⟩ := w
    exact ⟨a, us, rfl, .inr (same_t r.hd h1), fun l hl => m l _ hl ⟨l, us, rfl, upd_same, h2⟩⟩
  | _ => cases e
end
end Z
end
section
set_option Elab.async false
set_option linter.all false
set_option maxRecDepth 100000
set_option autoImplicit false
set_option maxHeartbeats 1000000
namespace Z
open PySem L2 PySem.Spec
/-! ### sorted -/
def isort (ns : List Int) : List Int := ns.mergeSort fun a b => decide (a ≤ b)
theorem isort_perm (ns : List Int) : (isort ns).Perm ns := List.mergeSort_perm _ _
theorem isort_pw (ns : List Int) : (isort ns).Pairwise (· ≤ ·) := by
  have h := List.pairwise_mergeSort (le := fun a b : Int => decide (a ≤ b)) (fun a b c => by simp only [decide_eq_true_eq]; omega) (fun a b => by simp only [Bool.or_eq_true, decide_eq_true_eq]; omega) ns
  exact h.imp fun h => of_decide_eq_true h
theorem isort_uniq {ns ms : List Int} (hp : ms.Perm ns) (hs : ms.Pairwise (· ≤ ·)) : ms = isort ns :=
  List.Perm.eq_of_pairwise (fun _ _ _ _ a b => Int.le_antisymm a b) hs (isort_pw ns) (hp.trans (isort_perm ns).symm)
def sle (a b : Str) : Bool := !ltCps b.cps.toList a.cps.toList
theorem sle_iff {a b : Str} : sle a b = true ↔ ¬ b.cps.toList < a.cps.toList := by
  unfold sle
  rw [PyProof.Rows.ltCps_eq]
  simp
theorem sle_trans (a b c : Str) : sle a b = true → sle b c = true → sle a c = true := by
  rw [sle_iff, sle_iff, sle_iff]
  intro h1 h2
  exact List.not_lt.mpr (List.le_trans (List.not_lt.mp h1) (List.not_lt.mp h2))
theorem sle_total (a b : Str) : (sle a b || sle b a) = true := by
  rw [Bool.or_eq_true, sle_iff, sle_iff]
  rcases List.le_total a.cps.toList b.cps.toList with h | h
  · exact .inl (List.not_lt.mpr h)
  · exact .inr (List.not_lt.mpr h)
theorem sle_anti {a b : Str} (h1 : sle a b = true) (h2 : sle b a = true) : a = b := by
  rw [sle_iff] at h1 h2
  have e : a.cps.toList = b.cps.toList := List.le_antisymm (List.not_lt.mp h1) (List.not_lt.mp h2)
  obtain ⟨⟨x⟩⟩ := a
  obtain ⟨⟨y⟩⟩ := b
  exact congrArg (fun l => Str.mk (Array.mk l)) e
def ssort (ns : List Str) : List Str := ns.mergeSort sle
theorem ssort_perm (ns : List Str) : (ssort ns).Perm ns := List.mergeSort_perm _ _
theorem ssort_pw (ns : List Str) : (ssort ns).Pairwise fun a b => sle a b = true := List.pairwise_mergeSort sle_trans sle_total ns
theorem ssort_uniq {ns ms : List Str} (hp : ms.Perm ns) (hs : ms.Pairwise fun a b => sle a b = true) : ms = ssort ns :=
  List.Perm.eq_of_pairwise (fun _ _ _ _ a b => sle_anti a b) hs (ssort_pw ns) (hp.trans (ssort_perm ns).symm)
theorem rising_pw : ∀ (ys : List Str) (p : Str), PyProof.Rows.risingS p ys = true → (p :: ys).Pairwise fun a b => sle a b = true
  | [], p, _ => by simp
  | y :: ys, p, h => by
    have h : (!ltCps y.cps.toList p.cps.toList && PyProof.Rows.risingS y ys) = true := h
    rw [Bool.and_eq_true] at h
    have ih := rising_pw ys y h.2
    rw [List.pairwise_cons] at ih ⊢
    refine ⟨fun z hz => ?_, List.pairwise_cons.mpr ih⟩
    rcases List.mem_cons.mp hz with rfl | hz
    · exact h.1
    · exact sle_trans _ _ _ h.1 (ih.1 z hz)
theorem sortedS_pw {ys : List Str} (h : PyProof.Rows.sortedS ys = true) : ys.Pairwise fun a b => sle a b = true := by
  cases ys with
  | nil => exact .nil
  | cons y ys => exact rising_pw ys y h
def keysI : List Key → Option (List Int)
  | [] => some []
  | .inl i :: r => (keysI r).map (i :: ·)
  | _ => none
def keysS : List Key → Option (List Str)
  | [] => some []
  | .inr i :: r => (keysS r).map (i :: ·)
  | _ => none
theorem keysI_map : ∀ ns : List Int, keysI (ns.map .inl) = some ns
  | [] => rfl
  | n :: ns => by rw [List.map_cons, keysI, keysI_map ns]; rfl
theorem keysS_map : ∀ ns : List Str, keysS (ns.map .inr) = some ns
  | [] => rfl
  | n :: ns => by rw [List.map_cons, keysS, keysS_map ns]; rfl
theorem keysI_of : ∀ {ks : List Key} {ns : List Int}, keysI ks = some ns → ks = ns.map .inl
  | [], _, e => by cases e; rfl
  | k :: r, ns, e => by
    cases k with
    | inl i =>
      have e : (keysI r).map (i :: ·) = some ns := e
      cases q : keysI r with
      | none => rw [q] at e; cases e
      | some ms => rw [q] at e; cases e; rw [keysI_of q]; rfl
    | inr i => cases e
theorem keysS_of : ∀ {ks : List Key} {ns : List Str}, keysS ks = some ns → ks = ns.map .inr
  | [], _, e => by cases e; rfl
  | k :: r, ns, e => by
    cases k with
    | inr i =>
      have e : (keysS r).map (i :: ·) = some ns := e
      cases q : keysS r with
      | none => rw [q] at e; cases e
      | some ms => rw [q] at e; cases e; rw [keysS_of q]; rfl
    | inl i => cases e
theorem kv_keys {κ : Type} {K : PySem.W.Frag} {H : Hp} : ∀ {us : List (κ × V)} {ks : List (κ × PyData)}, KvOk K H us ks → us.map (·.1) = ks.map (·.1)
  | _, _, .nil => rfl
  | _, _, .cons h t => by rw [List.map_cons, List.map_cons, h.1, kv_keys t]
/-- sorted of a list of ints, of a list of texts (fewer than 64), of a dict (fewer than 64 keys) -/
def srtS (S : Sto) : List Sl → Option Box
  | [x] => (match resD S x with
    | some kvs => (match keysI (kvs.map (·.1)), keysS (kvs.map (·.1)) with
      | some ns, _ => if ns.length < 64 then some (.lst ((isort ns).map .int)) else none
      | none, some ns => if ns.length < 64 then some (.lst ((ssort ns).map .str)) else none
      | none, none => none)
    | none => (match res S x with
      | some (.list ds) => (match intsOf ds, strsOf ds with
        | some ns, _ => some (.lst ((isort ns).map .int))
        | none, some ns => if ns.length < 64 then some (.lst ((ssort ns).map .str)) else none
        | none, none => none)
      | some (.tuple ds) => (match intsOf ds with
        | some ns => some (.lst ((isort ns).map .int))
        | none => none)
      | _ => none))
  | _ => none
def rSortedT (K : PySem.W.Frag) : List V → Hp → VK → Prop := fun vs H Q => ∃ (a : Addr) (ns : List Int), vs = [V.ref a] ∧ SqT K H a (ns.map V.int) ∧
  ∀ (ns' : List Int) (p : Addr), ns'.Perm ns → ns'.Pairwise (· ≤ ·) → H p = none → Q (.ref p) (upd H p (.lst (ns'.map V.int)))
theorem tup_ints {K : PySem.W.Frag} {Hd H : Hp} {v : V} {ds : List PyData} {ns : List Int} (sm : Same Hd H) (w : Vw K Hd H v (.tuple ds)) (e : intsOf ds = some ns) : ∃ a, v = .ref a ∧ SqT K H a (ns.map V.int) := by
  obtain ⟨a, us, rfl, h1, h2⟩ := w
  rw [ints_of e] at h2
  rw [dpAll_ints h2] at h1
  exact ⟨a, rfl, same_t sm h1⟩
section
variable {X : Cx}
open PyProof.Rows in
theorem cr_sortedT : CallR X (.builtin "sorted") (rSortedT X.K) := by
  intro pins s σ H vs us Q I r h
  obtain ⟨a, ns, rfl, hs, q⟩ := h
  obtain ⟨its, rv, ⟨o, ho, hc, n, hd⟩, hz⟩ := I.tuple hs
  rw [Vals.ref1 r]
  have hi := rv.ints
  have hz' : its.length ≤ sizeLine := by rw [← rv.length]; exact hz
  refine Calls.call_function_entry kind_sorted plain_sorted entry_sorted (args_sorted1 _) ?_
  unfold Builtin.«sorted»
  refine wpAny_bind (m := checkCount "sorted" 1 1 _) (wpAny_pure ?_)
  refine wpAny_bind (wpAny_collect_seq a (.inr rfl) ho hc hd (fun h' hk => ?_) (by rw [List.size_toArray]; exact hz'))
  have e : its.toArray.toList = its := by simp
  rw [e]
  refine wpAny_bind (wpAny_newList ?_ hz')
  have hoL : (h'.push (seqObj "list" its.toArray 0)).get? h'.objs.size = some (seqObj "list" its.toArray 0) := Heap.get?_push_size _ rfl
  have I1 := I.kept (t' := s.toks) hk
  refine wpAny_bind (wpAny_holding (wpAny_call_entry slot_list_sort ⟨_, hoL, rfl⟩ entry_list_sort (SrtO.list_sort_ord SrtO.swo_int hoL hz' (fun h2 => SrtO.ints_sortable hi h2) fun out h1 h2 => ⟨_, rfl, ?_⟩) (args_list_sort _)))
  refine wpAny_pure ⟨_, rfl, ?_⟩
  obtain ⟨k1, k2, k3⟩ := SrtO.ints_out hi h1 h2
  obtain ⟨ep, he'⟩ := sortedHeap_at (vs := its) (out := out.toArray) hoL
  have hlen : ((out.map SrtO.iv).map V.int).length ≤ sizeLine := by
    rw [List.length_map, k2.length_eq]
    rw [List.length_map] at hz
    exact hz
  exact ⟨.ref _, upd H h'.objs.size (.lst ((out.map SrtO.iv).map V.int)), I1.laid (t' := s.toks) (fun b u hb => by
    have hl := Heap.lt_size hb
    rw [sortedHeap_old (Nat.ne_of_lt hl) (by rw [size_push']; exact Nat.lt_succ_of_lt hl)]
    exact Heap.get?_push_of_some _ hb) (Nat.le_refl _) ⟨hlen, out, ep, vals_of_ints k1, he'⟩, rfl, q _ _ k2 k3 (I1.hok.fresh (Nat.le_refl _))⟩
theorem cz_sorted (hc : X.calm = true := by rfl) : CallZF X (.builtin "sorted") srtS := by
  refine ⟨_, CallR.or cr_sortedI (CallR.or cr_sortedS (CallR.or (call_sortedDI hc) (CallR.or (call_sortedD hc) cr_sortedT))), fun F vs H Q xs c S ρ Hd r h e m => ?_⟩
  cases h with
  | nil => cases e
  | cons hx t =>
    cases t with
    | cons _ _ => cases e
    | nil =>
      rename_i v x
      unfold srtS at e
      dsimp only at e
      split at e
      · rename_i kvs q
        obtain ⟨a, us, rfl, h1, h2⟩ := dic_of r hx q
        split at e
        · rename_i o ns q1
          split at e
          · rename_i hl
            cases e
            refine .inr (.inr (.inl ⟨a, us, ns, rfl, .inl h1, by rw [kv_keys h2]; exact keysI_of q1, hl, fun ys p hp hs np => ?_⟩))
            rw [isort_uniq hp hs]
            exact m p _ np ⟨p, _, rfl, upd_same, ints_dp _⟩
          · cases e
        · rename_i ns q0 q1
          split at e
          · rename_i hl
            cases e
            refine .inr (.inr (.inr (.inl ⟨a, us, ns, rfl, .inl h1, by rw [kv_keys h2]; exact keysS_of q1, hl, fun ys p hp hs np => ?_⟩)))
            rw [ssort_uniq hp (sortedS_pw hs)]
            exact m p _ np ⟨p, _, rfl, upd_same, strs_dp _⟩
          · cases e
        · cases e
      · split at e
        · rename_i ds q
          have w := vw_of r hx q
          split at e
          · rename_i o ns q1
            cases e
            obtain ⟨a, rfl, hs⟩ := list_ints w q1
            refine .inl ⟨a, ns, rfl, hs, fun ys p hp hs np => ?_⟩
            rw [isort_uniq hp hs]
            exact m p _ np ⟨p, _, rfl, upd_same, ints_dp _⟩
          · rename_i ns q0 q1
            split at e
            · rename_i hl
              cases e
              obtain ⟨a, rfl, hs⟩ := list_strs w q1
              refine .inr (.inl ⟨a, ns, rfl, hs, hl, fun ys p hp hs np => ?_⟩)
              rw [ssort_uniq hp (sortedS_pw hs)]
              exact m p _ np ⟨p, _, rfl, upd_same, strs_dp _⟩
            · cases e
          · cases e
        · rename_i ds q
          have w := vw_of r hx q
          split at e
          · rename_i ns q1
            cases e
            obtain ⟨a, rfl, hs⟩ := tup_ints r.hd w q1
            refine .inr (.inr (.inr (.inr ⟨a, ns, rfl, hs, fun ys p hp hs np => ?_⟩)))
            rw [isort_uniq hp hs]
            exact m p _ np ⟨p, _, rfl, upd_same, ints_dp _⟩
          · cases e
        · cases e
end
/-! ### isinstance -/
def tyN : PyData → Option String
  | .none => some "NoneType"
  | .bool _ => some "bool"
  | .int _ => some "int"
  | .str _ => some "str"
  | .list _ => some "list"
  | .tuple _ => some "tuple"
  | .dict _ => none
def isOf (T : String) (t : String) : Bool := t == T || (t == "bool" && T == "int")
def zisi (T : String) (za : ZE) : ZE := fun Γ S => (za Γ S).bind fun x S1 => match res S1 x with
  | some d => (match tyN d with
    | some t => .val (.d (.bool (isOf T t))) S1
    | none => .bad)
  | none => .bad
theorem tyX_of {K : PySem.W.Frag} {Hd H : Hp} {v : V} {d : PyData} {t : String} (s : Same Hd H) (w : Vw K Hd H v d) (e : tyN d = some t) : TyX K H v (.type t) := by
  cases d with
  | none => cases e; rw [show v = _ from w]; exact .base .non
  | bool b => cases e; rw [show v = _ from w]; exact .base (.bl b)
  | int i => cases e; rw [show v = _ from w]; exact .base (.int i)
  | str z => cases e; rw [show v = _ from w]; exact .base (.str z)
  | list ds =>
    cases e
    obtain ⟨a, us, rfl, h1, h2⟩ := w
    rcases h1 with (h | ⟨o, h⟩) | ⟨o, its, n, hk, hc, _⟩
    · exact .base (.lst h)
    · exact .base (.frz h)
    · exact .kList hk hc
  | tuple ds =>
    cases e
    obtain ⟨a, us, rfl, h1, h2⟩ := w
    rcases h1 with (h | ⟨o, h⟩) | ⟨o, its, n, hk, hc, _⟩
    · exact .base (.tup (s _ _ h))
    · exact .fTuple (s _ _ h)
    · exact .kTuple hk hc
  | dict ks => cases e
theorem kit_all {K : PySem.W.Frag} {T t : String} (hT : T = "int" ∨ T = "bool" ∨ T = "str" ∨ T = "tuple" ∨ T = "list") (ht : t = "NoneType" ∨ t = "bool" ∨ t = "int" ∨ t = "str" ∨ t = "list" ∨ t = "tuple") : PySem.W.kitOne K (.type t) (.type T) = some (isOf T t) := by
  rcases hT with rfl | rfl | rfl | rfl | rfl <;> rcases ht with rfl | rfl | rfl | rfl | rfl | rfl <;> exact kit_ty (by decide +kernel)
theorem tyN_all {d : PyData} {t : String} (e : tyN d = some t) : t = "NoneType" ∨ t = "bool" ∨ t = "int" ∨ t = "str" ∨ t = "list" ∨ t = "tuple" := by
  cases d <;> cases e <;> simp
section
variable {X : Cx} {x T : Str} {p p2 pos : Pos} {a : Expr} {za : ZE}
theorem pz_isi (T : String) {T' : Str} (hT : T = "int" ∨ T = "bool" ∨ T = "str" ∨ T = "tuple" ∨ T = "list") (ha : PZ X a za) (hm : X.mg "isinstance" = none) (hmT : X.mg T' = none) (hvT : bootBuiltins T' = some (.type T)) (hv : bootBuiltins "isinstance" = some (.builtin "isinstance") := by decide +kernel) (hg : Gl X "isinstance" := by rfl) (hgT : Gl X T' := by rfl) (hnT : T' ≠ "__name__" := by decide) (hdT : (T' == ("__debug__" : Str)) = false := by decide)
    (he : starEach [a, .Name T' p2] X.env = (false, eval a X.env) :: starEach [.Name T' p2] X.env := by rfl) (hpl : (backTo pos (starEach [.Name T' p2] X.env)).any (·.1) = false := by rfl) (h1 : starEach [.Name T' p2] X.env = (false, eval (.Name T' p2) X.env) :: starEach [] X.env := by rfl) :
    PZ X (.Call (.Name "isinstance" p) [a, .Name T' p2] [] pos) (zisi T za) := fun W tk => by
  obtain ⟨t, pa, s⟩ := ha W tk
  refine ⟨_, pe_callB call_isi hg hm hv (pa_cons pa (pa_cons (pe_bltn (v := .ty T) hgT hmT hvT rfl hnT hdT) pa_nil h1) he) (by decide) (by decide) he hpl, fun F σ H Q Γ S ρ Hd rl sl af => ?_⟩
  refine s F σ H _ Γ S ρ Hd rl sl (Aft.imp (aft_bind af) ?_)
  rintro v H1 ⟨ρ1, Hd1, x', S1, g1, r1, hx, af1⟩
  split at af1
  · rename_i d q
    split at af1
    · rename_i ty q2
      exact ⟨v, .ty T, .type ty, .type T, _, rfl, .ty T, tyX_of r1.hd (vw_of r1 hx q) q2, kit_all hT (tyN_all q2), af1 _ H1 ρ1 Hd1 .refl r1 (.bl _)⟩
    · exact False.elim af1
  · exact False.elim af1
end
end Z
end
section
set_option Elab.async false
set_option linter.all false
set_option maxRecDepth 100000
set_option autoImplicit false
set_option maxHeartbeats 1000000
namespace Z
open PySem L2
/-! ### statements: what they come to -/
inductive FS where
  | nx (Γ : Env1) (S : Sto)
  | rt (x : Sl) (S : Sto)
  | bk (Γ : Env1) (S : Sto)
  | ct (Γ : Env1) (S : Sto)
  | ex (c : Str) (Γ : Env1) (S : Sto)
  | bad
abbrev ZS := Env1 → Sto → FS
def Out.st {α : Type} (o : Out α) (Γ : Env1) (f : α → Sto → FS) : FS := match o with
  | .val a S => f a S
  | .exc c S => .ex c Γ S
  | .bad => .bad
theorem st_val {α : Type} {a : α} {S : Sto} {Γ : Env1} {f : α → Sto → FS} : (Out.val a S).st Γ f = f a S := rfl
theorem st_exc {α : Type} {c : Str} {S : Sto} {Γ : Env1} {f : α → Sto → FS} : (Out.exc c S : Out α).st Γ f = .ex c Γ S := rfl
theorem st_bad {α : Type} {Γ : Env1} {f : α → Sto → FS} : (Out.bad : Out α).st Γ f = .bad := rfl
def AftS (K : PySem.W.Frag) (F : Hp) (W : WX) (D : Ends) (ρ : Ads) (Hd : Hp) : FS → Prop
  | .nx Γ S => ∀ σ H ρ' Hd', Grow ρ Hd ρ' Hd' → Rel K F ρ' Hd' H S → Slots K ρ' Hd' σ Γ → D.nx σ H
  | .rt x S => ∀ v H ρ' Hd', Grow ρ Hd ρ' Hd' → Rel K F ρ' Hd' H S → SlIs K ρ' Hd' v x → D.rt v H
  | .bk Γ S => ∀ σ H ρ' Hd', Grow ρ Hd ρ' Hd' → Rel K F ρ' Hd' H S → Slots K ρ' Hd' σ Γ → D.bk σ H
  | .ct Γ S => ∀ σ H ρ' Hd', Grow ρ Hd ρ' Hd' → Rel K F ρ' Hd' H S → Slots K ρ' Hd' σ Γ → D.ct σ H
  | .ex c Γ S => ∀ σ H ρ' Hd', Grow ρ Hd ρ' Hd' → Rel K F ρ' Hd' H S → Slots K ρ' Hd' σ Γ → W (.ref (He.ga K c)) none σ H
  | .bad => False
theorem AftS.grow {K : PySem.W.Frag} {F : Hp} {W : WX} {D : Ends} {ρ ρ' : Ads} {Hd Hd' : Hp} (g : Grow ρ Hd ρ' Hd') : ∀ {o : FS}, AftS K F W D ρ Hd o → AftS K F W D ρ' Hd' o
  | .nx _ _, h => fun v H' ρ2 Hd2 g2 r x => h v H' ρ2 Hd2 (g.trans g2) r x
  | .rt _ _, h => fun v H' ρ2 Hd2 g2 r x => h v H' ρ2 Hd2 (g.trans g2) r x
  | .bk _ _, h => fun v H' ρ2 Hd2 g2 r x => h v H' ρ2 Hd2 (g.trans g2) r x
  | .ct _ _, h => fun v H' ρ2 Hd2 g2 r x => h v H' ρ2 Hd2 (g.trans g2) r x
  | .ex _ _ _, h => fun v H' ρ2 Hd2 g2 r x => h v H' ρ2 Hd2 (g.trans g2) r x
  | .bad, h => h
theorem aft_st {α β : Type} {K : PySem.W.Frag} {F : Hp} {W : WX} {σ : L2.St} {Γ : Env1} {rel : Ads → Hp → β → α → Prop} {D : Ends} {ρ : Ads} {Hd : Hp} {o : Out α} {f : α → Sto → FS} (sl : Slots K ρ Hd σ Γ)
    (h : AftS K F W D ρ Hd (o.st Γ f)) : Aft K F W σ rel (fun v H' => ∃ ρ' Hd' x S', Grow ρ Hd ρ' Hd' ∧ Rel K F ρ' Hd' H' S' ∧ rel ρ' Hd' v x ∧ AftS K F W D ρ' Hd' (f x S')) ρ Hd o := by
  cases o with
  | val x S => exact fun v H' ρ' Hd' g r hx => ⟨ρ', Hd', x, S, g, r, hx, AftS.grow g h⟩
  | exc c S => exact fun H' ρ' Hd' g r => h σ H' ρ' Hd' g r (sl.grow g)
  | bad => exact h
theorem aft_stF {K : PySem.W.Frag} {F : Hp} {W : WX} {σ : L2.St} {Γ : Env1} {D : Ends} {ρ : Ads} {Hd : Hp} {o : Out Box} {f : Box → Sto → FS} (sl : Slots K ρ Hd σ Γ)
    (h : AftS K F W D ρ Hd (o.st Γ f)) : AftF K F W σ (fun v H' => ∃ p ρ' Hd' b S', v = .ref p ∧ Grow ρ Hd ρ' Hd' ∧ Rel K F ρ' Hd' H' S' ∧ p ∉ ρ'.flatten ∧ F p = none ∧ Hd' p = none ∧ H' p ≠ none ∧ BoxOk K Hd' H' [p] b ∧ AftS K F W D ρ' Hd' (f b S')) ρ Hd o := by
  cases o with
  | val b S => exact fun p H' ρ' Hd' g r h1 h2 h3 h4 h5 => ⟨p, ρ', Hd', b, S, rfl, g, r, h1, h2, h3, h4, h5, AftS.grow g h⟩
  | exc c S => exact fun H' ρ' Hd' g r => h σ H' ρ' Hd' g r (sl.grow g)
  | bad => exact h
theorem AftF.imp {K : PySem.W.Frag} {F : Hp} {W : WX} {σ : L2.St} {Q Q' : VK} {ρ : Ads} {Hd : Hp} {o : Out Box} (h : AftF K F W σ Q ρ Hd o) (i : ∀ v H', Q v H' → Q' v H') : AftF K F W σ Q' ρ Hd o := by
  cases o with
  | val x S => exact fun p H' ρ' Hd' g r h1 h2 h3 h4 h5 => i _ _ (h p H' ρ' Hd' g r h1 h2 h3 h4 h5)
  | exc c S => exact h
  | bad => exact h
def SndS (K : PySem.W.Frag) (W : WX) (t : TS) (z : ZS) : Prop :=
  ∀ (F : Hp) (D : Ends) (σ : L2.St) (H : Hp) (Γ : Env1) (S : Sto) (ρ : Ads) (Hd : Hp), Rel K F ρ Hd H S → Slots K ρ Hd σ Γ → AftS K F W D ρ Hd (z Γ S) → t D σ H
def PZS (X : Cx) (st : Stmt) (z : ZS) : Prop := PassesOwn (model X.prog X.w) X.A X.env X.xe → ∀ W, Takes X W → ∃ t : TS, PS X st t ∧ SndS X.K W t z
def PZSs (X : Cx) (st : List Stmt) (z : ZS) : Prop := PassesOwn (model X.prog X.w) X.A X.env X.xe → ∀ W, Takes X W → ∃ t : TS, PSs X st t ∧ SndS X.K W t z
def FS.seq (o : FS) (f : ZS) : FS := match o with
  | .nx Γ S => f Γ S
  | .rt x S => .rt x S
  | .bk Γ S => .bk Γ S
  | .ct Γ S => .ct Γ S
  | .ex c Γ S => .ex c Γ S
  | .bad => .bad
theorem seq_nx {Γ : Env1} {S : Sto} {f : ZS} : (FS.nx Γ S).seq f = f Γ S := rfl
theorem seq_rt {x : Sl} {S : Sto} {f : ZS} : (FS.rt x S).seq f = .rt x S := rfl
theorem seq_bk {Γ : Env1} {S : Sto} {f : ZS} : (FS.bk Γ S).seq f = .bk Γ S := rfl
theorem seq_ct {Γ : Env1} {S : Sto} {f : ZS} : (FS.ct Γ S).seq f = .ct Γ S := rfl
theorem seq_ex {c : Str} {Γ : Env1} {S : Sto} {f : ZS} : (FS.ex c Γ S).seq f = .ex c Γ S := rfl
theorem seq_bad {f : ZS} : (FS.bad).seq f = .bad := rfl
def znil : ZS := fun Γ S => .nx Γ S
def zseq (z z' : ZS) : ZS := fun Γ S => (z Γ S).seq z'
def zret (z : ZE) : ZS := fun Γ S => (z Γ S).st Γ fun x S1 => .rt x S1
def zdrop (z : ZE) : ZS := fun Γ S => (z Γ S).st Γ fun _ S1 => .nx Γ S1
def zifS (zt : ZT) (z z' : ZS) : ZS := fun Γ S => (zt Γ S).st Γ fun k S1 => if k = true then z Γ S1 else z' Γ S1
def zset (i : Nat) (z : ZE) : ZS := fun Γ S => (z Γ S).st Γ fun x S1 => .nx (Γ.set i (some x)) S1
def zsetF (i : Nat) (z : ZF) : ZS := fun Γ S => (z Γ S).st Γ fun b S1 => .nx (Γ.set i (some (.box S1.length))) (S1 ++ [b])
section
variable {X : Cx} {st : Stmt} {rest : List Stmt} {a b c e : Expr} {z z' : ZS} {ze : ZE} {zf : ZF} {zt : ZT} {pos pos' : Pos}
theorem pzs_nil : PZSs X [] znil := fun _ _ _ => ⟨_, pss_nil, fun _ _ σ H _ _ ρ Hd r sl af => af σ H ρ Hd .refl r sl⟩
theorem snd_seq {W : WX} {t u : TS} (h1 : SndS X.K W t z) (h2 : SndS X.K W u z') : SndS X.K W (tSeq t u) (zseq z z') := by
  intro F D σ H Γ S ρ Hd rl sl af
  refine h1 F _ σ H Γ S ρ Hd rl sl ?_
  unfold zseq at af
  cases q : z Γ S with
  | nx Γ1 S1 =>
    rw [q] at af
    exact fun σ1 H1 ρ1 Hd1 g1 r1 s1 => h2 F D σ1 H1 Γ1 S1 ρ1 Hd1 r1 s1 (AftS.grow g1 af)
  | rt x S1 => rw [q] at af; exact af
  | bk Γ1 S1 => rw [q] at af; exact af
  | ct Γ1 S1 => rw [q] at af; exact af
  | ex c Γ1 S1 => rw [q] at af; exact af
  | bad => rw [q] at af; exact af
theorem pzs_cons (h1 : PZS X st z) (h2 : PZSs X rest z') : PZSs X (st :: rest) (zseq z z') := fun hp W tk => by
  obtain ⟨t, p, s⟩ := h1 hp W tk
  obtain ⟨t', p', s'⟩ := h2 hp W tk
  exact ⟨_, pss_cons p p', snd_seq s s'⟩
theorem pzs_one (h1 : PZS X st z) : PZSs X [st] z := fun hp W tk => let ⟨_, p, s⟩ := h1 hp W tk; ⟨_, pss_one p, s⟩
theorem pzs_pass : PZS X (.Pass pos) znil := fun _ _ _ => ⟨_, ps_pass, fun _ _ σ H _ _ ρ Hd r sl af => af σ H ρ Hd .refl r sl⟩
def zbrk : ZS := fun Γ S => .bk Γ S
def zcnt : ZS := fun Γ S => .ct Γ S
theorem pzs_brk : PZS X (.Break pos) zbrk := fun _ _ _ => ⟨_, ps_break, fun _ _ σ H _ _ ρ Hd r sl af => af σ H ρ Hd .refl r sl⟩
theorem pzs_cnt : PZS X (.Continue pos) zcnt := fun _ _ _ => ⟨_, ps_continue, fun _ _ σ H _ _ ρ Hd r sl af => af σ H ρ Hd .refl r sl⟩
theorem pzs_ret (he : PZ X e ze) : PZS X (.Return (some e) pos) (zret ze) := fun _ W tk => by
  obtain ⟨t, p, s⟩ := he W tk
  refine ⟨_, ps_ret p, fun F D σ H Γ S ρ Hd rl sl af => ?_⟩
  refine s F σ H _ Γ S ρ Hd rl sl (Aft.imp (aft_st sl af) ?_)
  rintro x H1 ⟨ρ1, Hd1, x', S1, g1, r1, hx, af1⟩
  exact af1 x H1 ρ1 Hd1 .refl r1 hx
theorem pzs_expr (he : PZ X e ze) (hs : swapsWith e none pos.line X.env = pure false := by rfl) : PZS X (.Expr e pos) (zdrop ze) := fun _ W tk => by
  obtain ⟨t, p, s⟩ := he W tk
  refine ⟨_, ps_expr p hs, fun F D σ H Γ S ρ Hd rl sl af => ?_⟩
  refine s F σ H _ Γ S ρ Hd rl sl (Aft.imp (aft_st sl af) ?_)
  rintro x H1 ⟨ρ1, Hd1, x', S1, g1, r1, hx, af1⟩
  exact af1 σ H1 ρ1 Hd1 .refl r1 (sl.grow g1)
theorem pzs_if {p q : List Stmt} (hc : PZT X c zt) (ha : PZSs X p z) (hb : PZSs X q z') : PZS X (.If c p q pos) (zifS zt z z') := fun hp W tk => by
  obtain ⟨t, pt, s⟩ := hc W tk
  obtain ⟨t1, p1, s1⟩ := ha hp W tk
  obtain ⟨t2, p2, s2⟩ := hb hp W tk
  refine ⟨_, ps_if pt p1 p2, fun F D σ H Γ S ρ Hd rl sl af => ?_⟩
  refine s F σ H _ Γ S ρ Hd rl sl (Aft.imp (aft_st sl af) ?_)
  rintro k H1 ⟨ρ1, Hd1, k', S1, g1, r1, hk, af1⟩
  have e : k = k' := hk
  subst e
  cases k with
  | true =>
    rw [if_pos rfl]
    exact s1 F D σ H1 Γ S1 ρ1 Hd1 r1 (sl.grow g1) af1
  | false =>
    rw [if_neg Bool.false_ne_true]
    exact s2 F D σ H1 Γ S1 ρ1 Hd1 r1 (sl.grow g1) af1
theorem pzs_set (i : Nat) {x : Str} (he : PZ X e ze) (hN : X.N.Nodup) (hi : X.N[i]? = some x := by rfl) (hx : Loc X.env.scope x := by first | exact .inl rfl | exact .inr rfl) (hs : swapsWith e (some (.Name x pos')) pos.line X.env = pure false := by rfl) (hf : X.fn x = true ∨ X.env.scope.names.lookup x = some .local := by first | exact .inl rfl | exact .inr rfl) :
    PZS X (.Assign [.Name x pos'] e pos) (zset i ze) := fun _ W tk => by
  obtain ⟨t, p, s⟩ := he W tk
  refine ⟨_, ps_set hN hi hx p hs hf, fun F D σ H Γ S ρ Hd rl sl af => ?_⟩
  refine s F σ H _ Γ S ρ Hd rl sl (Aft.imp (aft_st sl af) ?_)
  rintro v H1 ⟨ρ1, Hd1, x', S1, g1, r1, hx, af1⟩
  exact af1 _ H1 ρ1 Hd1 .refl r1 ((sl.grow g1).set hx)
theorem slots_box {K : PySem.W.Frag} {F : Hp} {ρ : Ads} {Hd H : Hp} {S : Sto} {σ : L2.St} {Γ : Env1} {i : Nat} {p : Addr} {b : Box} (r : Rel K F ρ Hd H S) (sl : Slots K ρ Hd σ Γ) (h1 : p ∉ ρ.flatten) (h2 : F p = none) (h3 : Hd p = none) (h4 : H p ≠ none) (h5 : BoxOk K Hd H [p] b) :
    Rel K F (ρ ++ [[p]]) Hd H (S ++ [b]) ∧ Slots K (ρ ++ [[p]]) Hd (σ.set i (some (.ref p))) (Γ.set i (some (.box S.length))) :=
  ⟨r.newB h1 h2 h3 h4 h5, (sl.grow Rel.grB).set ⟨p, [], rfl, by rw [← r.len]; simp⟩⟩
theorem pzs_setF (i : Nat) {x : Str} (he : PZF X e zf) (hN : X.N.Nodup) (hi : X.N[i]? = some x := by rfl) (hx : Loc X.env.scope x := by first | exact .inl rfl | exact .inr rfl) (hs : swapsWith e (some (.Name x pos')) pos.line X.env = pure false := by rfl) (hf : X.fn x = true ∨ X.env.scope.names.lookup x = some .local := by first | exact .inl rfl | exact .inr rfl) :
    PZS X (.Assign [.Name x pos'] e pos) (zsetF i zf) := fun _ W tk => by
  obtain ⟨t, p, s⟩ := he W tk
  refine ⟨_, ps_set hN hi hx p hs hf, fun F D σ H Γ S ρ Hd rl sl af => ?_⟩
  refine s F σ H _ Γ S ρ Hd rl sl (AftF.imp (aft_stF sl af) ?_)
  rintro v H1 ⟨p, ρ1, Hd1, b, S1, rfl, g1, r1, h1, h2, h3, h4, h5, af1⟩
  obtain ⟨r2, s2⟩ := slots_box (i := i) r1 (sl.grow g1) h1 h2 h3 h4 h5
  exact af1 _ H1 _ Hd1 Rel.grB r2 s2
end
/-! ### a list of the store becomes data -/
def zfrz (i : Nat) (z : ZS) : ZS := fun Γ S => match Γ[i]? with
  | some (some (.box n)) => (match S[n]? with
    | some (.lst ds) => z (Γ.set i (some (.d (.list ds)))) (S.set n .dead)
    | _ => .bad)
  | some (some (.d _)) => z Γ S
  | _ => .bad
section
variable {X : Cx} {st : Stmt} {sts : List Stmt} {z : ZS}
theorem set_same {α : Type} {l : List α} {i : Nat} {x : α} (h : l[i]? = some x) : l.set i x = l := by
  apply List.ext_getElem?
  intro j
  by_cases q : i = j
  · subst q
    rw [List.getElem?_set_self (List.getElem?_eq_some_iff.mp h).1, h]
  · rw [List.getElem?_set_ne q]
theorem snd_frz {W : WX} {t : TS} (i : Nat) (h : SndS X.K W t z) : SndS X.K W t (zfrz i z) := by
  intro F D σ H Γ S ρ Hd rl sl af
  unfold zfrz at af
  split at af
  · rename_i n e
    split at af
    · rename_i ds e2
      obtain ⟨v, e3, a, as, rfl, e4⟩ := sl.2 i _ e
      obtain ⟨Hd', sm, r', d⟩ := rl.freeze e2 e4
      have g : Grow ρ Hd ρ Hd' := .hd sm
      have s2 := (sl.grow g).set (i := i) (v := V.ref a) (x := .d (.list ds)) d
      rw [set_same e3] at s2
      exact h F D σ H _ _ ρ Hd' r' s2 (AftS.grow g af)
    · exact False.elim af
  · exact h F D σ H _ _ ρ Hd rl sl af
  · exact False.elim af
theorem pzs_frz (i : Nat) (h : PZSs X sts z) : PZSs X sts (zfrz i z) := fun hp W tk => let ⟨t, p, s⟩ := h hp W tk; ⟨t, p, snd_frz i s⟩
theorem pzs_frz1 (i : Nat) (h : PZS X st z) : PZS X st (zfrz i z) := fun hp W tk => let ⟨t, p, s⟩ := h hp W tk; ⟨t, p, snd_frz i s⟩
end
/-! ### targets -/
abbrev ZG := PyData → Env1 → Option Env1
def SndG (K : PySem.W.Frag) (t : TG) (g : ZG) (vs : List Nat) : Prop :=
  ∀ (F : Hp) (v : V) (σ : L2.St) (H : Hp) (Q : L2.St → Hp → Prop) (Γ Γ' : Env1) (d : PyData) (S : Sto) (ρ : Ads) (Hd : Hp), Rel K F ρ Hd H S → Slots K ρ Hd σ Γ → Dp K Hd v d → g d Γ = some Γ' →
    (∀ σ', Slots K ρ Hd σ' Γ' → σ'.length = σ.length → (∀ j, j ∉ vs → σ'[j]? = σ[j]?) → Q σ' H) → t v σ H Q
def PZG (X : Cx) (tg : Expr) (g : ZG) (vs : List Nat) : Prop := ∃ t : TG, PG X tg t ∧ SndG X.K t g vs
def gN (i : Nat) : ZG := fun d Γ => some (Γ.set i (some (.d d)))
def gT2 (g g' : ZG) : ZG := fun d Γ => match d with
  | .tuple [a, b] => (g a Γ).bind fun Γ1 => g' b Γ1
  | _ => none
def gT3 (g g' g2 : ZG) : ZG := fun d Γ => match d with
  | .tuple [a, b, c] => (g a Γ).bind fun Γ1 => (g' b Γ1).bind fun Γ2 => g2 c Γ2
  | _ => none
section
variable {X : Cx} {e1 e2 e3 : Expr} {g g' g2 : ZG} {v1 v2 v3 : List Nat} {pos : Pos}
theorem pzg_n (i : Nat) {x : Str} (hN : X.N.Nodup) (hi : X.N[i]? = some x := by rfl) (hx : Loc X.env.scope x := by first | exact .inl rfl | exact .inr rfl) (hf : X.fn x = true ∨ X.env.scope.names.lookup x = some .local := by first | exact .inl rfl | exact .inr rfl) : PZG X (.Name x pos) (gN i) [i] := by
  refine ⟨_, pg_name hN hi hx hf, fun F v σ H Q Γ Γ' d S ρ Hd r sl hd e k => ?_⟩
  cases e
  exact k _ (sl.set hd) (List.length_set) fun j hj => List.getElem?_set_ne (fun z => hj (by rw [z]; simp))
theorem pzg_t2 {k : Nat} (h1 : PZG X e1 g v1) (h2 : PZG X e2 g' v2) (hc : X.calm = true := by rfl) (hs : (assignEach [e1, e2] X.env).map (·.2) = assign e1 X.env :: (assignEach [e2] X.env).map (·.2) := by rfl) (hs2 : (assignEach [e2] X.env).map (·.2) = assign e2 X.env :: (assignEach [] X.env).map (·.2) := by rfl)
    (hn : (assignEach [e1, e2] X.env).length = 2 := by rfl) (hst : (assignEach [e1, e2] X.env).findIdx? (·.1) = none := by rfl) : PZG X (.Tuple [e1, e2] k pos) (gT2 g g') (v1 ++ v2) := by
  obtain ⟨t1, p1, s1⟩ := h1
  obtain ⟨t2, p2, s2⟩ := h2
  refine ⟨_, pg_tup hc (pgs_cons p1 (pgs_cons p2 pgs_nil hs2) hs) hn hst, fun F v σ H Q Γ Γ' d S ρ Hd r sl hd e q => ?_⟩
  unfold gT2 at e
  split at e
  · rename_i a b
    cases hd with
    | tup hs ha =>
      cases ha with
      | cons ha hb =>
        cases hb with
        | cons hb hn =>
          cases hn
          cases q1 : g a Γ with
          | none => rw [q1] at e; cases e
          | some Γ1 =>
            rw [q1] at e
            refine ⟨_, _, rfl, same_t r.hd hs, rfl, _, _, rfl, s1 F _ σ H _ Γ Γ1 a S ρ Hd r sl ha q1 fun σ1 sl1 l1 k1 => ?_⟩
            refine ⟨_, _, rfl, s2 F _ σ1 H _ Γ1 Γ' b S ρ Hd r sl1 hb e fun σ2 sl2 l2 k2 => ⟨rfl, ?_⟩⟩
            exact q σ2 sl2 (l2.trans l1) fun j hj => (k2 j fun z => hj (List.mem_append_right _ z)).trans (k1 j fun z => hj (List.mem_append_left _ z))
  · cases e
theorem pzg_t3 {k : Nat} (h1 : PZG X e1 g v1) (h2 : PZG X e2 g' v2) (h3 : PZG X e3 g2 v3) (hc : X.calm = true := by rfl) (hs : (assignEach [e1, e2, e3] X.env).map (·.2) = assign e1 X.env :: (assignEach [e2, e3] X.env).map (·.2) := by rfl) (hs2 : (assignEach [e2, e3] X.env).map (·.2) = assign e2 X.env :: (assignEach [e3] X.env).map (·.2) := by rfl)
    (hs3 : (assignEach [e3] X.env).map (·.2) = assign e3 X.env :: (assignEach [] X.env).map (·.2) := by rfl) (hn : (assignEach [e1, e2, e3] X.env).length = 3 := by rfl) (hst : (assignEach [e1, e2, e3] X.env).findIdx? (·.1) = none := by rfl) : PZG X (.Tuple [e1, e2, e3] k pos) (gT3 g g' g2) (v1 ++ (v2 ++ v3)) := by
  obtain ⟨t1, p1, s1⟩ := h1
  obtain ⟨t2, p2, s2⟩ := h2
  obtain ⟨t3, p3, s3⟩ := h3
  refine ⟨_, pg_tup hc (pgs_cons p1 (pgs_cons p2 (pgs_cons p3 pgs_nil hs3) hs2) hs) hn hst, fun F v σ H Q Γ Γ' d S ρ Hd r sl hd e q => ?_⟩
  unfold gT3 at e
  split at e
  · rename_i a b c
    cases hd with
    | tup hs ha =>
      cases ha with
      | cons ha hb =>
        cases hb with
        | cons hb hn =>
          cases hn with
          | cons hcc hn =>
            cases hn
            cases q1 : g a Γ with
            | none => rw [q1] at e; cases e
            | some Γ1 =>
              rw [q1] at e
              have e : (g' b Γ1).bind (fun Γ2 => g2 c Γ2) = some Γ' := e
              cases q2 : g' b Γ1 with
              | none => rw [q2] at e; cases e
              | some Γ2 =>
                rw [q2] at e
                refine ⟨_, _, rfl, same_t r.hd hs, rfl, _, _, rfl, s1 F _ σ H _ Γ Γ1 a S ρ Hd r sl ha q1 fun σ1 sl1 l1 k1 => ?_⟩
                refine ⟨_, _, rfl, s2 F _ σ1 H _ Γ1 Γ2 b S ρ Hd r sl1 hb q2 fun σ2 sl2 l2 k2 => ?_⟩
                refine ⟨_, _, rfl, s3 F _ σ2 H _ Γ2 Γ' c S ρ Hd r sl2 hcc e fun σ3 sl3 l3 k3 => ⟨rfl, ?_⟩⟩
                exact q σ3 sl3 (l3.trans (l2.trans l1)) fun j hj => (k3 j fun z => hj (List.mem_append_right _ (List.mem_append_right _ z))).trans ((k2 j fun z => hj (List.mem_append_right _ (List.mem_append_left _ z))).trans (k1 j fun z => hj (List.mem_append_left _ z)))
  · cases e
end
/-- target = value that is data -/
def zasg (g : ZG) (z : ZE) : ZS := fun Γ S => (z Γ S).st Γ fun x S1 => match x with
  | .d d => (match g d Γ with
    | some Γ' => .nx Γ' S1
    | none => .bad)
  | _ => .bad
section
variable {X : Cx} {tg e : Expr} {ze : ZE} {g : ZG} {vs : List Nat} {pos : Pos}
theorem pzs_asg (he : PZ X e ze) (hg : PZG X tg g vs) (hs : swapsWithSole [tg] e pos.line X.env = pure false := by rfl) (hw : swappedStores [tg] e X.env = pure none := by rfl) (h1 : (assignEach [tg] X.env).map (·.2) = [assign tg X.env] := by rfl) : PZS X (.Assign [tg] e pos) (zasg g ze) := fun _ W tk => by
  obtain ⟨t, p, s⟩ := he W tk
  obtain ⟨tg, pg, sg⟩ := hg
  refine ⟨_, ps_asg p pg hs hw h1, fun F D σ H Γ S ρ Hd rl sl af => ?_⟩
  refine s F σ H _ Γ S ρ Hd rl sl (Aft.imp (aft_st sl af) ?_)
  rintro v H1 ⟨ρ1, Hd1, x', S1, g1, r1, hx, af1⟩
  cases x' with
  | d d =>
    have af1 : AftS X.K F W D ρ1 Hd1 (match g d Γ with | some Γ' => .nx Γ' S1 | none => .bad) := af1
    split at af1
    · rename_i Γ' e
      exact sg F v σ H1 _ Γ Γ' d S1 ρ1 Hd1 r1 (sl.grow g1) hx e fun σ' sl' _ _ => af1 σ' H1 ρ1 Hd1 .refl r1 sl'
    · exact False.elim af1
  | _ => exact False.elim af1
end
/-! ### a, b = x, y: plain names, stored one by one -/
def zpar (i j : Nat) (za : ZA) : ZS := fun Γ S => (za Γ S).st Γ fun xs S1 => match xs with
  | [x, y] => .nx ((Γ.set i (some x)).set j (some y)) S1
  | _ => .bad
def zpar3 (i j l : Nat) (za : ZA) : ZS := fun Γ S => (za Γ S).st Γ fun xs S1 => match xs with
  | [x, y, w] => .nx (((Γ.set i (some x)).set j (some y)).set l (some w)) S1
  | _ => .bad
section
variable {X : Cx} {a b c : Expr} {za : ZA} {pos : Pos}
theorem pzs_par (i j : Nat) {x y : Str} {px py pt : Pos} {kt k2 : Nat} {pt2 : Pos} (ha : PZA X [a, b] za) (hN : X.N.Nodup) (hc : X.calm = true := by rfl) (hi : X.N[i]? = some x := by rfl) (hj : X.N[j]? = some y := by rfl) (hij : i ≠ j := by decide)
    (hx : X.env.scope.names.lookup x = some .local := by rfl) (hy : X.env.scope.names.lookup y = some .local := by rfl)
    (hw : swappedStores [.Tuple [.Name x px, .Name y py] kt pt] (.Tuple [a, b] k2 pt2) X.env = pure (some [x, y]) := by rfl)
    (hs : swapsWithSole [.Tuple [.Name x px, .Name y py] kt pt] (.Tuple [a, b] k2 pt2) pos.line X.env = pure false := by rfl) :
    PZS X (.Assign [.Tuple [.Name x px, .Name y py] kt pt] (.Tuple [a, b] k2 pt2) pos) (zpar i j za) := fun _ W tk => by
  obtain ⟨t, p, s⟩ := ha W tk
  refine ⟨_, ps_par hc hN hi hj hij hx hy p hw hs, fun F D σ H Γ S ρ Hd rl sl af => ?_⟩
  refine s F σ H _ Γ S ρ Hd rl sl (Aft.imp (aft_st sl af) ?_)
  rintro vs H1 ⟨ρ1, Hd1, xs, S1, g1, r1, hx, af1⟩
  split at af1
  · cases hx with
    | cons h1 t1 =>
      cases t1 with
      | cons h2 t2 =>
        cases t2
        exact ⟨_, _, rfl, af1 _ H1 ρ1 Hd1 .refl r1 (((sl.grow g1).set h1).set h2)⟩
  · exact False.elim af1
end
/-! ### dict stores -/
def zdput (zd zk zv : ZE) : ZS := fun Γ S => (zv Γ S).st Γ fun v S1 => (zd Γ S1).st Γ fun x S2 => (zk Γ S2).st Γ fun y S3 => match v, keySl y with
  | .d d, some k => (match putS S3 x k d with
    | some S4 => .nx Γ S4
    | none => .bad)
  | _, _ => .bad
section
variable {X : Cx} {o i value : Expr} {zd zk zv : ZE} {pos pos' : Pos}
theorem pzs_dput (hu : X.A.units + 1 < cLine) (ho : PZ X o zd) (hi : PZ X i zk) (hv : PZ X value zv) (hs : swapsWith value (some (.Subscript o i pos')) pos.line X.env = pure false := by rfl) : PZS X (.Assign [.Subscript o i pos'] value pos) (zdput zd zk zv) := fun _ W tk => by
  obtain ⟨t, p, s⟩ := ho W tk
  obtain ⟨t1, p1, s1⟩ := hi W tk
  obtain ⟨t2, p2, s2⟩ := hv W tk
  refine ⟨_, ps_dput hu p p1 p2 hs, fun F D σ H Γ S ρ Hd rl sl af => ?_⟩
  refine s2 F σ H _ Γ S ρ Hd rl sl (Aft.imp (aft_st sl af) ?_)
  rintro v H1 ⟨ρ1, Hd1, v', S1, g1, r1, hv, af1⟩
  refine s F σ H1 _ Γ S1 ρ1 Hd1 r1 (sl.grow g1) (Aft.imp (aft_st (sl.grow g1) af1) ?_)
  rintro x H2 ⟨ρ2, Hd2, x', S2, g2, r2, hx, af2⟩
  refine s1 F σ H2 _ Γ S2 ρ2 Hd2 r2 ((sl.grow g1).grow g2) (Aft.imp (aft_st ((sl.grow g1).grow g2) af2) ?_)
  rintro y H3 ⟨ρ3, Hd3, y', S3, g3, r3, hy, af3⟩
  split at af3
  · rename_i d k e1
    split at af3
    · rename_i S4 e2
      have hd : Dp X.K Hd3 v d := dp_mono (g2.trans g3).h hv
      obtain ⟨a, H4, rfl, dp, r4⟩ := put_of r3 (hx.grow g3) hd e2
      rw [← key_of hy e1] at dp
      exact ⟨a, H4, rfl, dp, af3 σ H4 ρ3 Hd3 .refl r4 (((sl.grow g1).grow g2).grow g3)⟩
    · exact False.elim af3
  · exact False.elim af3
end
/-! ### lists: append, extend, pop, xs[i] = v -/
def lstAt (S : Sto) : Sl → Option (Nat × List PyData)
  | .box n => (match S[n]? with
    | some (.lst ds) => some (n, ds)
    | _ => none)
  | _ => none
theorem lst_of {K : PySem.W.Frag} {F : Hp} {ρ : Ads} {Hd H : Hp} {S : Sto} {v : V} {x : Sl} {n : Nat} {ds : List PyData} (r : Rel K F ρ Hd H S) (h : SlIs K ρ Hd v x) (e : lstAt S x = some (n, ds)) :
    ∃ a vs, v = .ref a ∧ H a = some (.lst vs) ∧ DpAll K Hd vs ds ∧ ∀ vs' ds', DpAll K Hd vs' ds' → Rel K F ρ Hd (upd H a (.lst vs')) (S.set n (.lst ds')) := by
  cases x with
  | box m =>
    obtain ⟨a, as, rfl, h2⟩ := h
    unfold lstAt at e
    dsimp only at e
    split at e
    · rename_i ks h1
      cases e
      obtain ⟨_, a', us, e1, hv, hks⟩ := r.box _ _ _ h1 h2 (by simp)
      obtain ⟨e2, e3⟩ := List.cons.inj e1
      subst e2
      exact ⟨a, us, rfl, hv, hks, fun vs' ds' hd => r.write h1 h2 (by simp) (by simp) ⟨a, vs', e1, upd_same, hd⟩⟩
    · cases e
  | _ => cases e
def zapp (zo za : ZE) : ZE := fun Γ S => (zo Γ S).bind fun x S1 => match lstAt S1 x with
  | some _ => (za Γ S1).bind fun y S2 => (match y, lstAt S2 x with
    | .d d, some (n, ds) => if ds.length < lim then .val (.d .none) (S2.set n (.lst (ds ++ [d]))) else .bad
    | _, _ => .bad)
  | none => .bad
section
variable {X : Cx} {o e : Expr} {zo za : ZE} {apos cpos : Pos}
theorem pz_app (ho : PZ X o zo) (ha : PZ X e za) (hbase : attributeBase o "append" X.env (eval o X.env) = eval o X.env := by rfl)
    (hfew : ((backTo cpos (starEach [e] X.env)).all (fun x => !x.1) && (backToKw cpos (keywordEach [] X.env)).all (fun x => x.1.isSome)
      && decide (([e] : List Expr).length + ([] : List Keyword).length + (if ([] : List Keyword).isEmpty then 0 else 1) < 30)) = true := by rfl)
    (hline : (apos.endLine == cpos.line) = true := by rfl) (hs : starEach [e] X.env = (false, eval e X.env) :: starEach [] X.env := by rfl) (hplain : (backTo cpos (starEach [] X.env)).any (·.1) = false := by rfl) :
    PZ X (.Call (.Attribute o "append" apos) [e] [] cpos) (zapp zo za) := fun W tk => by
  obtain ⟨t, p, s⟩ := ho W tk
  obtain ⟨t1, p1, s1⟩ := ha W tk
  refine ⟨_, pe_bm PySem.F.plainAttrs_list PySem.F.slot_list_append PySem.F.type_list_append mt_append p (pa_cons p1 pa_nil hs) hbase hfew hline hs hplain, fun F σ H Q Γ S ρ Hd rl sl af => ?_⟩
  refine s F σ H _ Γ S ρ Hd rl sl (Aft.imp (aft_bind af) ?_)
  rintro x H1 ⟨ρ1, Hd1, x', S1, g1, r1, hx, af1⟩
  split at af1
  · rename_i nd q0
    obtain ⟨n0, ds0⟩ := nd
    obtain ⟨a, vs, rfl, h1, h2, _⟩ := lst_of r1 hx q0
    refine ⟨.inl ⟨rfl, vs, SqL.of h1⟩, ?_⟩
    refine s1 F σ H1 _ Γ S1 ρ1 Hd1 r1 (sl.grow g1) (Aft.imp (aft_bind af1) ?_)
    rintro y H2 ⟨ρ2, Hd2, y', S2, g2, r2, hy, af2⟩
    split at af2
    · rename_i d n ds q1
      split at af2
      · rename_i hl
        obtain ⟨a', vs', ea, h1', h2', h3'⟩ := lst_of r2 (hx.grow g2) q1
        cases ea
        exact ⟨a, vs', y, rfl, rfl, h1', by rw [dpAll_len h2']; exact lim_lt (Nat.le_of_lt hl), af2 .non _ ρ2 Hd2 .refl (h3' _ _ (dpAll_app h2' (.cons hy .nil))) .non⟩
      · exact False.elim af2
    · exact False.elim af2
  · exact False.elim af1
end
end Z
end
section
set_option Elab.async false
set_option linter.all false
set_option maxRecDepth 100000
set_option autoImplicit false
set_option maxHeartbeats 1000000
namespace Z
open PySem L2 RZ
/-! ### what is walked -/
def Walks (K : PySem.W.Frag) (J : It) (Hd : Hp) (ds : List PyData) : Prop := ∀ H, Same Hd H → (∀ i, ds.length ≤ i → J.stop i H) ∧
  ∀ i d, ds[i]? = some d → J.go i H ∧ ∀ x H', J.yld i H x H' → (H' = H ∧ Dp K Hd x d) ∨ ∃ T xs es, x = V.ref T ∧ H T = none ∧ H' = upd H T (.tup xs) ∧ d = .tuple es ∧ DpAll K Hd xs es
def wkR (K : PySem.W.Frag) : Ads → Hp → It → List PyData → Prop := fun _ Hd J ds => Walks K J Hd ds
def PZI (X : Cx) (tg iter : Expr) (z : ZI) : Prop := ∀ W, Takes X W → ∃ t : TI, PI X tg iter t ∧ Snd X.K W (wkR X.K) t z
theorem dpAll_none {K : PySem.W.Frag} {H : Hp} {vs : List V} {ds : List PyData} {i : Nat} {v : V} {d : PyData} (h : DpAll K H vs ds) (e : ds[i]? = some d) (e' : vs[i]? = some v) : Dp K H v d := by
  obtain ⟨u, h1, h2⟩ := dpAll_get h e
  rw [h1] at e'
  cases e'
  exact h2
theorem walk_list {K : PySem.W.Frag} {Hd : Hp} {a : Addr} {vs : List V} {ds : List PyData} (h : SqL K Hd a vs) (hd : DpAll K Hd vs ds) : Walks K (Itl K a) Hd ds := fun H s =>
  ⟨fun i hi => ⟨vs, s.seq h, by rw [dpAll_len hd]; exact hi⟩, fun i d e => by
    obtain ⟨v, e1, e2⟩ := dpAll_get hd e
    refine ⟨⟨vs, v, s.seq h, e1⟩, fun x H' ⟨h1, h2⟩ => .inl ⟨h1, ?_⟩⟩
    have e3 := h2 vs (s.seq h)
    rw [e1] at e3
    cases e3
    exact e2⟩
theorem walk_tup {K : PySem.W.Frag} {Hd : Hp} {a : Addr} {vs : List V} {ds : List PyData} (h : SqT K Hd a vs) (hd : DpAll K Hd vs ds) : Walks K (Itt K a) Hd ds := fun H s =>
  ⟨fun i hi => ⟨vs, same_t s h, by rw [dpAll_len hd]; exact hi⟩, fun i d e => by
    obtain ⟨v, e1, e2⟩ := dpAll_get hd e
    refine ⟨⟨vs, v, same_t s h, e1⟩, fun x H' ⟨h1, h2⟩ => .inl ⟨h1, ?_⟩⟩
    have e3 := h2 vs (same_t s h)
    rw [e1] at e3
    cases e3
    exact e2⟩
def rngL (lo : Int) (n : Nat) : List PyData := (List.range n).map fun (i : Nat) => .int (lo + i)
theorem walk_rng {K : PySem.W.Frag} {Hd : Hp} (lo : Int) (n : Nat) : Walks K (Itr lo n) Hd (rngL lo n) := fun H s =>
  ⟨fun i hi => by
    have hi : n ≤ i := by simpa [rngL] using hi
    exact hi, fun i d e => by
    have hi : i < n := by
      have := (List.getElem?_eq_some_iff.mp e).1
      simpa [rngL] using this
    have ed : d = .int (lo + i) := by
      unfold rngL at e
      rw [List.getElem?_map, List.getElem?_range hi] at e
      exact (Option.some.inj e).symm
    refine ⟨hi, fun x H' ⟨h1, h2⟩ => .inl ⟨h1, ?_⟩⟩
    rw [h2, ed]
    exact .int _⟩
def zipD (a b : List PyData) : List PyData := List.zipWith (fun x y => .tuple [x, y]) a b
theorem zip_get {a b : List PyData} {i : Nat} {d : PyData} (e : (zipD a b)[i]? = some d) : ∃ x y, a[i]? = some x ∧ b[i]? = some y ∧ d = .tuple [x, y] := by
  unfold zipD at e
  rw [List.getElem?_zipWith] at e
  cases h1 : a[i]? with
  | none => rw [h1] at e; cases e
  | some x =>
    cases h2 : b[i]? with
    | none => rw [h1, h2] at e; cases e
    | some y => rw [h1, h2] at e; exact ⟨x, y, rfl, rfl, (Option.some.inj e).symm⟩
theorem walk_zip {K : PySem.W.Frag} {Hd : Hp} {a b : Addr} {vs us : List V} {ds es : List PyData} (h : SqL K Hd a vs) (hd : DpAll K Hd vs ds) (h' : SqL K Hd b us) (hd' : DpAll K Hd us es) : Walks K (Itz K a b) Hd (zipD ds es) := fun H s =>
  ⟨fun i hi => by
    refine ⟨vs, us, s.seq h, s.seq h', ?_⟩
    unfold zipD at hi
    rw [List.length_zipWith] at hi
    rw [dpAll_len hd, dpAll_len hd']
    omega, fun i d e => by
    obtain ⟨x, y, e1, e2, rfl⟩ := zip_get e
    obtain ⟨v, f1, f2⟩ := dpAll_get hd e1
    obtain ⟨u, f3, f4⟩ := dpAll_get hd' e2
    refine ⟨⟨vs, us, v, u, s.seq h, s.seq h', f1, f3⟩, fun w H' ⟨T, x1, y1, h1, h2, h3, h4, h5⟩ => .inr ⟨T, [x1, y1], [x, y], h1, h2, h3, rfl, ?_⟩⟩
    have q1 := h4 vs (s.seq h)
    have q2 := h5 us (s.seq h')
    rw [f1] at q1
    rw [f3] at q2
    cases q1
    cases q2
    exact .cons f2 (.cons f4 .nil)⟩
theorem walk_zipT {K : PySem.W.Frag} {Hd : Hp} {a b : Addr} {vs us : List V} {ds es : List PyData} (h : SqT K Hd a vs) (hd : DpAll K Hd vs ds) (h' : SqT K Hd b us) (hd' : DpAll K Hd us es) : Walks K (ItzT K a b) Hd (zipD ds es) := fun H s =>
  ⟨fun i hi => by
    refine ⟨vs, us, same_t s h, same_t s h', ?_⟩
    unfold zipD at hi
    rw [List.length_zipWith] at hi
    rw [dpAll_len hd, dpAll_len hd']
    omega, fun i d e => by
    obtain ⟨x, y, e1, e2, rfl⟩ := zip_get e
    obtain ⟨v, f1, f2⟩ := dpAll_get hd e1
    obtain ⟨u, f3, f4⟩ := dpAll_get hd' e2
    refine ⟨⟨vs, us, v, u, same_t s h, same_t s h', f1, f3⟩, fun w H' ⟨T, x1, y1, h1, h2, h3, h4, h5⟩ => .inr ⟨T, [x1, y1], [x, y], h1, h2, h3, rfl, ?_⟩⟩
    have q1 := h4 vs (same_t s h)
    have q2 := h5 us (same_t s h')
    rw [f1] at q1
    rw [f3] at q2
    cases q1
    cases q2
    exact .cons f2 (.cons f4 .nil)⟩
def enumD (ds : List PyData) : List PyData := ds.mapIdx fun i d => .tuple [.int (i : Nat), d]
theorem walk_enum {K : PySem.W.Frag} {Hd : Hp} {a : Addr} {vs : List V} {ds : List PyData} (h : SqL K Hd a vs) (hd : DpAll K Hd vs ds) : Walks K (Ite K a) Hd (enumD ds) := fun H s =>
  ⟨fun i hi => ⟨vs, s.seq h, by rw [dpAll_len hd]; simpa [enumD] using hi⟩, fun i d e => by
    unfold enumD at e
    rw [List.getElem?_mapIdx] at e
    cases q : ds[i]? with
    | none => rw [q] at e; cases e
    | some d' =>
      rw [q] at e
      cases e
      obtain ⟨v, e1, e2⟩ := dpAll_get hd q
      refine ⟨⟨vs, v, s.seq h, e1⟩, fun x H' ⟨T, y, h1, h2, h3, h4⟩ => .inr ⟨T, _, [.int (i : Nat), d'], h1, h2, h3, rfl, ?_⟩⟩
      have e3 := h4 vs (s.seq h)
      rw [e1] at e3
      cases e3
      exact .cons (.int _) (.cons e2 .nil)⟩
/-! ### iterables -/
def itemsL : Sl → Option (List PyData)
  | .d (.list ds) => some ds
  | _ => none
def itemsT : Sl → Option (List PyData)
  | .d (.tuple ds) => some ds
  | _ => none
def ziL (z : ZE) : ZI := fun Γ S => (z Γ S).bind fun x S1 => ofOpt (itemsL x) S1
def ziT (z : ZE) : ZI := fun Γ S => (z Γ S).bind fun x S1 => ofOpt (itemsT x) S1
def rng1 : List Sl → Option (List PyData)
  | [.d (.int j)] => if j.natAbs < 1000000 then some (rngL 0 j.toNat) else none
  | _ => none
def rng2 : List Sl → Option (List PyData)
  | [.d (.int i), .d (.int j)] => if i.natAbs < 1000000 ∧ j.natAbs < 1000000 then some (rngL i (j - i).toNat) else none
  | _ => none
def ziA (f : List Sl → Option (List PyData)) (za : ZA) : ZI := fun Γ S => (za Γ S).bind fun xs S1 => ofOpt (f xs) S1
def zipOf : List Sl → Option (List PyData)
  | [.d (.list a), .d (.list b)] => some (zipD a b)
  | [.d (.tuple a), .d (.tuple b)] => some (zipD a b)
  | _ => none
def enumOf : List Sl → Option (List PyData)
  | [.d (.list a)] => some (enumD a)
  | _ => none
section
variable {X : Cx} {tg e e2 : Expr} {ze : ZE} {zs : ZA} {p pos : Pos}
theorem pzi_L (he : PZ X e ze) : PZI X tg e (ziL ze) := fun W tk => by
  obtain ⟨t, p, s⟩ := he W tk
  refine ⟨_, pi_list p, fun F σ H Q Γ S ρ Hd rl sl af => ?_⟩
  refine s F σ H _ Γ S ρ Hd rl sl (Aft.imp (aft_bind af) ?_)
  rintro x H1 ⟨ρ1, Hd1, x', S1, g1, r1, hx, af1⟩
  cases q : itemsL x' with
  | none => rw [q] at af1; exact False.elim af1
  | some ds =>
    rw [q] at af1
    unfold itemsL at q
    split at q
    · cases q
      cases hx with
      | lst hs hd => exact ⟨_, rfl, ⟨_, r1.hd.seq hs⟩, af1 _ H1 ρ1 Hd1 .refl r1 (walk_list hs hd)⟩
    · cases q
theorem pzi_T (he : PZ X e ze) : PZI X tg e (ziT ze) := fun W tk => by
  obtain ⟨t, p, s⟩ := he W tk
  refine ⟨_, pi_tup p, fun F σ H Q Γ S ρ Hd rl sl af => ?_⟩
  refine s F σ H _ Γ S ρ Hd rl sl (Aft.imp (aft_bind af) ?_)
  rintro x H1 ⟨ρ1, Hd1, x', S1, g1, r1, hx, af1⟩
  cases q : itemsT x' with
  | none => rw [q] at af1; exact False.elim af1
  | some ds =>
    rw [q] at af1
    unfold itemsT at q
    split at q
    · cases q
      cases hx with
      | tup hs hd => exact ⟨_, rfl, ⟨_, same_t r1.hd hs⟩, af1 _ H1 ρ1 Hd1 .refl r1 (walk_tup hs hd)⟩
    · cases q
theorem pzi_R1 (ha : PZA X [e] zs) (hm : X.mg "range" = none) (hg : Gl X "range" := by rfl) (hs : starEach [e] X.env = [(false, eval e X.env)] := by rfl) : PZI X tg (.Call (.Name "range" p) [e] [] pos) (ziA rng1 zs) := fun W tk => by
  obtain ⟨t, p, s⟩ := ha W tk
  refine ⟨_, pi_range1 hg hm p hs, fun F σ H Q Γ S ρ Hd rl sl af => ?_⟩
  refine s F σ H _ Γ S ρ Hd rl sl (Aft.imp (aft_bind af) ?_)
  rintro vs H1 ⟨ρ1, Hd1, xs, S1, g1, r1, hx, af1⟩
  cases q : rng1 xs with
  | none => rw [q] at af1; exact False.elim af1
  | some ds =>
    rw [q] at af1
    unfold rng1 at q
    split at q
    · rename_i j
      split at q
      · rename_i hj
        cases q
        cases hx with
        | cons h1 t1 =>
          cases t1
          cases h1
          exact ⟨j, rfl, by omega, by omega, af1 _ H1 ρ1 Hd1 .refl r1 (walk_rng 0 j.toNat)⟩
      · cases q
    · cases q
theorem pzi_R2 (ha : PZA X [e, e2] zs) (hm : X.mg "range" = none) (hg : Gl X "range" := by rfl) (hs : starEach [e, e2] X.env = [(false, eval e X.env), (false, eval e2 X.env)] := by rfl) (hs2 : starEach [e2] X.env = [(false, eval e2 X.env)] := by rfl) : PZI X tg (.Call (.Name "range" p) [e, e2] [] pos) (ziA rng2 zs) := fun W tk => by
  obtain ⟨t, p, s⟩ := ha W tk
  refine ⟨_, pi_range2 hg hm p hs hs2, fun F σ H Q Γ S ρ Hd rl sl af => ?_⟩
  refine s F σ H _ Γ S ρ Hd rl sl (Aft.imp (aft_bind af) ?_)
  rintro vs H1 ⟨ρ1, Hd1, xs, S1, g1, r1, hx, af1⟩
  cases q : rng2 xs with
  | none => rw [q] at af1; exact False.elim af1
  | some ds =>
    rw [q] at af1
    unfold rng2 at q
    split at q
    · rename_i i j
      split at q
      · rename_i hj
        cases q
        cases hx with
        | cons h1 t1 =>
          cases t1 with
          | cons h2 t2 =>
            cases t2
            cases h1
            cases h2
            exact ⟨i, j, rfl, ⟨by omega, by omega, by omega, by omega⟩, af1 _ H1 ρ1 Hd1 .refl r1 (walk_rng i (j - i).toNat)⟩
      · cases q
    · cases q
theorem pzi_Z {elts : List Expr} {kk : Nat} {tpos : Pos} (ha : PZA X [e, e2] zs) (hm : X.mg "zip" = none) (hg : Gl X "zip" := by rfl) (hs : starEach [e, e2] X.env = (false, eval e X.env) :: starEach [e2] X.env := by rfl) (hpl : (backTo pos (starEach [e2] X.env)).any (·.1) = false := by rfl) :
    PZI X (.Tuple elts kk tpos) (.Call (.Name "zip" p) [e, e2] [] pos) (ziA zipOf zs) := fun W tk => by
  obtain ⟨t, p, s⟩ := ha W tk
  refine ⟨_, pi_zipA hg hm p hs hpl, fun F σ H Q Γ S ρ Hd rl sl af => ?_⟩
  refine s F σ H _ Γ S ρ Hd rl sl (Aft.imp (aft_bind af) ?_)
  rintro vs H1 ⟨ρ1, Hd1, xs, S1, g1, r1, hx, af1⟩
  cases q : zipOf xs with
  | none => rw [q] at af1; exact False.elim af1
  | some ds =>
    rw [q] at af1
    unfold zipOf at q
    split at q
    · cases q
      cases hx with
      | cons h1 t1 =>
        cases t1 with
        | cons h2 t2 =>
          cases t2
          cases h1 with
          | lst s1 d1 =>
            cases h2 with
            | lst s2 d2 => exact ⟨_, _, _, _, rfl, .inl ⟨r1.hd.seq s1, r1.hd.seq s2, af1 _ H1 ρ1 Hd1 .refl r1 (walk_zip s1 d1 s2 d2)⟩⟩
    · cases q
      cases hx with
      | cons h1 t1 =>
        cases t1 with
        | cons h2 t2 =>
          cases t2
          cases h1 with
          | tup s1 d1 =>
            cases h2 with
            | tup s2 d2 => exact ⟨_, _, _, _, rfl, .inr ⟨same_t r1.hd s1, same_t r1.hd s2, af1 _ H1 ρ1 Hd1 .refl r1 (walk_zipT s1 d1 s2 d2)⟩⟩
    · cases q
theorem pzi_E {elts : List Expr} {kk : Nat} {tpos : Pos} (ha : PZA X [e] zs) (hm : X.mg "enumerate" = none) (hg : Gl X "enumerate" := by rfl) (hs : starEach [e] X.env = [(false, eval e X.env)] := by rfl) :
    PZI X (.Tuple elts kk tpos) (.Call (.Name "enumerate" p) [e] [] pos) (ziA enumOf zs) := fun W tk => by
  obtain ⟨t, p, s⟩ := ha W tk
  refine ⟨_, pi_enum hg hm p hs, fun F σ H Q Γ S ρ Hd rl sl af => ?_⟩
  refine s F σ H _ Γ S ρ Hd rl sl (Aft.imp (aft_bind af) ?_)
  rintro vs H1 ⟨ρ1, Hd1, xs, S1, g1, r1, hx, af1⟩
  cases q : enumOf xs with
  | none => rw [q] at af1; exact False.elim af1
  | some ds =>
    rw [q] at af1
    unfold enumOf at q
    split at q
    · cases q
      cases hx with
      | cons h1 t1 =>
        cases t1
        cases h1 with
        | lst s1 d1 => exact ⟨_, _, rfl, r1.hd.seq s1, af1 _ H1 ρ1 Hd1 .refl r1 (walk_enum s1 d1)⟩
    · cases q
end
/-! ### a turn's end: what a turn has made is forgotten -/
def forget (n : Nat) (Γ : Env1) : Env1 := Γ.map fun o => match o with
  | some (.d x) => some (.d x)
  | some (.box m) => if m < n then some (.box m) else none
  | some (.sub m) => if m < n then some (.sub m) else none
  | _ => none
theorem take_get {ρ : Ads} {n m : Nat} {x : List Addr} (h : ρ[m]? = some x) (hm : m < n) : (ρ.take n)[m]? = some x := by rw [List.getElem?_take_of_lt hm]; exact h
theorem slots_forget {K : PySem.W.Frag} {ρ : Ads} {Hd : Hp} {σ : L2.St} {Γ : Env1} (n : Nat) (h : Slots K ρ Hd σ Γ) : Slots K (ρ.take n) Hd σ (forget n Γ) := by
  refine ⟨by rw [forget, List.length_map]; exact h.1, fun i x e => ?_⟩
  unfold forget at e
  rw [List.getElem?_map] at e
  cases q : Γ[i]? with
  | none => rw [q] at e; cases e
  | some o =>
    rw [q] at e
    cases o with
    | none => cases e
    | some y =>
      obtain ⟨v, h1, h2⟩ := h.2 i y q
      refine ⟨v, h1, ?_⟩
      cases y with
      | d z => cases e; exact h2
      | box m =>
        have e : (if m < n then some (Sl.box m) else none) = some x := Option.some.inj e
        split at e
        · rename_i hm
          cases e
          obtain ⟨a, r, e1, e2⟩ := h2
          exact ⟨a, r, e1, take_get e2 hm⟩
        · cases e
      | sub m =>
        have e : (if m < n then some (Sl.sub m) else none) = some x := Option.some.inj e
        split at e
        · rename_i hm
          cases e
          obtain ⟨a, b, r, e1, e2⟩ := h2
          exact ⟨a, b, r, e1, take_get e2 hm⟩
        · cases e
      | pr z m => cases e
      | fn => cases e
theorem grow_take {ρ ρ' : Ads} {Hd Hd' : Hp} (g : Grow ρ Hd ρ' Hd') : ρ'.take ρ.length = ρ := by
  obtain ⟨_, t, rfl⟩ := g
  simp
/-! ### for -/
def forGo (n : Nat) (g : ZG) (body : ZS) : List PyData → ZS
  | [], Γ, S => .nx Γ S
  | d :: ds, Γ, S => match g d Γ with
    | none => .bad
    | some Γ1 => (match body Γ1 S with
      | .nx Γ2 S2 => forGo n g body ds (forget n Γ2) (S2.take n)
      | .ct Γ2 S2 => forGo n g body ds (forget n Γ2) (S2.take n)
      | .bk Γ2 S2 => .nx Γ2 S2
      | .rt x S2 => .rt x S2
      | .ex c Γ2 S2 => .ex c Γ2 S2
      | .bad => .bad)
def zfor (zi : ZI) (g : ZG) (body : ZS) : ZS := fun Γ S => (zi Γ S).st Γ fun ds S1 => forGo S1.length g body ds Γ S1
section
variable {X : Cx} {tg iter : Expr} {body : List Stmt} {zi : ZI} {g : ZG} {vs : List Nat} {zb : ZS} {pos : Pos}
theorem pzs_for (hi : PZI X tg iter zi) (hg : PZG X tg g vs) (hb : PZSs X body zb) (hc : X.calm = true := by rfl) (hs : ∀ x, foldedSetIterable iter X.env x = pure x := by intro _; rfl) : PZS X (.For tg iter body [] pos) (zfor zi g zb) := fun hp W tk => by
  obtain ⟨t, p, s⟩ := hi W tk
  obtain ⟨t1, p1, s1⟩ := hg
  obtain ⟨t2, p2, s2⟩ := hb hp W tk
  refine ⟨_, ps_for hp hc p p1 p2 hs, fun F D σ H Γ S ρ Hd rl sl af => ?_⟩
  refine s F σ H _ Γ S ρ Hd rl sl (Aft.imp (aft_st sl af) ?_)
  rintro J H1 ⟨ρ1, Hd1, ds, S1, g1, r1, wk, af1⟩
  refine ⟨fun i m σ' H' => m = ds.length - i ∧ i ≤ ds.length ∧ ∃ Γ' S' Hd', Same Hd1 Hd' ∧ Rel X.K F ρ1 Hd' H' S' ∧ Slots X.K ρ1 Hd' σ' Γ' ∧ AftS X.K F W D ρ1 Hd' (forGo S1.length g zb (ds.drop i) Γ' S'),
    ⟨ds.length, rfl, Nat.zero_le _, Γ, S1, Hd1, Same.refl _, r1, sl.grow g1, af1⟩, fun i m σ' H' hW => ?_⟩
  obtain ⟨rfl, hi, Γ', S', Hd', sm, r', sl', af'⟩ := hW
  obtain ⟨w1, w2⟩ := wk H' (sm.trans r'.hd)
  by_cases hlt : i < ds.length
  · have ed : ds[i]? = some ds[i] := List.getElem?_eq_getElem hlt
    obtain ⟨go, yl⟩ := w2 i _ ed
    rw [List.drop_eq_getElem_cons hlt] at af'
    refine .inr ⟨go, fun σ2 H2 => i + 1 ≤ ds.length ∧ ∃ Γ2 S2 Hd2, Same Hd1 Hd2 ∧ Rel X.K F ρ1 Hd2 H2 S2 ∧ Slots X.K ρ1 Hd2 σ2 Γ2 ∧ AftS X.K F W D ρ1 Hd2 (forGo S1.length g zb (ds.drop (i + 1)) Γ2 S2), fun σ2 H2 hN => ⟨ds.length - (i + 1), by omega, rfl, hN.1, hN.2⟩, fun x H2 hy => ?_⟩
    have af' : AftS X.K F W D ρ1 Hd' (match g ds[i] Γ' with
      | none => .bad
      | some Γ1 => (match zb Γ1 S' with
        | .nx Γ2 S2 => forGo S1.length g zb (ds.drop (i + 1)) (forget S1.length Γ2) (S2.take S1.length)
        | .ct Γ2 S2 => forGo S1.length g zb (ds.drop (i + 1)) (forget S1.length Γ2) (S2.take S1.length)
        | .bk Γ2 S2 => .nx Γ2 S2
        | .rt x S2 => .rt x S2
        | .ex c Γ2 S2 => .ex c Γ2 S2
        | .bad => .bad)) := af'
    -- the item is data
    have item : ∃ Hd2, Same Hd' Hd2 ∧ Rel X.K F ρ1 Hd2 H2 S' ∧ Dp X.K Hd2 x ds[i] := by
      rcases yl x H2 hy with ⟨rfl, hd⟩ | ⟨T, xs, es, rfl, hT, rfl, e3, hd⟩
      · exact ⟨Hd', Same.refl _, r', dp_mono sm hd⟩
      · refine ⟨_, same_upd (r'.hd.free hT), r'.newD hT (o := .tup xs), ?_⟩
        rw [e3]
        exact .tup (SqT.of upd_same) (dpAll_mono (sm.trans (same_upd (r'.hd.free hT))) hd)
    obtain ⟨Hd2, sm2, r2, hd2⟩ := item
    split at af'
    · exact False.elim af'
    · rename_i Γ1 e1
      refine s1 F x σ' H2 _ Γ' Γ1 ds[i] S' ρ1 Hd2 r2 (sl'.grow (.hd sm2)) hd2 e1 fun σ2 sl2 _ _ => ?_
      refine s2 F _ σ2 H2 Γ1 S' ρ1 Hd2 r2 sl2 ?_
      have af2 := AftS.grow (.hd sm2) af'
      have nxt : ∀ Γ2 S2, AftS X.K F W D ρ1 Hd2 (forGo S1.length g zb (ds.drop (i + 1)) (forget S1.length Γ2) (S2.take S1.length)) → ∀ σ3 H3 ρ3 Hd3, Grow ρ1 Hd2 ρ3 Hd3 → Rel X.K F ρ3 Hd3 H3 S2 → Slots X.K ρ3 Hd3 σ3 Γ2 →
          i + 1 ≤ ds.length ∧ ∃ Γ2 S2 Hd2, Same Hd1 Hd2 ∧ Rel X.K F ρ1 Hd2 H3 S2 ∧ Slots X.K ρ1 Hd2 σ3 Γ2 ∧ AftS X.K F W D ρ1 Hd2 (forGo S1.length g zb (ds.drop (i + 1)) Γ2 S2) := by
        intro Γ2 S2 af3 σ3 H3 ρ3 Hd3 g3 r3 sl3
        have e3 := grow_take g3
        rw [r1.len] at e3
        refine ⟨hlt, forget S1.length Γ2, S2.take S1.length, Hd3, (sm.trans sm2).trans g3.h, ?_, ?_, AftS.grow (.hd g3.h) af3⟩
        · have := r3.take S1.length
          rw [e3] at this
          exact this
        · have := slots_forget S1.length sl3
          rw [e3] at this
          exact this
      cases q : zb Γ1 S' with
      | nx Γ2 S2 => rw [q] at af2; exact nxt Γ2 S2 af2
      | ct Γ2 S2 => rw [q] at af2; exact nxt Γ2 S2 af2
      | bk Γ2 S2 => rw [q] at af2; exact af2
      | rt y S2 => rw [q] at af2; exact af2
      | ex c Γ2 S2 => rw [q] at af2; exact af2
      | bad => rw [q] at af2; exact af2
  · have e : ds.drop i = [] := List.drop_eq_nil_of_le (by omega)
    rw [e] at af'
    exact .inl ⟨w1 i (by omega), af' σ' H' ρ1 Hd' .refl r' sl'⟩
end
theorem aft_st0 {α β : Type} {K : PySem.W.Frag} {F : Hp} {W : WX} {σ : L2.St} {Γ : Env1} {rel : Ads → Hp → β → α → Prop} {D : Ends} {ρ : Ads} {Hd : Hp} {o : Out α} {f : α → Sto → FS} (sl : Slots K ρ Hd σ Γ)
    (h : AftS K F W D ρ Hd (o.st Γ f)) : Aft K F W σ rel (fun v H' => ∃ ρ' Hd' x S', Grow ρ Hd ρ' Hd' ∧ Rel K F ρ' Hd' H' S' ∧ rel ρ' Hd' v x ∧ AftS K F W D ρ Hd (f x S')) ρ Hd o := by
  cases o with
  | val x S => exact fun v H' ρ' Hd' g r hx => ⟨ρ', Hd', x, S, g, r, hx, h⟩
  | exc c S => exact fun H' ρ' Hd' g r => h σ H' ρ' Hd' g r (sl.grow g)
  | bad => exact h
/-! ### while -/
def whGo (n : Nat) (zt : ZT) (body : ZS) : Nat → ZS
  | 0, _, _ => .bad
  | k + 1, Γ, S => (zt Γ S).st Γ fun c S1 => if c = true then (match body Γ S1 with
      | .nx Γ2 S2 => whGo n zt body k (forget n Γ2) (S2.take n)
      | .ct Γ2 S2 => whGo n zt body k (forget n Γ2) (S2.take n)
      | .bk Γ2 S2 => .nx Γ2 S2
      | .rt x S2 => .rt x S2
      | .ex c Γ2 S2 => .ex c Γ2 S2
      | .bad => .bad) else .nx Γ S1
def zwhile (k : Nat) (zt : ZT) (body : ZS) : ZS := fun Γ S => whGo S.length zt body k Γ S
section
variable {X : Cx} {c : Expr} {body : List Stmt} {zt : ZT} {zb : ZS} {pos : Pos}
theorem pzs_while (k : Nat) (hc : PZT X c zt) (hb : PZSs X body zb) : PZS X (.While c body [] pos) (zwhile k zt zb) := fun hp W tk => by
  obtain ⟨t, p, s⟩ := hc W tk
  obtain ⟨t2, p2, s2⟩ := hb hp W tk
  refine ⟨_, ps_while hp p p2, fun F D σ H Γ S ρ Hd rl sl af => ?_⟩
  refine ⟨fun m σ' H' => ∃ Γ' S' Hd', Same Hd Hd' ∧ Rel X.K F ρ Hd' H' S' ∧ Slots X.K ρ Hd' σ' Γ' ∧ AftS X.K F W D ρ Hd' (whGo S.length zt zb m Γ' S'), ⟨k, Γ, S, Hd, Same.refl _, rl, sl, af⟩, fun m σ' H' hW => ?_⟩
  obtain ⟨Γ', S', Hd', sm, r', sl', af'⟩ := hW
  cases m with
  | zero => exact False.elim af'
  | succ m =>
    refine s F σ' H' _ Γ' S' ρ Hd' r' sl' (Aft.imp (aft_st0 sl' af') ?_)
    rintro b H1 ⟨ρ1, Hd1, b', S1, g1, r1, hk, af1⟩
    have e : b = b' := hk
    subst e
    cases b with
    | false =>
      rw [if_neg Bool.false_ne_true]
      exact af1 σ' H1 ρ1 Hd1 g1 r1 (sl'.grow g1)
    | true =>
      rw [if_pos rfl]
      refine ⟨fun σ2 H2 => ∃ Γ2 S2 Hd2, Same Hd Hd2 ∧ Rel X.K F ρ Hd2 H2 S2 ∧ Slots X.K ρ Hd2 σ2 Γ2 ∧ AftS X.K F W D ρ Hd2 (whGo S.length zt zb m Γ2 S2), fun σ2 H2 hN => ⟨m, Nat.lt_succ_self m, hN⟩, ?_⟩
      refine s2 F _ σ' H1 Γ' S1 ρ1 Hd1 r1 (sl'.grow g1) ?_
      have nxt : ∀ Γ2 S2, AftS X.K F W D ρ Hd' (whGo S.length zt zb m (forget S.length Γ2) (S2.take S.length)) → ∀ σ3 H3 ρ3 Hd3, Grow ρ1 Hd1 ρ3 Hd3 → Rel X.K F ρ3 Hd3 H3 S2 → Slots X.K ρ3 Hd3 σ3 Γ2 →
          ∃ Γ2 S2 Hd2, Same Hd Hd2 ∧ Rel X.K F ρ Hd2 H3 S2 ∧ Slots X.K ρ Hd2 σ3 Γ2 ∧ AftS X.K F W D ρ Hd2 (whGo S.length zt zb m Γ2 S2) := by
        intro Γ2 S2 af3 σ3 H3 ρ3 Hd3 g3 r3 sl3
        have e3 := grow_take (g1.trans g3)
        rw [rl.len] at e3
        refine ⟨forget S.length Γ2, S2.take S.length, Hd3, sm.trans (g1.trans g3).h, ?_, ?_, AftS.grow (.hd (g1.trans g3).h) af3⟩
        · have := r3.take S.length
          rw [e3] at this
          exact this
        · have := slots_forget S.length sl3
          rw [e3] at this
          exact this
      have af2 : AftS X.K F W D ρ Hd' (match zb Γ' S1 with
        | .nx Γ2 S2 => whGo S.length zt zb m (forget S.length Γ2) (S2.take S.length)
        | .ct Γ2 S2 => whGo S.length zt zb m (forget S.length Γ2) (S2.take S.length)
        | .bk Γ2 S2 => .nx Γ2 S2
        | .rt x S2 => .rt x S2
        | .ex c Γ2 S2 => .ex c Γ2 S2
        | .bad => .bad) := af1
      cases q : zb Γ' S1 with
      | nx Γ2 S2 => rw [q] at af2; exact nxt Γ2 S2 af2
      | ct Γ2 S2 => rw [q] at af2; exact nxt Γ2 S2 af2
      | bk Γ2 S2 => rw [q] at af2; exact AftS.grow g1 af2
      | rt y S2 => rw [q] at af2; exact AftS.grow g1 af2
      | ex c Γ2 S2 => rw [q] at af2; exact AftS.grow g1 af2
      | bad => rw [q] at af2; exact af2
end
/-! ### comprehensions -/
def wipeZ (Γ : Env1) : List Nat → Env1
  | [] => Γ
  | v :: vs => (wipeZ Γ vs).set v none
/-- one item: none: left out -/
def lcOne (n : Nat) (g : ZG) (zt : ZT) (ze : ZE) (Γ0 : Env1) (d : PyData) (S : Sto) : Out (Option PyData) := match g d Γ0 with
  | none => .bad
  | some Γ1 => (match zt Γ1 S with
    | .val true S1 => (match ze Γ1 S1 with
      | .val (.d y) S2 => .val (some y) (S2.take n)
      | _ => .bad)
    | .val false S1 => .val none (S1.take n)
    | _ => .bad)
def lcGo (one : PyData → Sto → Out (Option PyData)) : List PyData → List PyData → Sto → Out (List PyData)
  | [], acc, S => .val acc S
  | d :: ds, acc, S => (one d S).bind fun o S1 => match o with
    | some y => if acc.length < lim then lcGo one ds (acc ++ [y]) S1 else .bad
    | none => lcGo one ds acc S1
def zlc (zi : ZI) (g : ZG) (zt : ZT) (ze : ZE) (vs : List Nat) : ZF := fun Γ S => (zi Γ S).bind fun ds S1 => match lcGo (lcOne S1.length g zt ze (wipeZ Γ vs)) ds [] S1 with
  | .val ys S2 => .val (.lst ys) S2
  | _ => .bad
theorem aftF_grow {K : PySem.W.Frag} {F : Hp} {W : WX} {σ : L2.St} {Q : VK} {ρ ρ' : Ads} {Hd Hd' : Hp} (g : Grow ρ Hd ρ' Hd') : ∀ {o : Out Box}, AftF K F W σ Q ρ Hd o → AftF K F W σ Q ρ' Hd' o
  | .val _ _, h => fun p H' ρ2 Hd2 g2 r a1 a2 a3 a4 a5 => h p H' ρ2 Hd2 (g.trans g2) r a1 a2 a3 a4 a5
  | .exc _ _, h => fun H' ρ2 Hd2 g2 r => h H' ρ2 Hd2 (g.trans g2) r
  | .bad, h => h
def ztrue : ZT := fun _ S => .val true S
theorem wipe_len (Γ : Env1) : ∀ vs : List Nat, (wipeZ Γ vs).length = Γ.length
  | [] => rfl
  | v :: vs => by unfold wipeZ; rw [List.length_set, wipe_len Γ vs]
theorem slots_wipe {K : PySem.W.Frag} {ρ : Ads} {Hd : Hp} {σ : L2.St} {Γ : Env1} (h : Slots K ρ Hd σ Γ) : ∀ vs : List Nat, Slots K ρ Hd (wipe σ vs) (wipeZ Γ vs)
  | [] => h
  | v :: vs => (slots_wipe h vs).none
theorem wipe_get {σ : L2.St} : ∀ {vs : List Nat} {j : Nat}, j ∉ vs → (wipe σ vs)[j]? = σ[j]?
  | [], _, _ => rfl
  | v :: vs, j, h => by
    unfold wipe
    rw [List.getElem?_set_ne (fun e => h (by rw [e]; simp))]
    exact wipe_get fun z => h (List.mem_cons_of_mem _ z)
theorem wipe_at {σ : L2.St} : ∀ {vs : List Nat} {j : Nat}, j ∈ vs → j < σ.length → (wipe σ vs)[j]? = some none
  | [], _, h, _ => nomatch h
  | v :: vs, j, h, hl => by
    unfold wipe
    by_cases e : v = j
    · subst e
      rw [List.getElem?_set_self (by rw [wipe_length]; exact hl)]
    · rw [List.getElem?_set_ne e]
      rcases List.mem_cons.mp h with z | z
      · exact absurd z.symm e
      · exact wipe_at z hl
theorem wipe_ext {σ σ' : L2.St} {vs ws : List Nat} (hl : σ'.length = σ.length) (hw : ∀ j ∈ ws, j ∈ vs) (h : ∀ j, j ∉ ws → σ'[j]? = (wipe σ vs)[j]?) : wipe σ' vs = wipe σ vs := by
  apply List.ext_getElem?
  intro j
  by_cases hj : j ∈ vs
  · by_cases hb : j < σ.length
    · rw [wipe_at hj hb, wipe_at hj (by rw [hl]; exact hb)]
    · rw [List.getElem?_eq_none (by rw [wipe_length]; omega), List.getElem?_eq_none (by rw [wipe_length]; omega)]
  · rw [wipe_get hj, h j fun z => hj (hw j z)]
def PZTs (X : Cx) (ifs : List Expr) (z : ZT) : Prop := ∀ W, Takes X W → ∃ t : TT, PTs X ifs t ∧ Snd X.K W eqB t z
section
variable {X : Cx} {elt tg iter : Expr} {ifs : List Expr} {scope : Scope} {own : List (Str × Nat)} {pos : Pos} {zi : ZI} {g : ZG} {zt : ZT} {ze : ZE} {ws : List Nat}
theorem pzt_nil : PZTs X [] ztrue := fun _ _ => ⟨_, pts_nil, fun _ _ H _ _ _ ρ Hd r _ a => a true H ρ Hd .refl r rfl⟩
theorem pzt_one {c : Expr} (h : PZT X c zt) : PZTs X [c] zt := fun W tk => let ⟨_, p, s⟩ := h W tk; ⟨_, pts_one p, s⟩
/-- the readings that hang on the meaning alone -/
def tZ {α β : Type} (K : PySem.W.Frag) (W : WX) (rel : Ads → Hp → β → α → Prop) (z : Env1 → Sto → Out α) : L2.St → Hp → (β → Hp → Prop) → Prop := fun σ H Q => ∃ F Γ S ρ Hd, Rel K F ρ Hd H S ∧ Slots K ρ Hd σ Γ ∧ Aft K F W σ rel Q ρ Hd (z Γ S)
def tZG (K : PySem.W.Frag) (g : ZG) (vs : List Nat) : TG := fun v σ H Q => ∃ F Γ Γ' d S ρ Hd, Rel K F ρ Hd H S ∧ Slots K ρ Hd σ Γ ∧ Dp K Hd v d ∧ g d Γ = some Γ' ∧ ∀ σ', Slots K ρ Hd σ' Γ' → σ'.length = σ.length → (∀ j, j ∉ vs → σ'[j]? = σ[j]?) → Q σ' H
theorem pe_z {e : Expr} {W : WX} (h : PZ X e ze) (tk : Takes X W) : PE X e (tZ X.K W (SlIs X.K) ze) := by
  obtain ⟨t, p, s⟩ := h W tk
  exact ⟨fun pins sh σ H Q I ⟨F, Γ, S, ρ, Hd, r, sl, a⟩ => p.run pins sh σ H Q I (s F σ H Q Γ S ρ Hd r sl a)⟩
theorem pts_z {W : WX} (h : PZTs X ifs zt) (tk : Takes X W) : PTs X ifs (tZ X.K W eqB zt) := by
  obtain ⟨t, p, s⟩ := h W tk
  exact ⟨fun pins sh σ H Q I ⟨F, Γ, S, ρ, Hd, r, sl, a⟩ => p.run pins sh σ H Q I (s F σ H Q Γ S ρ Hd r sl a)⟩
theorem pg_z (h : PZG X tg g ws) : PG X tg (tZG X.K g ws) := by
  obtain ⟨t, p, s⟩ := h
  exact ⟨fun pins sh σ H v u Q I rv ⟨F, Γ, Γ', d, S, ρ, Hd, r, sl, hd, e, k⟩ => p.run pins sh σ H v u Q I rv (s F v σ H Q Γ Γ' d S ρ Hd r sl hd e k)⟩
theorem snd_lc {W : WX} {ti : TI} {vs : List Nat} (hsub : ∀ j ∈ ws, j ∈ vs) (s : Snd X.K W (wkR X.K) ti zi) : SndF X.K W (tLc ti (tZG X.K g ws) (tZ X.K (fun _ _ _ _ => False) eqB zt) (tZ X.K (fun _ _ _ _ => False) (SlIs X.K) ze) vs) (zlc zi g zt ze vs) := by
  intro F σ H Q Γ S ρ Hd rl sl af
  refine s F σ H _ Γ S ρ Hd rl sl (Aft.imp (aft_bindF af) ?_)
  rintro J H1 ⟨ρ1, Hd1, ds, S1, g1, r1, wk, af1⟩
  intro D hD
  have nDr : D ∉ ρ1.flatten := fun z => r1.ne_new hD z rfl
  have nDF : F D = none := r1.fr_free hD
  refine ⟨fun i m H' => m = ds.length - i ∧ i ≤ ds.length ∧ ∃ acc ys S' Hd', H' D = some (.lst acc) ∧ Hd' D = none ∧ Same Hd1 Hd' ∧ Rel X.K F ρ1 Hd' H' S' ∧ DpAll X.K Hd' acc ys ∧
      AftF X.K F W σ Q ρ1 Hd' (match lcGo (lcOne S1.length g zt ze (wipeZ Γ vs)) (ds.drop i) ys S' with | .val ys S2 => .val (.lst ys) S2 | _ => .bad),
    ⟨ds.length, rfl, Nat.zero_le _, [], [], S1, Hd1, upd_same, r1.hd.free hD, Same.refl _, r1.junk hD, .nil, af1⟩, fun i m H' hW => ?_⟩
  obtain ⟨rfl, hi, acc, ys, S', Hd', hacc, hdD, sm, r', hys, af'⟩ := hW
  obtain ⟨w1, w2⟩ := wk H' (sm.trans r'.hd)
  by_cases hlt : i < ds.length
  · have ed : ds[i]? = some ds[i] := List.getElem?_eq_getElem hlt
    obtain ⟨go, yl⟩ := w2 i _ ed
    rw [List.drop_eq_getElem_cons hlt] at af'
    refine .inr ⟨go, fun H2 => i + 1 ≤ ds.length ∧ ∃ acc ys S' Hd', H2 D = some (.lst acc) ∧ Hd' D = none ∧ Same Hd1 Hd' ∧ Rel X.K F ρ1 Hd' H2 S' ∧ DpAll X.K Hd' acc ys ∧
      AftF X.K F W σ Q ρ1 Hd' (match lcGo (lcOne S1.length g zt ze (wipeZ Γ vs)) (ds.drop (i + 1)) ys S' with | .val ys S2 => .val (.lst ys) S2 | _ => .bad), fun H2 hN => ⟨ds.length - (i + 1), by omega, rfl, hN.1, hN.2⟩, fun x H2 hy => ?_⟩
    have af' : AftF X.K F W σ Q ρ1 Hd' (match (lcOne S1.length g zt ze (wipeZ Γ vs) ds[i] S').bind (fun o S1' => match o with
        | some y => if ys.length < lim then lcGo (lcOne S1.length g zt ze (wipeZ Γ vs)) (ds.drop (i + 1)) (ys ++ [y]) S1' else .bad
        | none => lcGo (lcOne S1.length g zt ze (wipeZ Γ vs)) (ds.drop (i + 1)) ys S1') with | .val ys S2 => .val (.lst ys) S2 | _ => .bad) := af'
    have item : ∃ Hd2, Same Hd' Hd2 ∧ Hd2 D = none ∧ Rel X.K F ρ1 Hd2 H2 S' ∧ H2 D = some (.lst acc) ∧ Dp X.K Hd2 x ds[i] := by
      rcases yl x H2 hy with ⟨rfl, hd⟩ | ⟨T, xs, es, rfl, hT, rfl, e3, hd⟩
      · exact ⟨Hd', Same.refl _, hdD, r', hacc, dp_mono sm hd⟩
      · have nTD : D ≠ T := ne_of_none hacc hT
        refine ⟨_, same_upd (r'.hd.free hT), by rw [upd_ne nTD]; exact hdD, r'.newD hT (o := .tup xs), by rw [upd_ne nTD]; exact hacc, ?_⟩
        rw [e3]
        exact .tup (SqT.of upd_same) (dpAll_mono (sm.trans (same_upd (r'.hd.free hT))) hd)
    obtain ⟨Hd2, sm2, hd2D, r2, hacc2, hd2⟩ := item
    have rF := r2.frame hacc2 nDr hd2D
    have sF : Same F (upd F D (.lst acc)) := same_upd nDF
    have slw : Slots X.K ρ1 Hd2 (wipe σ vs) (wipeZ Γ vs) := slots_wipe ((sl.grow g1).grow (.hd (sm.trans sm2))) vs
    unfold lcOne at af'
    cases q1 : g ds[i] (wipeZ Γ vs) with
    | none => rw [q1] at af'; exact False.elim af'
    | some Γ1 =>
      rw [q1] at af'
      refine ⟨upd F D (.lst acc), wipeZ Γ vs, Γ1, ds[i], S', ρ1, Hd2, rF, slw, hd2, q1, fun σ2 sl2 l2 k2 => ⟨wipe_ext (by rw [l2, wipe_length]) hsub k2, ?_⟩⟩
      refine ⟨upd F D (.lst acc), Γ1, S', ρ1, Hd2, rF, sl2, ?_⟩
      dsimp only at af'
      -- back to the list's own state behind one item
      have back : ∀ {S3 : Sto} {ρ3 : Ads} {Hd3 H3 : Hp}, Grow ρ1 Hd2 ρ3 Hd3 → Rel X.K (upd F D (.lst acc)) ρ3 Hd3 H3 S3 → H3 D = some (.lst acc) ∧ Hd3 D = none ∧ Rel X.K F ρ1 Hd3 H3 (S3.take S1.length) := by
        intro S3 ρ3 Hd3 H3 g3 r3
        have e3 := grow_take g3
        rw [r1.len] at e3
        have r4 := (r3.unframe sF).take S1.length
        rw [e3] at r4
        exact ⟨r3.fr _ _ upd_same, r3.dj _ _ upd_same, r4⟩
      cases q2 : zt Γ1 S' with
      | exc c S3 => rw [q2] at af'; exact False.elim af'
      | bad => rw [q2] at af'; exact False.elim af'
      | val b S3 =>
        rw [q2] at af'
        intro b' H3 ρ3 Hd3 g3 r3 hb
        have eb : b' = b := hb
        subst eb
        cases b' with
        | false =>
          rw [if_neg Bool.false_ne_true]
          obtain ⟨k1, k2, k3⟩ := back g3 r3
          refine ⟨hlt, acc, ys, _, Hd3, k1, k2, (sm.trans sm2).trans g3.h, k3, dpAll_mono (sm2.trans g3.h) hys, ?_⟩
          have gg : Grow ρ1 Hd' ρ1 Hd3 := .hd (sm2.trans g3.h)
          have af2 : AftF X.K F W σ Q ρ1 Hd' (match lcGo (lcOne S1.length g zt ze (wipeZ Γ vs)) (ds.drop (i + 1)) ys (S3.take S1.length) with | .val ys S2 => .val (.lst ys) S2 | _ => .bad) := af'
          exact aftF_grow gg af2
        | true =>
          rw [if_pos rfl]
          have af2 : AftF X.K F W σ Q ρ1 Hd' (match (match ze Γ1 S3 with
              | .val (.d y) S2 => Out.val (some y) (S2.take S1.length)
              | _ => .bad : Out (Option PyData)).bind (fun o S1' => match o with
              | some y => if ys.length < lim then lcGo (lcOne S1.length g zt ze (wipeZ Γ vs)) (ds.drop (i + 1)) (ys ++ [y]) S1' else .bad
              | none => lcGo (lcOne S1.length g zt ze (wipeZ Γ vs)) (ds.drop (i + 1)) ys S1') with | .val ys S2 => .val (.lst ys) S2 | _ => .bad) := af'
          refine ⟨upd F D (.lst acc), Γ1, S3, ρ3, Hd3, r3, sl2.grow g3, ?_⟩
          cases q3 : ze Γ1 S3 with
          | exc c S4 => rw [q3] at af2; exact False.elim af2
          | bad => rw [q3] at af2; exact False.elim af2
          | val y' S4 =>
            rw [q3] at af2
            cases y' with
            | d yd =>
              intro y H4 ρ4 Hd4 g4 r4 hyd
              obtain ⟨k1, k2, k3⟩ := back (g3.trans g4) r4
              have af3 : AftF X.K F W σ Q ρ1 Hd' (match (if ys.length < lim then lcGo (lcOne S1.length g zt ze (wipeZ Γ vs)) (ds.drop (i + 1)) (ys ++ [yd]) (S4.take S1.length) else .bad) with | .val ys S2 => .val (.lst ys) S2 | _ => .bad) := af2
              split at af3
              · rename_i q4
                split at q4
                · rename_i hl
                  have hys4 := dpAll_mono (sm2.trans (g3.trans g4).h) hys
                  refine ⟨acc, k1, by rw [dpAll_len hys]; exact lim_lt (Nat.le_of_lt hl), hlt, acc ++ [y], ys ++ [yd], S4.take S1.length, Hd4, upd_same, k2, (sm.trans sm2).trans (g3.trans g4).h, ?_, dpAll_app hys4 (.cons hyd .nil), ?_⟩
                  · refine ⟨fun c u e => ?_, fun c u e => ?_, k3.dj, k3.nf, k3.nk, k3.len, k3.nd, fun c hc => ?_, fun j b as h1 h2 h3 => ?_⟩
                    · rw [upd_ne (ne_of_none e k2)]; exact k3.hd _ _ e
                    · rw [upd_ne (ne_of_none e nDF)]; exact k3.fr _ _ e
                    · rw [upd_ne (fun z => nDr (by rw [← z]; exact hc))]; exact k3.trk c hc
                    · obtain ⟨x1, x2⟩ := k3.box j b as h1 h2 h3
                      exact ⟨x1, x2.congr (Same.refl _) fun c hc => upd_ne (fun z => nDr (by rw [← z]; exact mem_flat h2 hc))⟩
                  · rw [q4]
                    exact aftF_grow (.hd (sm2.trans (g3.trans g4).h)) af3
                · cases q4
              · exact False.elim af3
            | _ => exact False.elim af2
  · have e : ds.drop i = [] := List.drop_eq_nil_of_le (by omega)
    rw [e] at af'
    exact .inl ⟨w1 i (by omega), af' D H' ρ1 Hd' .refl r' nDr nDF hdD (by rw [hacc]; simp) ⟨D, acc, rfl, hacc, hys⟩⟩
theorem pzf_lc (hi : PZI X tg iter zi) (hN : X.N.Nodup) (ok : BlkOk X.N X.env.scope scope own)
    (hg : ∀ (s : Shared) (H : Hp) (C : Addr) (cl : List (Str × Addr)) (fp : List Addr), PZG (X.blk s H scope (compEnvC scope cl C X.env) fp) tg g ws)
    (ht : ∀ (s : Shared) (H : Hp) (C : Addr) (cl : List (Str × Addr)) (fp : List Addr), PZTs (X.blk s H scope (compEnvC scope cl C X.env) fp) ifs zt)
    (he : ∀ (s : Shared) (H : Hp) (C : Addr) (cl : List (Str × Addr)) (fp : List Addr), PZ (X.blk s H scope (compEnvC scope cl C X.env) fp) elt ze)
    (hsub : ∀ j ∈ ws, j ∈ own.map (·.2) := by decide) (hc : X.calm = true := by rfl) (hs : ∀ x, foldedSetIterable iter X.env x = pure x := by intro _; rfl) :
    PZF X (.ListComp elt [⟨tg, iter, ifs, 0⟩] scope pos) (zlc zi g zt ze (own.map (·.2))) := fun W tk => by
  obtain ⟨ti, p, s⟩ := hi W tk
  exact ⟨_, pe_lc (g := tZG X.K g ws) (tt := tZ X.K (fun _ _ _ _ => False) eqB zt) (te := tZ X.K (fun _ _ _ _ => False) (SlIs X.K) ze) hc hN p ok (fun s H C cl fp => pg_z (hg s H C cl fp)) (fun s H C cl fp => pts_z (ht s H C cl fp) takes0) (fun s H C cl fp => pe_z (he s H C cl fp) takes0) hs, snd_lc hsub s⟩
/-- y = [..] on one line, y a plain local -/
theorem pzs_setLc (i : Nat) {y : Str} {py spos : Pos} (hi : PZI X tg iter zi) (hN : X.N.Nodup) (ok : BlkOk X.N X.env.scope scope own)
    (hg : ∀ (s : Shared) (H : Hp) (C : Addr) (cl : List (Str × Addr)) (fp : List Addr), PZG (X.blk s H scope (compEnvC scope cl C X.env) fp) tg g ws)
    (ht : ∀ (s : Shared) (H : Hp) (C : Addr) (cl : List (Str × Addr)) (fp : List Addr), PZTs (X.blk s H scope (compEnvC scope cl C X.env) fp) ifs zt)
    (he : ∀ (s : Shared) (H : Hp) (C : Addr) (cl : List (Str × Addr)) (fp : List Addr), PZ (X.blk s H scope (compEnvC scope cl C X.env) fp) elt ze)
    (hsub : ∀ j ∈ ws, j ∈ own.map (·.2) := by decide) (hc : X.calm = true := by rfl) (hy : X.N[i]? = some y := by rfl) (hyl : X.env.scope.names.lookup y = some .local := by rfl)
    (hsw : swapsWith (.ListComp elt [⟨tg, iter, ifs, 0⟩] scope pos) (some (.Name y py)) spos.line X.env = pure true := by exact sw_true rfl rfl rfl (by decide +kernel)) (hs : ∀ x, foldedSetIterable iter X.env x = pure x := by intro _; rfl) :
    PZS X (.Assign [.Name y py] (.ListComp elt [⟨tg, iter, ifs, 0⟩] scope pos) spos) (zsetF i (zlc zi g zt ze (own.map (·.2)))) := fun _ W tk => by
  obtain ⟨ti, p, s⟩ := hi W tk
  refine ⟨_, ps_setLc (g := tZG X.K g ws) (tt := tZ X.K (fun _ _ _ _ => False) eqB zt) (te := tZ X.K (fun _ _ _ _ => False) (SlIs X.K) ze) hc hN hy hyl hsw p ok (fun s H C cl fp => pg_z (hg s H C cl fp)) (fun s H C cl fp => pts_z (ht s H C cl fp) takes0) (fun s H C cl fp => pe_z (he s H C cl fp) takes0) hs, fun F D σ H Γ S ρ Hd rl sl af => ?_⟩
  refine snd_lc hsub s F σ H _ Γ S ρ Hd rl sl (AftF.imp (aft_stF sl af) ?_)
  rintro v H1 ⟨p, ρ1, Hd1, b, S1, rfl, g1, r1, h1, h2, h3, h4, h5, af1⟩
  obtain ⟨r2, s2⟩ := slots_box (i := i) r1 (sl.grow g1) h1 h2 h3 h4 h5
  exact af1 _ H1 _ Hd1 Rel.grB r2 s2
/-- .. the list being data from the beginning -/
theorem pzs_setLcD (i : Nat) {y : Str} {py spos : Pos} (hi : PZI X tg iter zi) (hN : X.N.Nodup) (ok : BlkOk X.N X.env.scope scope own)
    (hg : ∀ (s : Shared) (H : Hp) (C : Addr) (cl : List (Str × Addr)) (fp : List Addr), PZG (X.blk s H scope (compEnvC scope cl C X.env) fp) tg g ws)
    (ht : ∀ (s : Shared) (H : Hp) (C : Addr) (cl : List (Str × Addr)) (fp : List Addr), PZTs (X.blk s H scope (compEnvC scope cl C X.env) fp) ifs zt)
    (he : ∀ (s : Shared) (H : Hp) (C : Addr) (cl : List (Str × Addr)) (fp : List Addr), PZ (X.blk s H scope (compEnvC scope cl C X.env) fp) elt ze)
    (hsub : ∀ j ∈ ws, j ∈ own.map (·.2) := by decide) (hc : X.calm = true := by rfl) (hy : X.N[i]? = some y := by rfl) (hyl : X.env.scope.names.lookup y = some .local := by rfl)
    (hsw : swapsWith (.ListComp elt [⟨tg, iter, ifs, 0⟩] scope pos) (some (.Name y py)) spos.line X.env = pure true := by exact sw_true rfl rfl rfl (by decide +kernel)) (hs : ∀ x, foldedSetIterable iter X.env x = pure x := by intro _; rfl) :
    PZS X (.Assign [.Name y py] (.ListComp elt [⟨tg, iter, ifs, 0⟩] scope pos) spos) (zset i (zfz (zlc zi g zt ze (own.map (·.2))))) := fun _ W tk => by
  obtain ⟨ti, p, s⟩ := hi W tk
  refine ⟨_, ps_setLc (g := tZG X.K g ws) (tt := tZ X.K (fun _ _ _ _ => False) eqB zt) (te := tZ X.K (fun _ _ _ _ => False) (SlIs X.K) ze) hc hN hy hyl hsw p ok (fun s H C cl fp => pg_z (hg s H C cl fp)) (fun s H C cl fp => pts_z (ht s H C cl fp) takes0) (fun s H C cl fp => pe_z (he s H C cl fp) takes0) hs, fun F D σ H Γ S ρ Hd rl sl af => ?_⟩
  refine snd_fz (snd_lc hsub s) F σ H _ Γ S ρ Hd rl sl (Aft.imp (aft_st sl af) ?_)
  rintro v H1 ⟨ρ1, Hd1, x', S1, g1, r1, hx, af1⟩
  exact af1 _ H1 ρ1 Hd1 .refl r1 ((sl.grow g1).set hx)
end
end Z
end
section
set_option Elab.async false
set_option linter.all false
set_option maxRecDepth 100000
set_option autoImplicit false
set_option maxHeartbeats 1000000
namespace Z
open PySem L2
/-! ### what a def promises -/
def spOf (K : PySem.W.Frag) (n : Nat) (F : Fn) : Sp := fun vs H Q E => vs.length = n ∧ ∃ Fr ρ Hd S xs, Rel K Fr ρ Hd H S ∧ SlAll K ρ Hd vs xs ∧ Aft K Fr (fun c d _ H' => E c d H') [] (SlIs K) Q ρ Hd (F xs S)
def retN (n : Nat) (x : Sl) (S : Sto) : Out Sl := match x with
  | .d y => .val (.d y) (S.take n)
  | .box m => if m < n then .val (.box m) (S.take n) else (match S[m]? with
    | some (.lst ds) => .val (.d (.list ds)) (S.take n)
    | some (.dic kvs) => .val (.box n) (S.take n ++ [.dic kvs])
    | _ => .bad)
  | .pr y m => if m < n then .bad else (match S[m]? with
    | some (.ins C fs g kvs) => .val (.pr y n) (S.take n ++ [.ins C fs g kvs])
    | _ => .bad)
  | _ => .bad
def retS (n : Nat) : FS → Out Sl
  | .nx _ S' => .val (.d .none) (S'.take n)
  | .rt x S' => retN n x S'
  | .ex c _ S' => .exc c (S'.take n)
  | _ => .bad
/-- a def of a parameters, n further names -/
def zdef (a n : Nat) (z : ZS) : Fn := fun xs S => if xs.length = a then retS S.length (z (xs.map some ++ List.replicate n none) S) else .bad
section
variable {K : PySem.W.Frag} {F : Hp} {ρ : Ads} {Hd H : Hp} {S : Sto}
/-- the store is cut off, one later object is kept -/
theorem Rel.pick (r : Rel K F ρ Hd H S) {n m : Nat} {b : Box} {as : List Addr} (hn : n ≤ m) (h1 : S[m]? = some b) (h2 : ρ[m]? = some as) : Rel K F (ρ.take n ++ [as]) Hd H (S.take n ++ [b]) := by
  have hm : m < S.length := (List.getElem?_eq_some_iff.mp h1).1
  have hs : (S.take n).length = n := by rw [List.length_take]; omega
  have hr : (ρ.take n).length = n := by rw [List.length_take, r.len]; omega
  have rt := r.take n
  refine ⟨r.hd, r.fr, r.dj, r.nf, r.nk, by rw [List.length_append, List.length_append, hs, hr]; rfl, ?_, fun a ha => ?_, fun i c cs g1 g2 g3 => ?_⟩
  · rw [List.flatten_append]
    refine List.nodup_append.mpr ⟨rt.nd, ?_, fun a ha c hc => ?_⟩
    · simp only [List.flatten_cons, List.flatten_nil, List.append_nil]
      have sl : as.Sublist ρ.flatten := List.sublist_flatten_of_mem (List.mem_of_getElem? h2)
      exact r.nd.sublist sl
    · have hc : c ∈ as := by simpa using hc
      obtain ⟨bs, hb1, hb2⟩ := List.mem_flatten.mp ha
      obtain ⟨j, hj1, hj2⟩ := List.mem_iff_getElem.mp hb1
      have hjn : j < n := by rw [hr] at hj1; exact hj1
      have ej : ρ[j]? = some bs := by
        rw [← List.getElem?_take_of_lt hjn, List.getElem?_eq_getElem hj1, hj2]
      exact flat_ne r.nd ej h2 (by omega) hb2 hc
  · rw [List.flatten_append] at ha
    rcases List.mem_append.mp ha with h | h
    · exact rt.trk a h
    · exact r.trk a (mem_flat h2 (by simpa using h))
  · by_cases hi : i < n
    · rw [List.getElem?_append_left (by rw [hs]; exact hi)] at g1
      rw [List.getElem?_append_left (by rw [hr]; exact hi)] at g2
      exact rt.box i c cs g1 g2 g3
    · have e : i = n := by
        have := (List.getElem?_eq_some_iff.mp g1).1
        rw [List.length_append, List.length_singleton, hs] at this
        omega
      subst e
      rw [List.getElem?_append_right (by rw [hs]; exact Nat.le_refl _), hs] at g1
      rw [List.getElem?_append_right (by rw [hr]; exact Nat.le_refl _), hr] at g2
      have e1 : b = c := by simpa using g1
      have e2 : as = cs := by simpa using g2
      subst e1 e2
      exact r.box m b as h1 h2 g3
end
theorem sl_len {K : PySem.W.Frag} {ρ : Ads} {Hd : Hp} {vs : List V} {xs : List Sl} (h : SlAll K ρ Hd vs xs) : vs.length = xs.length := Paired.length h
theorem sl_get {K : PySem.W.Frag} {ρ : Ads} {Hd : Hp} : ∀ {vs : List V} {xs : List Sl} {i : Nat} {x : Sl}, SlAll K ρ Hd vs xs → xs[i]? = some x → ∃ v, vs[i]? = some v ∧ SlIs K ρ Hd v x
  | _, _, _, _, .nil, e => by simp at e
  | _, _, 0, _, .cons h _, e => by simp at e; subst e; exact ⟨_, rfl, h⟩
  | _, _, i + 1, x, .cons _ t, e => by
    obtain ⟨v, h1, h2⟩ := sl_get (i := i) (x := x) t (by simpa using e)
    exact ⟨v, by simpa using h1, h2⟩
theorem slots_start {K : PySem.W.Frag} {ρ : Ads} {Hd : Hp} {vs : List V} {xs : List Sl} {N : List Str} {n : Nat} (h : SlAll K ρ Hd vs xs) (hn : N.length - vs.length = n) : Slots K ρ Hd (L2.start N vs) (xs.map some ++ List.replicate n none) := by
  have hl := sl_len h
  refine ⟨?_, fun i x e => ?_⟩
  · unfold L2.start
    rw [List.length_append, List.length_append, List.length_map, List.length_map, List.length_replicate, List.length_replicate, hn, hl]
  · by_cases hi : i < xs.length
    · rw [List.getElem?_append_left (by rw [List.length_map]; exact hi), List.getElem?_map] at e
      cases q : xs[i]? with
      | none => rw [q] at e; cases e
      | some y =>
        rw [q] at e
        have e : some (some y) = some (some x) := e
        cases e
        obtain ⟨v, h1, h2⟩ := sl_get h q
        refine ⟨v, ?_, h2⟩
        unfold L2.start
        rw [List.getElem?_append_left (by rw [List.length_map, hl]; exact hi), List.getElem?_map, h1]
        rfl
    · rw [List.getElem?_append_right (by rw [List.length_map]; omega)] at e
      rw [List.getElem?_replicate] at e
      split at e <;> cases e
theorem aft_def {K : PySem.W.Frag} {Fr : Hp} {W : WX} {E : XK} {Q : VK} {ρ : Ads} {Hd : Hp} {H : Hp} {a n : Nat} {z : ZS} {xs : List Sl} {S : Sto} (rl : Rel K Fr ρ Hd H S) (ha : xs.length = a) (hW : ∀ c d σ H', E c d H' → W c d σ H')
    (h : Aft K Fr (fun c d _ H' => E c d H') [] (SlIs K) Q ρ Hd (zdef a n z xs S)) : AftS K Fr W { nx := fun _ H' => Q .non H', rt := Q } ρ Hd (z (xs.map some ++ List.replicate n none) S) := by
  unfold zdef at h
  rw [if_pos ha] at h
  unfold retS at h
  cases q : z (xs.map some ++ List.replicate n none) S with
  | nx Γ' S' =>
    rw [q] at h
    intro σ H1 ρ1 Hd1 g r sl
    have e := grow_take g
    rw [rl.len] at e
    have r2 := r.take S.length
    rw [e] at r2
    exact h .non H1 ρ Hd1 (.hd g.h) r2 .non
  | rt x S' =>
    rw [q] at h
    intro v H1 ρ1 Hd1 g r hv
    have e := grow_take g
    rw [rl.len] at e
    have r2 := r.take S.length
    rw [e] at r2
    have h : Aft K Fr (fun c d _ H' => E c d H') [] (SlIs K) Q ρ Hd (retN S.length x S') := h
    unfold retN at h
    cases x with
    | d y => exact h v H1 ρ Hd1 (.hd g.h) r2 hv
    | box m =>
      dsimp only at h
      obtain ⟨a, as, rfl, hm⟩ := hv
      split at h
      · rename_i hlt
        refine h (.ref a) H1 ρ Hd1 (.hd g.h) r2 ⟨a, as, rfl, ?_⟩
        rw [← e]
        exact take_get hm hlt
      · rename_i hge
        split at h
        · rename_i ds e1
          obtain ⟨Hd2, sm, r3, d⟩ := r.freeze e1 hm
          have r4 := r3.take S.length
          rw [e] at r4
          have e5 : (S'.set m .dead).take S.length = S'.take S.length := by
            apply List.ext_getElem?
            intro j
            by_cases hj : j < S.length
            · rw [List.getElem?_take_of_lt hj, List.getElem?_take_of_lt hj, List.getElem?_set_ne (by omega)]
            · rw [List.getElem?_eq_none (by rw [List.length_take]; omega), List.getElem?_eq_none (by rw [List.length_take]; omega)]
          rw [e5] at r4
          exact h (.ref a) H1 ρ Hd2 (.hd (g.h.trans sm)) r4 d
        · rename_i kvs e1
          have r3 := r.pick (n := S.length) (by omega) e1 hm
          rw [e] at r3
          refine h (.ref a) H1 (ρ ++ [a :: as]) Hd1 ⟨g.h, [a :: as], rfl⟩ r3 ⟨a, as, rfl, ?_⟩
          rw [← rl.len]
          simp
        · exact False.elim h
    | pr y m =>
      dsimp only at h
      obtain ⟨t, v1, a, as, rfl, ht, hy, hm⟩ := hv
      split at h
      · exact False.elim h
      · rename_i hge
        split at h
        · rename_i C fs g' kvs e1
          have r3 := r.pick (n := S.length) (by omega) e1 hm
          rw [e] at r3
          refine h (.ref t) H1 (ρ ++ [a :: as]) Hd1 ⟨g.h, [a :: as], rfl⟩ r3 ⟨t, v1, a, as, rfl, ht, hy, ?_⟩
          rw [← rl.len]
          simp
        · exact False.elim h
    | sub m => exact False.elim h
    | fn => exact False.elim h
  | ex c Γ' S' =>
    rw [q] at h
    intro σ H1 ρ1 Hd1 g r sl
    have e := grow_take g
    rw [rl.len] at e
    have r2 := r.take S.length
    rw [e] at r2
    exact hW _ _ _ _ (h H1 ρ Hd1 (.hd g.h) r2)
  | bk Γ' S' => rw [q] at h; exact False.elim h
  | ct Γ' S' => rw [q] at h; exact False.elim h
  | bad => rw [q] at h; exact False.elim h
section
variable {P : Program} {w : World} {K : PySem.W.Frag} {mg : Str → Option Value} {base : Heap} {x qual : Str} {params : Arguments} {body : List Stmt} {scope : Scope} {dvs : List V} {kws : List (Str × V)} {f : Addr} {fd : FuncData}
/-- THE RULE: a def does what its body means -/
theorem fn_ok {N ps : List Str} {k n : Nat} {z : ZS} (F : FunD K x qual params body scope dvs kws f fd) (S : FnScope N ps scope) (hn : N.length - ps.length = n)
    (h : ∀ (cdv : Value) (A : Around) (outer : List Env) (s : Shared) (H : Hp) (E : XK), Room k (cxOf (L2.CX P w) P w K mg base N qual scope f cdv A outer s H E).A → PZSs (cxOf (L2.CX P w) P w K mg base N qual scope f cdv A outer s H E) body z) :
    FnOk P w K mg base (L2.CX P w) (k + 1) f fd ps (spOf K ps.length (zdef ps.length n z)) := by
  refine F.ok S (fun vs H Q E h => h.1) fun cdv A outer s H vs Q E hr hsp => ?_
  obtain ⟨hl, Fr, ρ, Hd, St, xs, rl, hx, af⟩ := hsp
  obtain ⟨t, p, sd⟩ := h cdv A outer s H E hr (passes_of rfl) (fun c d _ H => E c d H) (takes_of rfl rfl rfl rfl)
  exact ⟨t, p, sd Fr _ _ H _ St ρ Hd rl (slots_start hx (by rw [hl]; exact hn)) (aft_def rl (by rw [← sl_len hx]; exact hl) (fun _ _ _ _ e => e) af)⟩
end
/-! ### calls -/
structure Cal (P : Program) (w : World) (K : PySem.W.Frag) (mg : Str → Option Value) (base : Heap) (x : Str) (k : Nat) (F : Fn) : Prop where
  ex : ∃ (f : Addr) (fd : FuncData) (ps : List Str), mg x = some (.ref f) ∧ PySem.W.keepIn K (.ref f) = true ∧ Binds K fd ps [] ∧ FnOk P w K mg base (L2.CX P w) k f fd ps (spOf K ps.length F) ∧ ∀ xs S, xs.length ≠ ps.length → F xs S = .bad
theorem Cal.mono {P : Program} {w : World} {K : PySem.W.Frag} {mg : Str → Option Value} {base : Heap} {x : Str} {j k : Nat} {F : Fn} (c : Cal P w K mg base x j F) (h : j ≤ k) : Cal P w K mg base x k F := by
  obtain ⟨f, fd, ps, a, b, c, d, e⟩ := c.ex
  exact ⟨f, fd, ps, a, b, c, d.mono h, e⟩
def zcall (F : Fn) (za : ZA) : ZE := fun Γ S => (za Γ S).bind fun xs S1 => F xs S1
section
variable {X : Cx} {x : Str} {k : Nat} {F : Fn} {p pos : Pos} {e : Expr} {es : List Expr} {zs : ZA}
theorem pz_call (c : Cal X.prog X.w X.K X.mg X.base x k F) (hr : Room k X.A) (ha : PZA X (e :: es) zs) (hg : Gl X x := by rfl) (hdb : (x == ("__debug__" : Str)) = false := by decide)
    (he : starEach (e :: es) X.env = (false, eval e X.env) :: starEach es X.env := by rfl) (hpl : (backTo pos (starEach es X.env)).any (·.1) = false := by rfl) : PZ X (.Call (.Name x p) (e :: es) [] pos) (zcall F zs) := fun W tk => by
  obtain ⟨f, fd, ps, hm, hk, hb, FO, ar⟩ := c.ex
  obtain ⟨t, pa, s⟩ := ha W tk
  refine ⟨_, pe_callS FO hr hg hm hk hb (fun σ => passAt tk σ) pa hdb he hpl, fun Fr σ H Q Γ S ρ Hd rl sl af => ?_⟩
  refine s Fr σ H _ Γ S ρ Hd rl sl (Aft.imp (aft_bind af) ?_)
  rintro vs H1 ⟨ρ1, Hd1, xs, S1, g1, r1, hx, af1⟩
  have hl : xs.length = ps.length := by
    by_cases q : xs.length = ps.length
    · exact q
    · rw [ar xs S1 q] at af1
      exact False.elim af1
  refine ⟨by rw [sl_len hx]; exact hl, Fr, ρ1, Hd1, S1, xs, r1, hx, ?_⟩
  cases q : F xs S1 with
  | val y S2 => rw [q] at af1; exact af1
  | exc c S2 => rw [q] at af1; exact af1
  | bad => rw [q] at af1; exact af1
end
section
variable {P : Program} {w : World} {K : PySem.W.Frag} {mg : Str → Option Value} {base : Heap}
theorem cal_mk {x : Str} {k n : Nat} {z : ZS} {f : Addr} {fd : FuncData} {ps : List Str} (hm : mg x = some (.ref f)) (hk : PySem.W.keepIn K (.ref f) = true) (hb : Binds K fd ps []) (FO : FnOk P w K mg base (L2.CX P w) k f fd ps (spOf K ps.length (zdef ps.length n z))) : Cal P w K mg base x k (zdef ps.length n z) :=
  ⟨f, fd, ps, hm, hk, hb, FO, fun xs S h => by unfold zdef; rw [if_neg h]⟩
end
end Z
end
section
set_option Elab.async false
set_option linter.all false
set_option maxRecDepth 100000
set_option autoImplicit false
set_option maxHeartbeats 1000000
namespace Z
open PySem L2 PyProof.Rows
/-! ### methods of a list that change it -/
def MtZ1 (X : Cx) (id : String) (f : List PyData → PyData → Option (PyData × List PyData)) : Prop := ∃ rr : V → List V → Hp → VK → Prop, MtM X id rr ∧
  ∀ (F : Hp) (a : Addr) (y : V) (vs : List V) (H : Hp) (Q : VK) (ds ds' : List PyData) (d c : PyData) (S : Sto) (ρ : Ads) (Hd : Hp), Rel X.K F ρ Hd H S → H a = some (.lst vs) → DpAll X.K Hd vs ds → Dp X.K Hd y d → f ds d = some (c, ds') →
    (∀ v vs', Dp X.K Hd v c → DpAll X.K Hd vs' ds' → Q v (upd H a (.lst vs'))) → rr (.ref a) [y] H Q
def zmt1 (f : List PyData → PyData → Option (PyData × List PyData)) (zo za : ZE) : ZE := fun Γ S => (zo Γ S).bind fun x S1 => match lstAt S1 x with
  | some _ => (za Γ S1).bind fun y S2 => (match y, lstAt S2 x with
    | .d d, some (n, ds) => (match f ds d with
      | some (c, ds') => .val (.d c) (S2.set n (.lst ds'))
      | none => .bad)
    | _, _ => .bad)
  | none => .bad
def fExt (ds : List PyData) : PyData → Option (PyData × List PyData)
  | .list es => if ds.length + es.length ≤ lim then some (.none, ds ++ es) else none
  | _ => none
def fPopAt (ds : List PyData) : PyData → Option (PyData × List PyData)
  | .int i => if i.natAbs < 1000000 then (match seqIndex? i ds.length with
    | some k => (match ds[k]? with
      | some y => some (y, ds.eraseIdx k)
      | none => none)
    | none => none) else none
  | _ => none
theorem dpAll_erase {K : PySem.W.Frag} {H : Hp} : ∀ {vs : List V} {ds : List PyData} (i : Nat), DpAll K H vs ds → DpAll K H (vs.eraseIdx i) (ds.eraseIdx i)
  | _, _, _, .nil => .nil
  | _, _, 0, .cons _ t => t
  | _, _, i + 1, .cons h t => .cons h (dpAll_erase i t)
theorem dpAll_set {K : PySem.W.Frag} {H : Hp} {v : V} {d : PyData} (hv : Dp K H v d) : ∀ {vs : List V} {ds : List PyData} (i : Nat), DpAll K H vs ds → DpAll K H (vs.set i v) (ds.set i d)
  | _, _, _, .nil => .nil
  | _, _, 0, .cons _ t => .cons hv t
  | _, _, i + 1, .cons h t => .cons h (dpAll_set hv i t)
theorem dpAll_dropLast {K : PySem.W.Frag} {H : Hp} : ∀ {vs : List V} {ds : List PyData}, DpAll K H vs ds → DpAll K H vs.dropLast ds.dropLast
  | _, _, .nil => .nil
  | _, _, .cons _ .nil => .nil
  | _, _, .cons h (.cons h' t) => .cons h (dpAll_dropLast (.cons h' t))
section
variable {X : Cx} {o e : Expr} {zo za : ZE} {apos cpos : Pos} {name : Str} {id : String} {f : List PyData → PyData → Option (PyData × List PyData)}
theorem mtz_ext : MtZ1 X "list.extend" fExt := by
  refine ⟨_, mt_extend, fun F a y vs H Q ds ds' d c S ρ Hd r ha hds hy e k => ?_⟩
  cases hy with
  | lst hs hes =>
    rename_i b us es
    have e : (if ds.length + es.length ≤ lim then some (PyData.none, ds ++ es) else none) = some (c, ds') := e
    split at e
    · rename_i hl
      cases e
      refine ⟨a, b, vs, us, rfl, rfl, ha, r.hd _ _ (r.plain hs), by rw [dpAll_len hds, dpAll_len hes]; exact lim_line hl, k .non _ .non (dpAll_app hds hes)⟩
    · cases e
  | _ => cases e
theorem mtz_popAt : MtZ1 X "list.pop" fPopAt := by
  refine ⟨_, mt_popAt, fun F a y vs H Q ds ds' d c S ρ Hd r ha hds hy e k => ?_⟩
  cases hy with
  | int i =>
    unfold fPopAt at e
    dsimp only at e
    split at e
    · rename_i hi
      split at e
      · rename_i j hj
        split at e
        · rename_i w hw
          cases e
          obtain ⟨v, h1, h2⟩ := dpAll_get hds hw
          exact ⟨a, vs, i, j, v, rfl, rfl, ha, by omega, by omega, by rw [dpAll_len hds]; exact hj, h1, k v _ h2 (dpAll_erase j hds)⟩
        · cases e
      · cases e
    · cases e
  | _ => cases e
theorem pz_mt1 (h : MtZ1 X id f) (slot : Slot "list" name id) (hty : typeOf (.builtin id) = pure (.type "method_descriptor")) (ho : PZ X o zo) (ha : PZ X e za) (hbase : attributeBase o name X.env (eval o X.env) = eval o X.env := by rfl)
    (hfew : ((backTo cpos (starEach [e] X.env)).all (fun x => !x.1) && (backToKw cpos (keywordEach [] X.env)).all (fun x => x.1.isSome)
      && decide (([e] : List Expr).length + ([] : List Keyword).length + (if ([] : List Keyword).isEmpty then 0 else 1) < 30)) = true := by rfl)
    (hline : (apos.endLine == cpos.line) = true := by rfl) (hs : starEach [e] X.env = (false, eval e X.env) :: starEach [] X.env := by rfl) (hplain : (backTo cpos (starEach [] X.env)).any (·.1) = false := by rfl) :
    PZ X (.Call (.Attribute o name apos) [e] [] cpos) (zmt1 f zo za) := fun W tk => by
  obtain ⟨rr, hm, h2⟩ := h
  obtain ⟨t, p, s⟩ := ho W tk
  obtain ⟨t1, p1, s1⟩ := ha W tk
  refine ⟨_, pe_bm PySem.F.plainAttrs_list slot hty hm p (pa_cons p1 pa_nil hs) hbase hfew hline hs hplain, fun F σ H Q Γ S ρ Hd rl sl af => ?_⟩
  refine s F σ H _ Γ S ρ Hd rl sl (Aft.imp (aft_bind af) ?_)
  rintro x H1 ⟨ρ1, Hd1, x', S1, g1, r1, hx, af1⟩
  split at af1
  · rename_i nd q0
    obtain ⟨n0, ds0⟩ := nd
    obtain ⟨a, vs, rfl, h1, h3, _⟩ := lst_of r1 hx q0
    refine ⟨.inl ⟨rfl, vs, SqL.of h1⟩, ?_⟩
    refine s1 F σ H1 _ Γ S1 ρ1 Hd1 r1 (sl.grow g1) (Aft.imp (aft_bind af1) ?_)
    rintro y H2 ⟨ρ2, Hd2, y', S2, g2, r2, hy, af2⟩
    split at af2
    · rename_i d n ds q1
      split at af2
      · rename_i c ds' q2
        obtain ⟨a', vs', ea, h1', h2', h3'⟩ := lst_of r2 (hx.grow g2) q1
        cases ea
        exact h2 F a y vs' H2 Q ds ds' d c S2 ρ2 Hd2 r2 h1' h2' hy q2 fun v us hv hus => af2 v _ ρ2 Hd2 .refl (h3' _ _ hus) hv
      · exact False.elim af2
    · exact False.elim af2
  · exact False.elim af1
end
def zpop0 (zo : ZE) : ZE := fun Γ S => (zo Γ S).bind fun x S1 => match lstAt S1 x with
  | some (n, ds) => (match ds[ds.length - 1]? with
    | some y => .val (.d y) (S1.set n (.lst ds.dropLast))
    | none => .bad)
  | none => .bad
section
variable {X : Cx} {o e i value : Expr} {zo za zi zv : ZE} {apos cpos pos pos' : Pos}
theorem pz_pop0 (ho : PZ X o zo) (hbase : attributeBase o "pop" X.env (eval o X.env) = eval o X.env := by rfl) (hline : (apos.endLine == cpos.line) = true := by rfl) : PZ X (.Call (.Attribute o "pop" apos) [] [] cpos) (zpop0 zo) := fun W tk => by
  obtain ⟨t, p, s⟩ := ho W tk
  refine ⟨_, pe_bm0 PySem.F.plainAttrs_list PySem.F.slot_list_pop PySem.F.type_list_pop mt_pop p hbase hline, fun F σ H Q Γ S ρ Hd rl sl af => ?_⟩
  refine s F σ H _ Γ S ρ Hd rl sl (Aft.imp (aft_bind af) ?_)
  rintro x H1 ⟨ρ1, Hd1, x', S1, g1, r1, hx, af1⟩
  split at af1
  · rename_i n ds q0
    obtain ⟨a, vs, rfl, h1, h2, h3⟩ := lst_of r1 hx q0
    refine ⟨.inl ⟨rfl, vs, SqL.of h1⟩, ?_⟩
    split at af1
    · rename_i y q
      obtain ⟨v, e1, e2⟩ := dpAll_get h2 q
      exact ⟨a, vs, v, rfl, rfl, h1, by rw [dpAll_len h2]; exact e1, af1 v _ ρ1 Hd1 .refl (h3 _ _ (dpAll_dropLast h2)) e2⟩
    · exact False.elim af1
  · exact False.elim af1
/-! ### xs[i] = v -/
def zlput (zo zi zv : ZE) : ZS := fun Γ S => (zv Γ S).st Γ fun v S1 => (zo Γ S1).st Γ fun x S2 => (zi Γ S2).st Γ fun y S3 => match v, y, lstAt S3 x with
  | .d d, .d (.int k), some (n, ds) => (match ixN ds.length k with
    | some j => .nx Γ (S3.set n (.lst (ds.set j d)))
    | none => .bad)
  | _, _, _ => .bad
theorem pzs_lput (ho : PZ X o zo) (hi : PZ X i zi) (hv : PZ X value zv) (hs : swapsWithSole [.Subscript o i pos'] value pos.line X.env = pure false := by rfl) (hw : swappedStores [.Subscript o i pos'] value X.env = pure none := by rfl)
    (h1 : (assignEach [.Subscript o i pos'] X.env).map (·.2) = [assign (.Subscript o i pos') X.env] := by rfl)
    (ha : ∀ v, assign (.Subscript o i pos') X.env v = (do
      let ov ← holding [v] (eval o X.env)
      let iv ← holding [v, ov] (eval i X.env)
      standAt pos'
      holding [v, ov, iv] (setItem ov iv v)
      release [v, ov, iv] []) := by intro _; rfl) : PZS X (.Assign [.Subscript o i pos'] value pos) (zlput zo zi zv) := fun _ W tk => by
  obtain ⟨t, p, s⟩ := ho W tk
  obtain ⟨t1, p1, s1⟩ := hi W tk
  obtain ⟨t2, p2, s2⟩ := hv W tk
  refine ⟨_, ps_asg p2 (pg_sub p p1 set_list ha) hs hw h1, fun F D σ H Γ S ρ Hd rl sl af => ?_⟩
  refine s2 F σ H _ Γ S ρ Hd rl sl (Aft.imp (aft_st sl af) ?_)
  rintro v H1 ⟨ρ1, Hd1, v', S1, g1, r1, hv, af1⟩
  refine s F σ H1 _ Γ S1 ρ1 Hd1 r1 (sl.grow g1) (Aft.imp (aft_st (sl.grow g1) af1) ?_)
  rintro x H2 ⟨ρ2, Hd2, x', S2, g2, r2, hx, af2⟩
  refine s1 F σ H2 _ Γ S2 ρ2 Hd2 r2 ((sl.grow g1).grow g2) (Aft.imp (aft_st ((sl.grow g1).grow g2) af2) ?_)
  rintro y H3 ⟨ρ3, Hd3, y', S3, g3, r3, hy, af3⟩
  split at af3
  · rename_i d k n ds e1
    split at af3
    · rename_i j e2
      have hd : Dp X.K Hd3 v d := dp_mono (g2.trans g3).h hv
      obtain ⟨a, vs, rfl, k1, k2, k3⟩ := lst_of r3 (hx.grow g3) e1
      cases hy
      exact ⟨a, vs, k, j, rfl, rfl, k1, by rw [dpAll_len k2]; exact e2, af3 σ _ ρ3 Hd3 .refl (k3 _ _ (dpAll_set hd j k2)) (((sl.grow g1).grow g2).grow g3)⟩
    · exact False.elim af3
  · exact False.elim af3
end
/-! ### list.count of ints -/
def zcnt1 (zo za : ZE) : ZE := fun Γ S => (zo Γ S).bind fun x S1 => match res S1 x with
  | some (.list _) => (za Γ S1).bind fun y S2 => (match res S2 x, y with
    | some (.list ds), .d (.int k) => (match intsOf ds with
      | some ns => .val (.d (.int (ns.count k : Nat))) S2
      | none => .bad)
    | _, _ => .bad)
  | _ => .bad
section
variable {X : Cx} {o e : Expr} {zo za : ZE} {apos cpos pos : Pos}
theorem pz_cnt (ho : PZ X o zo) (ha : PZ X e za) (hbase : attributeBase o "count" X.env (eval o X.env) = eval o X.env := by rfl)
    (hfew : ((backTo cpos (starEach [e] X.env)).all (fun x => !x.1) && (backToKw cpos (keywordEach [] X.env)).all (fun x => x.1.isSome)
      && decide (([e] : List Expr).length + ([] : List Keyword).length + (if ([] : List Keyword).isEmpty then 0 else 1) < 30)) = true := by rfl)
    (hline : (apos.endLine == cpos.line) = true := by rfl) (hs : starEach [e] X.env = (false, eval e X.env) :: starEach [] X.env := by rfl) (hplain : (backTo cpos (starEach [] X.env)).any (·.1) = false := by rfl) :
    PZ X (.Call (.Attribute o "count" apos) [e] [] cpos) (zcnt1 zo za) := fun W tk => by
  obtain ⟨t, p, s⟩ := ho W tk
  obtain ⟨t1, p1, s1⟩ := ha W tk
  refine ⟨_, pe_bm PySem.F.plainAttrs_list PySem.F.slot_list_count PySem.F.type_list_count mt_lcount p (pa_cons p1 pa_nil hs) hbase hfew hline hs hplain, fun F σ H Q Γ S ρ Hd rl sl af => ?_⟩
  refine s F σ H _ Γ S ρ Hd rl sl (Aft.imp (aft_bind af) ?_)
  rintro x H1 ⟨ρ1, Hd1, x', S1, g1, r1, hx, af1⟩
  split at af1
  · rename_i ds0 q0
    obtain ⟨a, vs, rfl, h1, h3⟩ := vw_of r1 hx q0
    refine ⟨.inl ⟨rfl, vs, h1⟩, ?_⟩
    refine s1 F σ H1 _ Γ S1 ρ1 Hd1 r1 (sl.grow g1) (Aft.imp (aft_bind af1) ?_)
    rintro y H2 ⟨ρ2, Hd2, y', S2, g2, r2, hy, af2⟩
    split at af2
    · rename_i ds k q1
      split at af2
      · rename_i ns q2
        obtain ⟨a', ea, hs'⟩ := list_ints (vw_of r2 (hx.grow g2) q1) q2
        cases ea
        cases hy
        exact ⟨a, ns, k, rfl, rfl, hs', af2 _ H2 ρ2 Hd2 .refl r2 (.int _)⟩
      · exact False.elim af2
    · exact False.elim af2
  · exact False.elim af1
end
/-! ### list + list, list * int: a new list -/
def fCat : PyData → PyData → Option Box
  | .list a, .list b => if a.length + b.length ≤ lim then some (.lst (a ++ b)) else none
  | _, _ => none
def fRep : PyData → PyData → Option Box
  | .list a, .int k => if k.natAbs < 1000000 ∧ a.length * k.toNat ≤ lim then some (.lst (List.replicate k.toNat a).flatten) else none
  | _, _ => none
def zopF (f : PyData → PyData → Option Box) (za zb : ZE) : ZF := fun Γ S => (za Γ S).bind fun x S1 => (zb Γ S1).bind fun y S2 => match x, y with
  | .d a, .d b => ofOpt (f a b) S2
  | _, _ => .bad
theorem dpAll_rep {K : PySem.W.Frag} {H : Hp} {vs : List V} {ds : List PyData} (h : DpAll K H vs ds) : ∀ k : Nat, DpAll K H (List.replicate k vs).flatten (List.replicate k ds).flatten
  | 0 => .nil
  | k + 1 => by
    rw [List.replicate_succ, List.replicate_succ, List.flatten_cons, List.flatten_cons]
    exact dpAll_app h (dpAll_rep h k)
section
variable {X : Cx} {a b : Expr} {za zb : ZE} {pos : Pos}
theorem snd_opF {W : WX} {ta tb : TE} {rr : R2} {f : PyData → PyData → Option Box} (ha : Snd X.K W (SlIs X.K) ta za) (hb : Snd X.K W (SlIs X.K) tb zb)
    (ho : ∀ (F : Hp) (x y : V) (H : Hp) (Q : VK) (a b : PyData) (c : Box) (S : Sto) (ρ : Ads) (Hd : Hp), Rel X.K F ρ Hd H S → Dp X.K Hd x a → Dp X.K Hd y b → f a b = some c → MadeF X.K F ρ Hd H S c Q → rr x y H Q) : SndF X.K W (tOp rr ta tb) (zopF f za zb) := by
  intro F σ H Q Γ S ρ Hd rl sl af
  refine ha F σ H _ Γ S ρ Hd rl sl (Aft.imp (aft_bindF af) ?_)
  rintro x H1 ⟨ρ1, Hd1, x', S1, g1, r1, hx, af1⟩
  refine hb F σ H1 _ Γ S1 ρ1 Hd1 r1 (sl.grow g1) (Aft.imp (aft_bindF af1) ?_)
  rintro y H2 ⟨ρ2, Hd2, y', S2, g2, r2, hy, af2⟩
  split at af2
  · rename_i p q
    cases e : f p q with
    | none => rw [e] at af2; exact False.elim af2
    | some c =>
      rw [e] at af2
      exact ho F x y H2 Q p q c S2 ρ2 Hd2 r2 (dp_mono g2.h hx) hy e fun np o hp ok => af2 np _ ρ2 Hd2 .refl (r2.junk hp) (fun z => r2.ne_new hp z rfl) (r2.fr_free hp) (r2.hd.free hp) (by rw [upd_same]; simp) ok
  · exact False.elim af2
theorem pzf_cat (ha : PZ X a za) (hb : PZ X b zb) : PZF X (.BinOp a .Add b pos) (zopF fCat za zb) := fun W tk => by
  obtain ⟨ta, pa, sa⟩ := ha W tk
  obtain ⟨tb, pb, sb⟩ := hb W tk
  refine ⟨_, pe_op op_cat pa pb, snd_opF sa sb fun F x y H Q p q c S ρ Hd r hx hy e m => ?_⟩
  unfold fCat at e
  split at e
  · split at e
    · rename_i hl
      cases e
      cases hx with
      | lst s1 d1 =>
        cases hy with
        | lst s2 d2 => exact ⟨_, _, _, _, rfl, rfl, r.hd _ _ (r.plain s1), r.hd _ _ (r.plain s2), by rw [dpAll_len d1, dpAll_len d2]; exact lim_line hl, fun np hp => m np _ hp ⟨np, _, rfl, upd_same, dpAll_app d1 d2⟩⟩
    · cases e
  · cases e
theorem pzf_rep (ha : PZ X a za) (hb : PZ X b zb) : PZF X (.BinOp a .Mult b pos) (zopF fRep za zb) := fun W tk => by
  obtain ⟨ta, pa, sa⟩ := ha W tk
  obtain ⟨tb, pb, sb⟩ := hb W tk
  refine ⟨_, pe_op op_rep pa pb, snd_opF sa sb fun F x y H Q p q c S ρ Hd r hx hy e m => ?_⟩
  unfold fRep at e
  split at e
  · split at e
    · rename_i hl
      cases e
      cases hx with
      | lst s1 d1 =>
        cases hy
        exact ⟨_, _, _, rfl, rfl, r.hd _ _ (r.plain s1), by omega, by omega, by rw [dpAll_len d1]; exact lim_line hl.2, fun np hp => m np _ hp ⟨np, _, rfl, upd_same, dpAll_rep d1 _⟩⟩
    · cases e
  · cases e
end
/-! ### walking a list or a tuple -/
def iSeq (K : PySem.W.Frag) (tl : TE) : TI := fun σ H R => tl σ H fun x H1 => ∃ a, x = .ref a ∧ (((∃ xs, SqL K H1 a xs) ∧ R (Itl K a) H1) ∨ ((∃ xs, SqT K H1 a xs) ∧ R (Itt K a) H1))
theorem pi_seq {X : Cx} {tg l : Expr} {tl : TE} (hl : PE X l tl) : PI X tg l (iSeq X.K tl) := by
  refine ⟨fun pins s σ H R I h => ?_⟩
  refine thn (hl.run pins s σ H _ I h) fun v s1 ⟨x, H1, I1, r1, q1⟩ => ?_
  obtain ⟨a, e, q⟩ := q1
  subst e
  cases r1
  rcases q with ⟨⟨xs, hq⟩, q⟩ | ⟨⟨xs, hq⟩, q⟩
  · obtain ⟨its, rv, p, hz⟩ := I1.list hq
    refine wpAny_pyIter_list p.isList ?_
    refine ⟨s1.heap.objs.size, [s1.heap.objs.size], _, _, H1, rfl, I1.kept (t' := s1.toks) fun b o e => Heap.get?_push_of_some _ e, turn_list a _, ⟨_, Heap.get?_push_size _ rfl, rfl, rfl⟩, fun b hb => ?_, q⟩
    have e : b = s1.heap.objs.size := by simpa using hb
    subst e
    exact I1.fpOk (Nat.le_refl _) (I1.hok.fresh (Nat.le_refl _))
  · obtain ⟨its, rv, p, hz⟩ := I1.tuple hq
    refine wpAny_pyIter_tuple (show s1.heap.IsTuple a its.toArray from p) ?_
    refine ⟨s1.heap.objs.size, [s1.heap.objs.size], _, _, H1, rfl, I1.kept (t' := s1.toks) fun b o e => Heap.get?_push_of_some _ e, turn_tuple a _, ⟨_, Heap.get?_push_size _ rfl, rfl, rfl⟩, fun b hb => ?_, q⟩
    have e : b = s1.heap.objs.size := by simpa using hb
    subst e
    exact I1.fpOk (Nat.le_refl _) (I1.hok.fresh (Nat.le_refl _))
def itemsQ : Sl → Option (List PyData)
  | .d (.list ds) => some ds
  | .d (.tuple ds) => some ds
  | _ => none
def ziQ (z : ZE) : ZI := fun Γ S => (z Γ S).bind fun x S1 => ofOpt (itemsQ x) S1
theorem pzi_Q {X : Cx} {tg e : Expr} {ze : ZE} (he : PZ X e ze) : PZI X tg e (ziQ ze) := fun W tk => by
  obtain ⟨t, p, s⟩ := he W tk
  refine ⟨_, pi_seq p, fun F σ H Q Γ S ρ Hd rl sl af => ?_⟩
  refine s F σ H _ Γ S ρ Hd rl sl (Aft.imp (aft_bind af) ?_)
  rintro x H1 ⟨ρ1, Hd1, x', S1, g1, r1, hx, af1⟩
  cases q : itemsQ x' with
  | none => rw [q] at af1; exact False.elim af1
  | some ds =>
    rw [q] at af1
    unfold itemsQ at q
    split at q
    · cases q
      cases hx with
      | lst hs hd => exact ⟨_, rfl, .inl ⟨⟨_, r1.hd.seq hs⟩, af1 _ H1 ρ1 Hd1 .refl r1 (walk_list hs hd)⟩⟩
    · cases q
      cases hx with
      | tup hs hd => exact ⟨_, rfl, .inr ⟨⟨_, same_t r1.hd hs⟩, af1 _ H1 ρ1 Hd1 .refl r1 (walk_tup hs hd)⟩⟩
    · cases q
end Z
end
section
set_option Elab.async false
set_option linter.all false
set_option maxRecDepth 100000
set_option autoImplicit false
set_option maxHeartbeats 1000000
namespace Z
open PySem L2 PySem.Spec
theorem bt_min : bootBuiltins "min" = some (.builtin "min") := by decide +kernel
theorem bt_max : bootBuiltins "max" = some (.builtin "max") := by decide +kernel
theorem bt_sum : bootBuiltins "sum" = some (.builtin "sum") := by decide +kernel
theorem bt_all : bootBuiltins "all" = some (.builtin "all") := by decide +kernel
theorem bt_any : bootBuiltins "any" = some (.builtin "any") := by decide +kernel
theorem bt_abs : bootBuiltins "abs" = some (.builtin "abs") := by decide +kernel
theorem bt_len : bootBuiltins "len" = some (.builtin "len") := by decide +kernel
theorem bt_sorted : bootBuiltins "sorted" = some (.builtin "sorted") := by decide +kernel
theorem bt_isinstance : bootBuiltins "isinstance" = some (.builtin "isinstance") := by decide +kernel
theorem bt_int : bootBuiltins "int" = some (.type "int") := by decide +kernel
theorem bt_str : bootBuiltins "str" = some (.type "str") := by decide +kernel
theorem bt_tuple : bootBuiltins "tuple" = some (.type "tuple") := by decide +kernel
theorem bt_list : bootBuiltins "list" = some (.type "list") := by decide +kernel
theorem bt_bool : bootBuiltins "bool" = some (.type "bool") := by decide +kernel
theorem bt_dict : bootBuiltins "dict" = some (.type "dict") := by decide +kernel
theorem bt_set : bootBuiltins "set" = some (.type "set") := by decide +kernel
theorem hu65 {k : Nat} {A : Around} (r : Room k A) : A.units + 65 < cLine := by have := r.un; omega
theorem hu1 {k : Nat} {A : Around} (r : Room k A) : A.units + 1 < cLine := by have := r.un; omega
def fuel : Nat := 100000
/-! ### a new dict -/
def zdnew : ZF := fun _ S => .val (.dic []) S
section
variable {X : Cx} {x : Str} {pos : Pos}
theorem pz_glob {i : Int} (hg : Gl X x) (hm : ∃ t, X.mg x = some (.int i t)) (hd : (x == ("__debug__" : Str)) = false := by decide) : PZ X (.Name x pos) (zc (.int i)) :=
  let ⟨t, e⟩ := hm
  pz_c (pe_glob (v := .int i) hg e ⟨t, rfl⟩ hd) fun _ => .int i
theorem pz_globS {i : Str} (hg : Gl X x) (hm : ∃ t, X.mg x = some (.str i t)) (hd : (x == ("__debug__" : Str)) = false := by decide) : PZ X (.Name x pos) (zc (.str i)) :=
  let ⟨t, e⟩ := hm
  pz_c (pe_glob (v := .str i) hg e ⟨t, rfl⟩ hd) fun _ => .str i
end
/-- a new object of the store, as a value -/
def znew (z : ZF) : ZE := fun Γ S => (z Γ S).bind fun b S1 => .val (.box S1.length) (S1 ++ [b])
section
variable {X : Cx} {a b : Expr} {za : ZE} {zf : ZF} {pos : Pos}
theorem pzf_dnew : PZF X (.Dict [] [] pos) zdnew := fun _ _ => ⟨_, pe_dnewK, fun F σ H Q Γ S ρ Hd r sl af p hp => af p _ ρ Hd .refl (r.junk hp) (fun z => r.ne_new hp z rfl) (r.fr_free hp) (r.hd.free hp) (by rw [upd_same]; simp) ⟨p, [], rfl, upd_same, .nil⟩⟩
theorem pz_new (he : PZF X a zf) : PZ X a (znew zf) := fun W tk => by
  obtain ⟨t, p, s⟩ := he W tk
  refine ⟨t, p, fun F σ H Q Γ S ρ Hd rl sl af => ?_⟩
  refine s F σ H _ Γ S ρ Hd rl sl ?_
  unfold znew at af
  cases q : zf Γ S with
  | val b S1 =>
    rw [q] at af
    intro p H1 ρ1 Hd1 g1 r1 h1 h2 h3 h4 h5
    exact af _ H1 _ Hd1 (g1.trans Rel.grB) (r1.newB h1 h2 h3 h4 h5) ⟨p, [], rfl, by rw [← r1.len]; simp⟩
  | exc c S1 => rw [q] at af; exact af
  | bad => rw [q] at af; exact af
end
end Z
end
section
set_option Elab.async false
set_option linter.all false
set_option maxRecDepth 100000
set_option autoImplicit false
set_option maxHeartbeats 1000000
namespace Z
open PySem PySem.Spec PyProof.Rows L2
/-! ### the head -/
def noList (K : PySem.W.Frag) : Bool := K.all fun p => decide (p.2.cls ≠ .type "list")
theorem look_mem {α : Type} : ∀ {l : List (Addr × α)} {a : Addr} {x : α}, l.lookup a = some x → (a, x) ∈ l
  | (b, y) :: r, a, x, h => by
    rw [List.lookup_cons] at h
    split at h
    · rename_i e
      cases h
      rw [eq_of_beq e]
      exact List.mem_cons_self
    · exact List.mem_cons_of_mem _ (look_mem h)
theorem noList_nk {K : PySem.W.Frag} (h : noList K = true) : ∀ a o, K.lookup a = some o → o.cls ≠ .type "list" := fun a o e =>
  of_decide_eq_true (List.all_eq_true.mp h (a, o) (look_mem e))
theorem law_sp {K : PySem.W.Frag} {n : Nat} {F : Fn} (hk : noList K = true) (hF : ∀ ns : List Int, ns.length ≤ n → ∃ S', F [.box 0] [.scr ns] = .val (.d (.bool true)) S') (H : Hp) (a : Addr) (ns : List Int) (hl : ns.length ≤ n) (ho : Only H) (hS : SqL K H a (ns.map V.int)) :
    spOf K 1 F [.ref a] H (fun v _ => v = .bl true) fun _ _ _ => False := by
  have hz : ∃ o, H a = some (.frz o (.lst (ns.map V.int))) := by
    rcases hS with (h | h) | ⟨o, its, m, hk1, hc, _⟩
    · rcases ho a with z | ⟨o, xs, z⟩
      · rw [z] at h; cases h
      · rw [z] at h; cases h
    · exact h
    · exact absurd hc (noList_nk hk _ _ hk1)
  obtain ⟨o, hz⟩ := hz
  obtain ⟨S', e⟩ := hF ns hl
  refine ⟨rfl, fun _ => none, [[a]], fun _ => none, [.scr ns], [.box 0], ⟨fun _ _ z => (nomatch z), fun _ _ z => (nomatch z), fun _ _ z => (nomatch z), fun _ _ z => (nomatch z), noList_nk hk, rfl, by simp, fun b hb => ?_, fun i b as h1 h2 _ => ?_⟩, .cons ⟨a, [], rfl, rfl⟩ .nil, ?_⟩
  · have hb : b = a := by simpa using hb
    rw [hb, hz]
    simp
  · have hi : i = 0 := by
      have := (List.getElem?_eq_some_iff.mp h1).1
      simpa using this
    subst hi
    cases h1
    cases h2
    exact ⟨fun _ _ => ⟨rfl, rfl⟩, a, o, rfl, hz⟩
  · rw [e]
    intro v H' ρ' Hd' g r hv
    cases hv
    rfl
theorem walk_z {l : PySem.W.OpenLaw} {n k : Nat} {q : Program} {loose : List Str} {XP : (Str → Option Value) → Heap → Prop} {YP : World → Heap → Prop} {d : DefRec} {x : Str} {F : Fn}
    (hn : l.most = some n) (hn2 : n ≤ sizeLine) (hdf : d.params.defaults = []) (hr : Room k callerA)
    (hF : ∀ ns : List Int, ns.length ≤ n → ∃ S', F [.box 0] [.scr ns] = .val (.d (.bool true)) S')
    (h : ∀ (w : World) (mg : Str → Option Value) (fa : Addr) (h : Heap), YP w h → h.Ns mainGlobals mg → mg d.name = some (.ref fa) →
      ∃ (K : PySem.W.Frag) (fd : FuncData), noList K = true ∧ K.In h ∧ (∀ (s : Shared) (u : Value), BindsTo s fd ⟨[u], []⟩ [(x, u)]) ∧
        ∀ base : Heap, K.In base → base.Ns mainGlobals mg → FnOk l.prog w K mg base (L2.CX l.prog w) k fa fd [x] (spOf K 1 F)) :
    PySem.W.WalkO q loose XP YP l.row.toRowW d [] (fun f vs => PySem.call f vs) := by
  refine Att.attach_call hn hdf fun w s₀ s₁ mg mb fa o pm cd doc a vs ns G Y ho hd hcd hmg hobj hints hlen hg => ?_
  obtain ⟨K, fd, hk, KX, hb, hF'⟩ := h w mg fa _ Y G.T.g hmg
  refine law_call KX G.T.g G.T.b G.T.builtins G.T.nolimit hg hobj hints (Nat.le_trans hlen hn2) hr hF' hb (fun H hO hS => law_sp hk hF H a ns hlen hO hS) fun H e s' hz => ?_
  obtain ⟨_, _, _, _, _, _, _, _, _, _, _, _, hf⟩ := hz
  exact hf
end Z
end
section
set_option Elab.async false
set_option linter.all false
set_option maxRecDepth 100000
set_option autoImplicit false
set_option maxHeartbeats 1000000
namespace Z
open PySem L2
/-! ### reckoning with the meanings -/
theorem allD_nil : allD [] = some [] := rfl
theorem allD_cons {x : PyData} {r : List Sl} : allD (.d x :: r) = (allD r).map (x :: ·) := rfl
theorem dMul_ok {i j : Int} (h : (-18446744073709551616 < i ∧ i < 18446744073709551616) ∨ (-18446744073709551616 < j ∧ j < 18446744073709551616)) : dMul (.int i) (.int j) = some (.int (i * j)) := by
  refine if_pos ?_
  omega
theorem dMod_ok {i j : Int} (h : 0 < j) : dMod (.int i) (.int j) = some (.int (i % j)) := if_pos h
theorem dDiv_ok {i j : Int} (h : 0 < j ∧ j < 1073741824) : dDiv (.int i) (.int j) = some (.int (i / j)) := if_pos ⟨h.1, by omega⟩
theorem dEq_i {i j : Int} : dEq (.int i) (.int j) = some (.bool (i == j)) := rfl
theorem dEq_s {i j : Str} : dEq (.str i) (.str j) = some (.bool (i == j)) := rfl
theorem dEq_b {i j : Bool} : dEq (.bool i) (.bool j) = some (.bool (i == j)) := rfl
theorem dNe_i {i j : Int} : dNe (.int i) (.int j) = some (.bool (!(i == j))) := rfl
theorem dNe_s {i j : Str} : dNe (.str i) (.str j) = some (.bool (!(i == j))) := rfl
theorem dNe_b {i j : Bool} : dNe (.bool i) (.bool j) = some (.bool (!(i == j))) := rfl
theorem intsOf_nil : intsOf [] = some [] := rfl
theorem intsOf_cons {i : Int} {r : List PyData} : intsOf (.int i :: r) = (intsOf r).map (i :: ·) := rfl
theorem atI_0 {α : Type} {a : α} {l : List α} : atI (a :: l) 0 = some a := by
  unfold atI ixN
  rw [if_pos (Int.le_refl 0), if_pos (by simp)]
  rfl
theorem atI_1 {α : Type} {a b : α} {l : List α} : atI (a :: b :: l) 1 = some b := by
  unfold atI ixN
  rw [if_pos (by omega), if_pos (by simp only [List.length_cons]; omega)]
  rfl
theorem atI_2 {α : Type} {a b c : α} {l : List α} : atI (a :: b :: c :: l) 2 = some c := by
  unfold atI ixN
  rw [if_pos (by omega), if_pos (by simp only [List.length_cons]; omega)]
  rfl
theorem atI_ok {α : Type} {l : List α} {i : Int} (h0 : 0 ≤ i) (h1 : i < l.length) : atI l i = l[i.toNat]? := by
  unfold atI ixN
  rw [if_pos h0, if_pos h1]
  rfl
theorem atI_ex {α : Type} {l : List α} {i : Int} (h0 : 0 ≤ i) (h1 : i < l.length) : ∃ x, atI l i = some x ∧ x ∈ l := by
  have h : i.toNat < l.length := by omega
  exact ⟨l[i.toNat], by rw [atI_ok h0 h1, List.getElem?_eq_getElem h], List.getElem_mem h⟩
theorem mod_le {a b : Int} (h : 0 < b) : 0 ≤ a % b ∧ a % b < b := ⟨Int.emod_nonneg _ (by omega), Int.emod_lt_of_pos _ h⟩
theorem putD_keys {κ : Type} [DecidableEq κ] {kvs : List (κ × PyData)} {k : κ} {v : PyData} : (putD kvs k v).map (·.1) = if k ∈ kvs.map (·.1) then kvs.map (·.1) else kvs.map (·.1) ++ [k] := by
  unfold putD
  by_cases h : k ∈ kvs.map (·.1)
  · rw [if_pos h, if_pos (by
      obtain ⟨p, hp, e⟩ := List.mem_map.mp h
      exact List.any_eq_true.mpr ⟨p, hp, decide_eq_true e⟩), List.map_map]
    refine List.map_congr_left fun p _ => ?_
    show (if p.1 = k then (p.1, v) else p).1 = p.1
    split <;> rfl
  · rw [if_neg h, if_neg (by
      intro z
      obtain ⟨p, hp, e⟩ := List.any_eq_true.mp z
      exact h (List.mem_map.mpr ⟨p, hp, of_decide_eq_true e⟩)), List.map_append]
    rfl
theorem isort_lt {ks : List Int} (h : ks.Nodup) : (isort ks).Pairwise (· < ·) := by
  have h1 := isort_pw ks
  have h2 : (isort ks).Nodup := (isort_perm ks).nodup_iff.mpr h
  exact (h1.and h2).imp fun ⟨a, b⟩ => by omega
theorem isort_mem {ks : List Int} {x : Int} : x ∈ isort ks ↔ x ∈ ks := (isort_perm ks).mem_iff
theorem isort_len {ks : List Int} : (isort ks).length = ks.length := (isort_perm ks).length_eq
def izs (n : Nat) : List Int := (List.range n).map fun (i : Nat) => (i : Int)
theorem izs_mem {n : Nat} {x : Int} : x ∈ izs n ↔ 0 ≤ x ∧ x < n := by
  unfold izs
  rw [List.mem_map]
  constructor
  · rintro ⟨i, hi, rfl⟩
    have := List.mem_range.mp hi
    omega
  · rintro ⟨h0, h1⟩
    exact ⟨x.toNat, List.mem_range.mpr (by omega), by omega⟩
theorem sum_const {c : Nat} : ∀ {l : List Nat}, (∀ x ∈ l, x = c) → l.sum = l.length * c
  | [], _ => by simp
  | x :: l, h => by
    rw [List.sum_cons, h x List.mem_cons_self, sum_const fun y hy => h y (List.mem_cons_of_mem _ hy), List.length_cons, Nat.add_mul]
    omega
theorem izs_len {n : Nat} : (izs n).length = n := by simp [izs]
def izr (lo : Int) (n : Nat) : List Int := (List.range n).map fun (i : Nat) => lo + (i : Int)
theorem izr_mem {lo : Int} {n : Nat} {x : Int} : x ∈ izr lo n ↔ lo ≤ x ∧ x < lo + n := by
  unfold izr
  rw [List.mem_map]
  constructor
  · rintro ⟨i, hi, rfl⟩
    have := List.mem_range.mp hi
    omega
  · rintro ⟨h0, h1⟩
    exact ⟨(x - lo).toNat, List.mem_range.mpr (by omega), by omega⟩
theorem izr_len {lo : Int} {n : Nat} : (izr lo n).length = n := by simp [izr]
theorem rngL_izs {n : Nat} : rngL 0 n = (izs n).map .int := by
  unfold rngL izs
  rw [List.map_map]
  refine List.map_congr_left fun i _ => ?_
  show PyData.int (0 + (i : Int)) = .int i
  rw [Int.zero_add]
theorem rngL_izr {lo : Int} {n : Nat} : rngL lo n = (izr lo n).map .int := by
  unfold rngL izr
  rw [List.map_map]
  rfl
theorem rng1_ok {j : Int} (h : -1000000 < j ∧ j < 1000000) : rng1 [.d (.int j)] = some ((izs j.toNat).map .int) := by
  rw [← rngL_izs]
  exact if_pos (by omega)
theorem rng2_ok {i j : Int} (h : (-1000000 < i ∧ i < 1000000) ∧ -1000000 < j ∧ j < 1000000) : rng2 [.d (.int i), .d (.int j)] = some ((izr i (j - i).toNat).map .int) := by
  rw [← rngL_izr]
  exact if_pos (by omega)
/-! ### drums -/
structure IsDrum (n : Int) (hs : List Int) : Prop where
  ne : hs ≠ []
  lt : hs.Pairwise (· < ·)
  rg : ∀ h ∈ hs, 0 ≤ h ∧ h < n
/-! ### what a run ends with -/
abbrev XP := Str → Sto → Prop
abbrev noX : XP := fun _ _ => False
def OkE {α : Type} (o : Out α) (X : XP) (P : α → Sto → Prop) : Prop := match o with
  | .val a S => P a S
  | .exc c S => X c S
  | .bad => False
structure Po where
  nx : Env1 → Sto → Prop := fun _ _ => False
  rt : Sl → Sto → Prop := fun _ _ => False
  bk : Env1 → Sto → Prop := fun _ _ => False
  ct : Env1 → Sto → Prop := fun _ _ => False
  ex : Str → Env1 → Sto → Prop := fun _ _ _ => False
def OkS (o : FS) (D : Po) : Prop := match o with
  | .nx Γ S => D.nx Γ S
  | .rt x S => D.rt x S
  | .bk Γ S => D.bk Γ S
  | .ct Γ S => D.ct Γ S
  | .ex c Γ S => D.ex c Γ S
  | .bad => False
section
variable {α β : Type} {o : Out α} {X : XP} {P : β → Sto → Prop} {Q : α → Sto → Prop} {f : α → Sto → Out β} {Γ : Env1} {S : Sto} {h : α → Sto → FS} {D : Po} {k : ZS} {p : FS} {c : Str} {a : α}
theorem okE_val : OkE (.val a S) X Q = Q a S := rfl
theorem okE_exc : OkE (.exc c S : Out α) X Q = X c S := rfl
theorem okE_bind : OkE (o.bind f) X P = OkE o X fun a S => OkE (f a S) X P := by cases o <;> rfl
theorem okS_st : OkS (o.st Γ h) D = OkE o (fun c S => D.ex c Γ S) fun a S => OkS (h a S) D := by cases o <;> rfl
theorem okS_seq : OkS (p.seq k) D = OkS p { D with nx := fun Γ S => OkS (k Γ S) D } := by cases p <;> rfl
theorem okS_nx : OkS (.nx Γ S) D = D.nx Γ S := rfl
theorem okS_rt {x : Sl} : OkS (.rt x S) D = D.rt x S := rfl
theorem okS_bk : OkS (.bk Γ S) D = D.bk Γ S := rfl
theorem okS_ct : OkS (.ct Γ S) D = D.ct Γ S := rfl
theorem okS_ex : OkS (.ex c Γ S) D = D.ex c Γ S := rfl
theorem OkE.imp {Q' : α → Sto → Prop} {X' : XP} (h : OkE o X Q) (hx : ∀ c S, X c S → X' c S) (i : ∀ a S, Q a S → Q' a S) : OkE o X' Q' := by
  cases o with
  | val a S => exact i _ _ h
  | exc c S => exact hx _ _ h
  | bad => exact h
theorem OkE.eq (h : OkE o noX Q) : ∃ a S, o = .val a S ∧ Q a S := by
  cases o with
  | val a S => exact ⟨a, S, rfl, h⟩
  | exc c S => exact False.elim h
  | bad => exact False.elim h
theorem OkE.val {x : α} {S' : Sto} (h : OkE o noX fun a S => a = x ∧ S = S') : o = .val x S' := by
  obtain ⟨a, S, e, rfl, rfl⟩ := h.eq
  exact e
theorem okE_ofOpt {x : α} : OkE (ofOpt (some x) S) X Q = Q x S := rfl
theorem okE_ite {b : Prop} [Decidable b] {o o' : Out α} : OkE (if b then o else o') X Q = (if b then OkE o X Q else OkE o' X Q) := by split <;> rfl
theorem okS_ite {b : Prop} [Decidable b] {o o' : FS} : OkS (if b then o else o') D = (if b then OkS o D else OkS o' D) := by split <;> rfl
end
theorem ok_def {a n : Nat} {z : ZS} {xs : List Sl} {S : Sto} {X : XP} {P : Sl → Sto → Prop} (ha : xs.length = a)
    (h : OkS (z (xs.map some ++ List.replicate n none) S) { nx := fun _ S' => P (.d .none) (S'.take S.length), rt := fun x S' => OkE (retN S.length x S') X P, ex := fun c _ S' => X c (S'.take S.length) }) : OkE (zdef a n z xs S) X P := by
  unfold zdef
  rw [if_pos ha]
  cases q : z (xs.map some ++ List.replicate n none) S with
  | nx Γ' S' => rw [q] at h; exact h
  | rt x S' => rw [q] at h; exact h
  | bk Γ' S' => rw [q] at h; exact False.elim h
  | ct Γ' S' => rw [q] at h; exact False.elim h
  | ex c Γ' S' => rw [q] at h; exact h
  | bad => rw [q] at h; exact False.elim h
theorem ok_seq {z z' : ZS} {Γ : Env1} {S : Sto} {D : Po} (h : OkS (z Γ S) { D with nx := fun Γ S => OkS (z' Γ S) D }) : OkS (zseq z z' Γ S) D := by
  unfold zseq
  rw [okS_seq]
  exact h
theorem zdef_val {a n : Nat} {z : ZS} {xs : List Sl} {S S1 S2 : Sto} {d : PyData} (ha : xs.length = a) (h : z (xs.map some ++ List.replicate n none) S = .rt (.d d) S1) (hs : S1.take S.length = S2) : zdef a n z xs S = .val (.d d) S2 := by
  unfold zdef
  rw [if_pos ha, h, ← hs]
  rfl
theorem cut_init {α : Type} {l : List α} : cutL l none (some (-1)) = l.dropLast := by
  unfold cutL
  show (l.drop 0).take ((if (-1 : Int) < 0 then (-1 + (l.length : Int)).toNat else min (-1 : Int).toNat l.length) - 0) = _
  rw [if_pos (by omega), List.drop_zero, List.dropLast_eq_take]
  congr 1
  omega
theorem cut_tail {α : Type} {l : List α} : cutL l (some 1) none = l.tail := by
  unfold cutL
  show (l.drop (if (1 : Int) < 0 then (1 + (l.length : Int)).toNat else min (1 : Int).toNat l.length)).take (l.length - (if (1 : Int) < 0 then (1 + (l.length : Int)).toNat else min (1 : Int).toNat l.length)) = _
  rw [if_neg (by omega)]
  cases l with
  | nil => rfl
  | cons a l =>
    have e : min (1 : Int).toNat (a :: l).length = 1 := by simp only [List.length_cons]; omega
    rw [e]
    simp
theorem retN_d {n : Nat} {y : PyData} {S : Sto} : retN n (.d y) S = .val (.d y) (S.take n) := rfl
theorem getLast0 {α : Type} {l : List α} {a : α} : (l ++ [a])[l.length]? = some a := by simp
theorem setLast0 {α : Type} {l : List α} {a b : α} : (l ++ [a]).set l.length b = l ++ [b] := by simp
theorem takeLast0 {α : Type} {l r : List α} : (l ++ r).take l.length = l := by simp
theorem takeLast1 {α : Type} {l : List α} {a : α} : (l ++ [a]).take (l.length + 1) = l ++ [a] := List.take_of_length_le (by simp)
/-! ### loops -/
theorem ok_forGo {n : Nat} {g : ZG} {body : ZS} {D : Po} (I : Nat → Env1 → Sto → Prop) : ∀ (ds : List PyData) (j : Nat) (Γ : Env1) (S : Sto), I j Γ S →
    (∀ i d Γ S, ds[i]? = some d → I (j + i) Γ S → ∃ Γ1, g d Γ = some Γ1 ∧ OkS (body Γ1 S) { D with nx := fun Γ' S' => I (j + i + 1) (forget n Γ') (S'.take n), ct := fun Γ' S' => I (j + i + 1) (forget n Γ') (S'.take n), bk := D.nx }) →
    (∀ Γ S, I (j + ds.length) Γ S → D.nx Γ S) → OkS (forGo n g body ds Γ S) D
  | [], j, Γ, S, h0, _, h2 => h2 Γ S h0
  | d :: ds, j, Γ, S, h0, h1, h2 => by
    obtain ⟨Γ1, e, hb⟩ := h1 0 d Γ S rfl h0
    have go : ∀ (Γ2 : Env1) (S2 : Sto), I (j + 0 + 1) (forget n Γ2) (S2.take n) → OkS (forGo n g body ds (forget n Γ2) (S2.take n)) D := fun Γ2 S2 hi =>
      ok_forGo I ds (j + 1) _ _ hi (fun i d Γ S e h => by
        have e1 : j + 1 + i = j + (i + 1) := by omega
        rw [e1] at h ⊢
        exact h1 (i + 1) d Γ S e h) fun Γ S h => h2 Γ S (by
        have e1 : j + (d :: ds).length = j + 1 + ds.length := by simp only [List.length_cons]; omega
        rw [e1]
        exact h)
    unfold forGo
    rw [e]
    dsimp only
    cases q : body Γ1 S with
    | nx Γ2 S2 => rw [q] at hb; exact go Γ2 S2 hb
    | ct Γ2 S2 => rw [q] at hb; exact go Γ2 S2 hb
    | bk Γ2 S2 => rw [q] at hb; exact hb
    | rt x S2 => rw [q] at hb; exact hb
    | ex c Γ2 S2 => rw [q] at hb; exact hb
    | bad => rw [q] at hb; exact False.elim hb
/-- a for loop with an invariant -/
theorem ok_for {n : Nat} {g : ZG} {body : ZS} {D : Po} (I : Nat → Env1 → Sto → Prop) {ds : List PyData} {Γ : Env1} {S : Sto} (h0 : I 0 Γ S)
    (h1 : ∀ i d Γ S, ds[i]? = some d → I i Γ S → ∃ Γ1, g d Γ = some Γ1 ∧ OkS (body Γ1 S) { D with nx := fun Γ' S' => I (i + 1) (forget n Γ') (S'.take n), ct := fun Γ' S' => I (i + 1) (forget n Γ') (S'.take n), bk := D.nx })
    (h2 : ∀ Γ S, I ds.length Γ S → D.nx Γ S) : OkS (forGo n g body ds Γ S) D :=
  ok_forGo I ds 0 Γ S h0 (fun i d Γ S e h => by
    have e1 : 0 + i = i := by omega
    rw [e1] at h ⊢
    exact h1 i d Γ S e h) fun Γ S h => h2 Γ S (by rw [Nat.zero_add] at h; exact h)
/-- a while loop: a measure goes down -/
theorem ok_while {n : Nat} {zt : ZT} {body : ZS} {D : Po} (I : Nat → Env1 → Sto → Prop)
    (h1 : ∀ m Γ S, I m Γ S → OkE (zt Γ S) (fun c S => D.ex c Γ S) fun c S1 => if c = true then OkS (body Γ S1) { D with nx := fun Γ' S' => ∃ m', m' < m ∧ I m' (forget n Γ') (S'.take n), ct := fun Γ' S' => ∃ m', m' < m ∧ I m' (forget n Γ') (S'.take n), bk := D.nx } else D.nx Γ S1) :
    ∀ (k m : Nat) (Γ : Env1) (S : Sto), m < k → I m Γ S → OkS (whGo n zt body k Γ S) D
  | 0, m, _, _, hm, _ => absurd hm (Nat.not_lt_zero m)
  | k + 1, m, Γ, S, hm, h0 => by
    have h := h1 m Γ S h0
    unfold whGo
    rw [okS_st]
    refine OkE.imp h (fun _ _ z => z) fun c S1 hc => ?_
    cases c with
    | false => exact hc
    | true =>
      have go : ∀ (Γ2 : Env1) (S2 : Sto), (∃ m', m' < m ∧ I m' (forget n Γ2) (S2.take n)) → OkS (whGo n zt body k (forget n Γ2) (S2.take n)) D := fun Γ2 S2 ⟨m', a, b⟩ => ok_while I h1 k m' _ _ (by omega) b
      have hc : OkS (body Γ S1) { D with nx := fun Γ' S' => ∃ m', m' < m ∧ I m' (forget n Γ') (S'.take n), ct := fun Γ' S' => ∃ m', m' < m ∧ I m' (forget n Γ') (S'.take n), bk := D.nx } := hc
      rw [if_pos rfl]
      cases q : body Γ S1 with
      | nx Γ2 S2 => rw [q] at hc; exact go Γ2 S2 hc
      | ct Γ2 S2 => rw [q] at hc; exact go Γ2 S2 hc
      | bk Γ2 S2 => rw [q] at hc; exact hc
      | rt x S2 => rw [q] at hc; exact hc
      | ex c Γ2 S2 => rw [q] at hc; exact hc
      | bad => rw [q] at hc; exact False.elim hc
/-- a comprehension whose items are told, and that changes nothing -/
theorem ok_lc {one : PyData → Sto → Out (Option PyData)} {S : Sto} {f : PyData → Option PyData} : ∀ (ds acc : List PyData), (∀ d ∈ ds, one d S = .val (f d) S) → acc.length + ds.length ≤ 1000000 → lcGo one ds acc S = .val (acc ++ ds.filterMap f) S
  | [], acc, _, _ => by simp [lcGo]
  | d :: ds, acc, h, hl => by
    simp only [List.length_cons] at hl
    unfold lcGo
    rw [h d List.mem_cons_self, bind_val]
    cases q : f d with
    | none =>
      dsimp only
      rw [ok_lc ds acc (fun d hd => h d (List.mem_cons_of_mem _ hd)) (by omega), List.filterMap_cons_none q]
    | some y =>
      dsimp only
      rw [if_pos (show acc.length < 1000000 by omega), ok_lc ds (acc ++ [y]) (fun d hd => h d (List.mem_cons_of_mem _ hd)) (by simp; omega), List.filterMap_cons_some q]
      simp
/-- one with no test: the items' map -/
theorem lc_map {g : ZG} {ze : ZE} {Γ0 : Env1} {S : Sto} {ds : List PyData} (f : PyData → PyData) (hl : ds.length ≤ 1000000) (h : ∀ d ∈ ds, ∃ Γ1, g d Γ0 = some Γ1 ∧ ze Γ1 S = .val (.d (f d)) S) :
    lcGo (lcOne S.length g ztrue ze Γ0) ds [] S = .val (ds.map f) S := by
  rw [ok_lc (f := fun d => some (f d)) ds [] (fun d hd => by
    obtain ⟨Γ1, e1, e2⟩ := h d hd
    unfold lcOne
    rw [e1]
    dsimp only [ztrue]
    rw [e2]
    dsimp only
    rw [List.take_length]) (by simpa using hl)]
  simp [List.filterMap_eq_map]
theorem lc_filter {g : ZG} {zt : ZT} {ze : ZE} {Γ0 : Env1} {S : Sto} {ds : List PyData} (p : PyData → Bool) (f : PyData → PyData) (hl : ds.length ≤ 1000000) (h : ∀ d ∈ ds, ∃ Γ1, g d Γ0 = some Γ1 ∧ zt Γ1 S = .val (p d) S ∧ (p d = true → ze Γ1 S = .val (.d (f d)) S)) :
    lcGo (lcOne S.length g zt ze Γ0) ds [] S = .val ((ds.filter p).map f) S := by
  rw [ok_lc (f := fun d => if p d = true then some (f d) else none) ds [] (fun d hd => by
    obtain ⟨Γ1, e1, e2, e3⟩ := h d hd
    unfold lcOne
    rw [e1]
    dsimp only
    rw [e2]
    cases q : p d with
    | false =>
      dsimp only
      rw [List.take_length]
      rfl
    | true =>
      dsimp only
      rw [e3 q]
      dsimp only
      rw [List.take_length]
      rfl) (by simpa using hl)]
  rw [List.nil_append]
  congr 1
  clear h hl
  induction ds with
  | nil => rfl
  | cons d ds ih =>
    cases q : p d with
    | false => rw [List.filterMap_cons_none (by simp [q]), ih, List.filter_cons_of_neg (by simp [q])]
    | true => rw [List.filterMap_cons_some (by simp [q]; rfl), ih, List.filter_cons_of_pos (by simp [q])]; rfl
theorem lc_int {n i : Nat} {ze : ZE} {Γ0 : Env1} {S : Sto} {xs : List Int} (f : Int → Int) (h : ∀ x ∈ xs, ze (Γ0.set i (some (.d (.int x)))) S = .val (.d (.int (f x))) S) (hl : xs.length ≤ 1000000) (hn : S.length = n) :
    lcGo (lcOne n (gN i) ztrue ze Γ0) (xs.map .int) [] S = .val ((xs.map f).map .int) S := by
  subst hn
  rw [lc_map (fun d => match d with | .int x => .int (f x) | _ => .none) (by simpa using hl) fun d hd => by
    obtain ⟨x, hx, rfl⟩ := List.mem_map.mp hd
    exact ⟨_, rfl, h x hx⟩, List.map_map, List.map_map]
  rfl
theorem lc_int_filter {n i : Nat} {zt : ZT} {ze : ZE} {Γ0 : Env1} {S : Sto} {xs : List Int} (p : Int → Bool) (f : Int → Int) (h1 : ∀ x ∈ xs, zt (Γ0.set i (some (.d (.int x)))) S = .val (p x) S) (h : ∀ x ∈ xs, p x = true → ze (Γ0.set i (some (.d (.int x)))) S = .val (.d (.int (f x))) S) (hl : xs.length ≤ 1000000) (hn : S.length = n) :
    lcGo (lcOne n (gN i) zt ze Γ0) (xs.map .int) [] S = .val (((xs.filter p).map f).map .int) S := by
  subst hn
  rw [lc_filter (fun d => match d with | .int x => p x | _ => false) (fun d => match d with | .int x => .int (f x) | _ => .none) (by simpa using hl) fun d hd => by
    obtain ⟨x, hx, rfl⟩ := List.mem_map.mp hd
    exact ⟨_, rfl, h1 x hx, h x hx⟩, List.filter_map, List.map_map, List.map_map]
  rfl
theorem ok_zlc {zi : ZI} {i : Nat} {ze : ZE} {vs : List Nat} {Γ : Env1} {S : Sto} {X : XP} {P : Box → Sto → Prop} (xs : List Int) (f : Int → Int) (hz : zi Γ S = .val (xs.map .int) S) (hl : xs.length ≤ 1000000)
    (h : ∀ x ∈ xs, ze ((wipeZ Γ vs).set i (some (.d (.int x)))) S = .val (.d (.int (f x))) S) (hp : P (.lst ((xs.map f).map .int)) S) : OkE (zlc zi (gN i) ztrue ze vs Γ S) X P := by
  unfold zlc
  rw [hz, bind_val, lc_int f h hl rfl]
  exact hp
theorem ok_zlcF {zi : ZI} {i : Nat} {zt : ZT} {ze : ZE} {vs : List Nat} {Γ : Env1} {S : Sto} {X : XP} {P : Box → Sto → Prop} (xs : List Int) (p : Int → Bool) (f : Int → Int) (hz : zi Γ S = .val (xs.map .int) S) (hl : xs.length ≤ 1000000)
    (h1 : ∀ x ∈ xs, zt ((wipeZ Γ vs).set i (some (.d (.int x)))) S = .val (p x) S) (h : ∀ x ∈ xs, p x = true → ze ((wipeZ Γ vs).set i (some (.d (.int x)))) S = .val (.d (.int (f x))) S) (hp : P (.lst (((xs.filter p).map f).map .int)) S) : OkE (zlc zi (gN i) zt ze vs Γ S) X P := by
  unfold zlc
  rw [hz, bind_val, lc_int_filter p f h1 h hl rfl]
  exact hp
theorem ok_zlcM {α : Type} {zi : ZI} {g : ZG} {ze : ZE} {vs : List Nat} {Γ : Env1} {S : Sto} {X : XP} {P : Box → Sto → Prop} (xs : List α) (j f : α → PyData) (hz : zi Γ S = .val (xs.map j) S) (hl : xs.length ≤ 1000000)
    (h : ∀ x ∈ xs, ∃ Γ1, g (j x) (wipeZ Γ vs) = some Γ1 ∧ ze Γ1 S = .val (.d (f x)) S) (hp : P (.lst (xs.map f)) S) : OkE (zlc zi g ztrue ze vs Γ S) X P := by
  unfold zlc
  rw [hz, bind_val]
  have e : ∀ (ys : List α) (acc : List PyData), (∀ x ∈ ys, ∃ Γ1, g (j x) (wipeZ Γ vs) = some Γ1 ∧ ze Γ1 S = .val (.d (f x)) S) → acc.length + ys.length ≤ 1000000 → lcGo (lcOne S.length g ztrue ze (wipeZ Γ vs)) (ys.map j) acc S = .val (acc ++ ys.map f) S := by
    intro ys
    induction ys with
    | nil => intro acc _ _; simp [lcGo]
    | cons y ys ih =>
      intro acc hy hl
      simp only [List.length_cons] at hl
      obtain ⟨Γ1, e1, e2⟩ := hy y List.mem_cons_self
      rw [List.map_cons, lcGo]
      have e3 : lcOne S.length g ztrue ze (wipeZ Γ vs) (j y) S = .val (some (f y)) S := by
        unfold lcOne
        rw [e1]
        dsimp only [ztrue]
        rw [e2]
        dsimp only
        rw [List.take_length]
      rw [e3, bind_val]
      dsimp only
      rw [if_pos (show acc.length < 1000000 by omega), ih _ (fun x hx => hy x (List.mem_cons_of_mem _ hx)) (by simp; omega)]
      simp
  rw [e xs [] h (by simpa using hl), List.nil_append]
  exact hp
theorem zip_pairs {α : Type} {j : α → PyData} (a b : List α) : zipD (a.map j) (b.map j) = (a.zip b).map fun p => .tuple [j p.1, j p.2] := by
  unfold zipD
  rw [List.zipWith_map, List.zip, List.map_zipWith]
theorem isIn_ints {x : Int} {xs : List Int} : isIn (.int x) (xs.map .int) = decide (x ∈ xs) := by
  unfold isIn
  rw [List.any_map]
  apply Bool.eq_iff_iff.mpr
  rw [List.any_eq_true, decide_eq_true_eq]
  constructor
  · rintro ⟨y, hy, e⟩
    have e : PyData.eqv (.int y) (.int x) = true := e
    have : y = x := by simpa [PyData.eqv] using e
    exact this ▸ hy
  · intro hx
    exact ⟨x, hx, by simp [PyData.eqv]⟩
theorem memD_tup {x : Int} {xs : List Int} : memD (.int x) (.tuple (xs.map .int)) = some (decide (x ∈ xs)) := by
  unfold memD
  dsimp only
  rw [if_pos ⟨rfl, by simp [flatD]⟩, isIn_ints]
theorem memD_lst {x : Int} {xs : List Int} : memD (.int x) (.list (xs.map .int)) = some (decide (x ∈ xs)) := by
  unfold memD
  dsimp only
  rw [if_pos ⟨rfl, by simp [flatD]⟩, isIn_ints]
/-! ### what may be compared -/
def okD (k : Nat) (d : PyData) : Prop := d.canLay0 = true ∧ d.depth ≤ k
theorem okD_int {k : Nat} {i : Int} : okD k (.int i) := ⟨by simp [PyData.canLay0], by simp [PyData.depth]⟩
theorem okD_bool {k : Nat} {i : Bool} : okD k (.bool i) := ⟨by simp [PyData.canLay0], by simp [PyData.depth]⟩
theorem okD_none {k : Nat} : okD k .none := ⟨by simp [PyData.canLay0], by simp [PyData.depth]⟩
theorem okD_all {k : Nat} : ∀ {ds : List PyData}, (∀ d ∈ ds, okD k d) → PyData.canLayAll0 ds = true ∧ PyData.depthAll ds ≤ k
  | [], _ => ⟨by simp [PyData.canLayAll0], by simp [PyData.depthAll]⟩
  | d :: ds, h => by
    have h1 := h d List.mem_cons_self
    have h2 := okD_all fun x hx => h x (List.mem_cons_of_mem _ hx)
    exact ⟨by simp [PyData.canLayAll0, h1.1, h2.1], by simp only [PyData.depthAll]; exact Nat.max_le.mpr ⟨h1.2, h2.2⟩⟩
theorem okD_tuple {k : Nat} {ds : List PyData} (h : ∀ d ∈ ds, okD k d) : okD (k + 1) (.tuple ds) := by
  have := okD_all h
  exact ⟨by simp only [PyData.canLay0]; exact this.1, by simp only [PyData.depth]; omega⟩
theorem okD_list {k : Nat} {ds : List PyData} (h : ∀ d ∈ ds, okD k d) : okD (k + 1) (.list ds) := by
  have := okD_all h
  exact ⟨by simp only [PyData.canLay0]; exact this.1, by simp only [PyData.depth]; omega⟩
theorem okD.shaped {k : Nat} {d : PyData} (h : okD k d) (hk : k ≤ 64) : SeqAt.shaped d = true := by
  unfold SeqAt.shaped
  rw [h.1, decide_eq_true (Nat.le_trans h.2 hk)]
  rfl
theorem okD_ints {ns : List Int} : ∀ d ∈ ns.map PyData.int, okD 0 d := fun d hd => by
  obtain ⟨x, _, rfl⟩ := List.mem_map.mp hd
  exact okD_int
theorem eqvAll_map {α : Type} [DecidableEq α] {f : α → PyData} (h : ∀ x y, PyData.eqv (f x) (f y) = decide (x = y)) : ∀ xs ys : List α, PyData.eqvAll (xs.map f) (ys.map f) = decide (xs = ys)
  | [], [] => by simp [PyData.eqvAll]
  | x :: xs, [] => by simp [PyData.eqvAll]
  | [], y :: ys => by simp [PyData.eqvAll]
  | x :: xs, y :: ys => by
    rw [List.map_cons, List.map_cons, PyData.eqvAll, h, eqvAll_map h]
    apply Bool.eq_iff_iff.mpr
    simp
theorem eqv_int {x y : Int} : PyData.eqv (.int x) (.int y) = decide (x = y) := by
  apply Bool.eq_iff_iff.mpr
  simp [PyData.eqv]
theorem dEq_ti {xs ys : List Int} : dEq (.tuple (xs.map .int)) (.tuple (ys.map .int)) = some (.bool (decide (xs = ys))) := by
  unfold dEq
  dsimp only
  rw [if_pos ⟨(okD_tuple okD_ints).shaped (by decide), (okD_tuple okD_ints).shaped (by decide)⟩, PyData.eqv, eqvAll_map fun x y => eqv_int]
theorem dNe_ti {xs ys : List Int} : dNe (.tuple (xs.map .int)) (.tuple (ys.map .int)) = some (.bool (!decide (xs = ys))) := by
  unfold dNe
  dsimp only
  rw [if_pos ⟨(okD_tuple okD_ints).shaped (by decide), (okD_tuple okD_ints).shaped (by decide)⟩, PyData.eqv, eqvAll_map fun x y => eqv_int]
theorem dEq_li {xs ys : List Int} : dEq (.list (xs.map .int)) (.list (ys.map .int)) = some (.bool (decide (xs = ys))) := by
  unfold dEq
  dsimp only
  rw [if_pos ⟨(okD_list okD_ints).shaped (by decide), (okD_list okD_ints).shaped (by decide)⟩, PyData.eqv, eqvAll_map fun x y => eqv_int]
theorem dNe_li {xs ys : List Int} : dNe (.list (xs.map .int)) (.list (ys.map .int)) = some (.bool (!decide (xs = ys))) := by
  unfold dNe
  dsimp only
  rw [if_pos ⟨(okD_list okD_ints).shaped (by decide), (okD_list okD_ints).shaped (by decide)⟩, PyData.eqv, eqvAll_map fun x y => eqv_int]
end Z
end
section
set_option Elab.async false
set_option linter.all false
set_option maxRecDepth 100000
set_option maxHeartbeats 0
namespace Zc
open PySem L2 Z
def z__law_draw : ZS := zseq (zdrop (zapp (zv 1) (zc (.int 0)))) (zseq (zset 3 (zcb lenS (zacons (zv 1) (zanil)))) (zseq (zset 4 (zc (.int 0))) (zseq (zifS (ztru (zv 0)) (zset 4 (zop dIx (zv 0) (zop dMod (zv 3) (zcb lenS (zacons (zv 0) (zanil)))))) (znil)) (zseq (zset 5 (zop dMod (zop dAdd (zv 4) (zop dMul (zc (.int 104729)) (zv 3))) (zc (.int 4294967291)))) (zseq (zset 5 (zop dMod (zop dMul (zop dMod (zop dMul (zv 5) (zv 5)) (zc (.int 4294967279))) (zc (.int 48271))) (zc (.int 4294967291)))) (zseq (zset 6 (zop dMod (zop dMul (zop dMod (zop dMul (zv 5) (zv 5)) (zc (.int 4294967279))) (zc (.int 69621))) (zc (.int 4294967291)))) (zret (zop dMod (zop dAdd (zop dMul (zop dDiv (zv 5) (zc (.int 64))) (zc (.int 67108864))) (zop dDiv (zv 6) (zc (.int 64)))) (zv 2)))))))))
def F__law_draw : Fn := zdef 3 4 z__law_draw
def z__law_pick : ZS := zret (zop dIx (zv 2) (zcall F__law_draw (zacons (zv 0) (zacons (zv 1) (zacons (zcb lenS (zacons (zv 2) (zanil))) (zanil))))))
def F__law_pick : Fn := zdef 3 0 z__law_pick
def b1__law_drum : ZS := zdput (zv 5) (zcall F__law_draw (zacons (zv 0) (zacons (zv 1) (zacons (zv 4) (zanil))))) (zc (.int 0))
def z__law_drum : ZS := zseq (zset 4 (zop dAdd (zv 2) (zcall F__law_draw (zacons (zv 0) (zacons (zv 1) (zacons (zop dAdd (zop dSub (zv 3) (zv 2)) (zc (.int 1))) (zanil))))))) (zseq (zsetF 5 (zdnew)) (zseq (zfor (ziA rng1 (zacons (zop dAdd (zc (.int 1)) (zcall F__law_draw (zacons (zv 0) (zacons (zv 1) (zacons (zc (.int 3)) (zanil)))))) (zanil))) (gN 6) (b1__law_drum)) (zret (ztup (zacons (zv 4) (zacons (zcb (on1 dTup) (zacons (zfz (zcf srtS (zacons (zv 5) (zanil)))) (zanil))) (zanil)))))))
def F__law_drum : Fn := zdef 4 3 z__law_drum
def z_read_time : ZS := zret (zcb (on1 (lstOnly dMin)) (zacons (zfz (zlc (ziQ (zop dIx (zv 0) (zc (.int 1)))) (gN 3) (ztrue) (zop dAdd (zv 2) (zop dMod (zop dSub (zop dSub (zv 1) (zv 3)) (zv 2)) (zop dIx (zv 0) (zc (.int 0))))) [3])) (zanil)))
def F_read_time : Fn := zdef 3 1 z_read_time
def z_longest_wait : ZS := zseq (zset 1 (zop dAdd (zop dIx (zv 0) (zc (.int 1))) (ztup (zacons (zop dAdd (zop dIx (zop dIx (zv 0) (zc (.int 1))) (zc (.int 0))) (zop dIx (zv 0) (zc (.int 0)))) (zanil))))) (zret (zop dSub (zcb (on1 (lstOnly dMax)) (zacons (zfz (zlc (ziA zipOf (zacons (zsl (zv 1) (zon) (zos (zneg (zc (.int 1))))) (zacons (zsl (zv 1) (zos (zc (.int 1))) (zon)) (zanil)))) (gT2 (gN 2) (gN 3)) (ztrue) (zop dSub (zv 3) (zv 2)) [2, 3])) (zanil))) (zc (.int 1))))
def F_longest_wait : Fn := zdef 1 3 z_longest_wait
def z_spots_under : ZS := zret (zcb (on1 dTup) (zacons (zfz (zlc (ziQ (zop dIx (zv 0) (zc (.int 1)))) (gN 2) (ztrue) (zop dMod (zop dAdd (zv 1) (zv 2)) (zop dIx (zv 0) (zc (.int 0)))) [2])) (zanil)))
def F_spots_under : Fn := zdef 2 1 z_spots_under
def b1_times_of : ZS := zseq (zdrop (zapp (zv 4) (zv 5))) (zset 5 (zcall F_read_time (zacons (zv 0) (zacons (zv 1) (zacons (zop dAdd (zv 5) (zc (.int 1))) (zanil))))))
def z_times_of : ZS := zseq (zsetF 4 (zlst (zanil))) (zseq (zset 5 (zcall F_read_time (zacons (zv 0) (zacons (zv 1) (zacons (zv 2) (zanil)))))) (zseq (zwhile fuel (ztst (zop dLt (zv 5) (zv 3))) (b1_times_of)) (zret (zcb (on1 dTup) (zacons (zv 4) (zanil))))))
def F_times_of : Fn := zdef 4 2 z_times_of
def z_is_whole : ZS := zret (zandV (zisi "int" (zv 0)) (zandV (znotV (ztru (zisi "bool" (zv 0)))) (zchain dLe dLe (zv 1) (zv 0) (zv 2))))
def F_is_whole : Fn := zdef 3 0 z_is_whole
def z_is_drum : ZS := zseq (zifS (zor (znot (ztru (zisi "tuple" (zv 0)))) (zor (ztst (zop dNe (zcb lenS (zacons (zv 0) (zanil))) (zc (.int 2)))) (znot (ztru (zcall F_is_whole (zacons (zop dIx (zv 0) (zc (.int 0))) (zacons (zc (.int 4)) (zacons (zc (.int 24)) (zanil))))))))) (zret (zc (.bool false))) (znil)) (zseq (zifS (zor (znot (ztru (zisi "tuple" (zop dIx (zv 0) (zc (.int 1)))))) (znot (ztst (zchain dLe dLe (zc (.int 1)) (zcb lenS (zacons (zop dIx (zv 0) (zc (.int 1))) (zanil))) (zc (.int 3)))))) (zret (zc (.bool false))) (znil)) (zseq (zifS (znot (ztru (zcb (on1 (lstOnly dAll)) (zacons (zfz (zlc (ziQ (zop dIx (zv 0) (zc (.int 1)))) (gN 1) (ztrue) (zcall F_is_whole (zacons (zv 1) (zacons (zc (.int 0)) (zacons (zop dSub (zop dIx (zv 0) (zc (.int 0))) (zc (.int 1))) (zanil))))) [1])) (zanil))))) (zret (zc (.bool false))) (znil)) (zret (zcb (on1 (lstOnly dAll)) (zacons (zfz (zlc (ziA zipOf (zacons (zsl (zop dIx (zv 0) (zc (.int 1))) (zon) (zos (zneg (zc (.int 1))))) (zacons (zsl (zop dIx (zv 0) (zc (.int 1))) (zos (zc (.int 1))) (zon)) (zanil)))) (gT2 (gN 1) (gN 2)) (ztrue) (zop dLt (zv 1) (zv 2)) [1, 2])) (zanil))))))
def F_is_drum : Fn := zdef 1 2 z_is_drum
end Zc
end
section
set_option Elab.async false
set_option linter.all false
set_option maxRecDepth 100000
set_option autoImplicit false
set_option maxHeartbeats 1000000
namespace Zc
open PySem Z
open L2 (atI)
/-! ### the laws' draw -/
theorem draw_ok {ns : List Int} {tw : List PyData} {R : Sto} {m : Int} {X : XP} {P : Sl → Sto → Prop} (ht : tw.length < 100000) (hm : 0 < m)
    (h : ∀ v, 0 ≤ v → v < m → P (.d (.int v)) (.scr ns :: .lst (tw ++ [.int 0]) :: R)) : OkE (F__law_draw [.box 0, .box 1, .d (.int m)] (.scr ns :: .lst tw :: R)) X P := by
  refine ok_def rfl ?_
  unfold z__law_draw
  have hk : ∃ k : Int, ((tw.length + 1 : Nat) : Int) = k ∧ 0 < k ∧ k < 200000 := ⟨_, rfl, by omega, by omega⟩
  obtain ⟨k, hk, hk1⟩ := hk
  have fin : ∀ cell : Int, OkS (zseq (zset 5 (zop dMod (zop dAdd (zv 4) (zop dMul (zc (.int 104729)) (zv 3))) (zc (.int 4294967291)))) (zseq (zset 5 (zop dMod (zop dMul (zop dMod (zop dMul (zv 5) (zv 5)) (zc (.int 4294967279))) (zc (.int 48271))) (zc (.int 4294967291)))) (zseq (zset 6 (zop dMod (zop dMul (zop dMod (zop dMul (zv 5) (zv 5)) (zc (.int 4294967279))) (zc (.int 69621))) (zc (.int 4294967291)))) (zret (zop dMod (zop dAdd (zop dMul (zop dDiv (zv 5) (zc (.int 64))) (zc (.int 67108864))) (zop dDiv (zv 6) (zc (.int 64)))) (zv 2)))))
      [some (.box 0), some (.box 1), some (.d (.int m)), some (.d (.int k)), some (.d (.int cell)), none, none] (.scr ns :: .lst (tw ++ [.int 0]) :: R)) { nx := fun _ S' => P (.d .none) (S'.take (Box.scr ns :: Box.lst tw :: R).length), rt := fun x S' => OkE (retN (Box.scr ns :: Box.lst tw :: R).length x S') X P, ex := fun c _ S' => X c (S'.take (Box.scr ns :: Box.lst tw :: R).length) } := by
    intro cell
    have a1 := mod_le (a := cell + 104729 * k) (b := 4294967291) (by omega)
    generalize e1 : (cell + 104729 * k) % 4294967291 = x1 at *
    have a2 := mod_le (a := x1 * x1) (b := 4294967279) (by omega)
    generalize e2 : x1 * x1 % 4294967279 = x2 at *
    have a3 := mod_le (a := x2 * 48271) (b := 4294967291) (by omega)
    generalize e3 : x2 * 48271 % 4294967291 = x3 at *
    have a4 := mod_le (a := x3 * x3) (b := 4294967279) (by omega)
    generalize e4 : x3 * x3 % 4294967279 = x4 at *
    have a5 := mod_le (a := x4 * 69621) (b := 4294967291) (by omega)
    generalize e5 : x4 * 69621 % 4294967291 = x5 at *
    simp (disch := omega) only [wipeZ, forget, okE_val, okE_exc, okE_bind, okS_st, okS_seq, okS_nx, okS_rt, okS_bk, okS_ct, okS_ex, okE_ofOpt, zseq, zdrop, zapp, zset, zsetF, zifS, ztru, ztst, zop, zcb, zcf, zacons, zanil, zc, zv, znil, zret, zcall, zfz, znew, zneg, zos, zon, zsl, zslF, ztup, zlst, zand, zor, znot, zif, zpar, zpar3, zasg, gN, gT2, gT3, zdnew, zdput, zmt1, zcnt1, zandV, zorV, znotV, zchain, zfrz, zbrk, zcnt, zopF, zpop0, zlput, zdget, zdin, zdnin, zdget2, zisi, ziA, ziQ, itemsQ, ziL, ziT, itemsL, itemsT, rng1_ok, rng2_ok, izs_len, izr_len, zipOf, enumOf, ofOpt, bind_val, bind_exc, st_val, st_exc, seq_nx, seq_rt, seq_ex, seq_bk, seq_ct, List.map_cons, List.map_nil, List.cons_append, List.nil_append, List.replicate, List.length_cons, List.length_nil, List.length_append, List.length_map, List.length_set, List.getElem?_cons_zero, List.getElem?_cons_succ, List.getElem?_nil, List.set_cons_zero, List.set_cons_succ, lstAt, res, resD, truS, truth, app2, on1, on2, lstOnly, lenS, allD_nil, allD_cons, Option.map_some, Option.map_none, Option.bind_some, Option.bind_none, dAdd, dSub, dMul_ok, dMod_ok, dDiv_ok, dLt, dLe, dGt, dGe, dEq_i, dEq_s, dEq_b, dNe_i, dNe_s, dNe_b, dEq_ti, dNe_ti, dEq_li, dNe_li, dIs, dIsNot, nonD, dIn, dNotIn, dIx, atI_0, atI_1, atI_2, dTup, dInt, dMin, dMax, dSum, dAll, dAny, intsOf_map, bolsOf_map, intsOf_nil, intsOf_cons, dMin2, dMax2, dAbs, keySl, Z.keyOf, putS, lim, retN_d, getLast0, setLast0, takeLast0, takeLast1, List.take_succ_cons, List.take_zero, List.take_length, List.take_nil, decide_eq_true_eq, beq_iff_eq, if_true, if_false, Bool.not_true, Bool.not_false, Bool.not_eq_true', Bool.false_eq_true, Bool.true_eq_false, reduceIte, if_pos, if_neg, Nat.add_eq, List.isEmpty_cons, List.isEmpty_nil, Option.some.injEq, decide_true, decide_false, decide_eq_true, decide_eq_false, beq_self_eq_true, BEq.rfl, beq_eq_false_iff_ne, Nat.zero_add, Nat.reduceAdd, Int.toNat_natCast, Bool.not_eq_true, decide_eq_false_iff_not, bne_iff_ne, ne_eq, not_true_eq_false, not_false_eq_true, e1, e2, e3, e4, e5]
    exact h _ (mod_le hm).1 (mod_le hm).2
  refine ok_seq ?_
  simp (disch := omega) only [wipeZ, forget, okE_val, okE_exc, okE_bind, okS_st, okS_seq, okS_nx, okS_rt, okS_bk, okS_ct, okS_ex, okE_ofOpt, zdrop, zapp, zset, zsetF, zifS, ztru, ztst, zop, zcb, zcf, zacons, zanil, zc, zv, znil, zret, zcall, zfz, znew, zneg, zos, zon, zsl, zslF, ztup, zlst, zand, zor, znot, zif, zpar, zpar3, zasg, gN, gT2, gT3, zdnew, zdput, zmt1, zcnt1, zandV, zorV, znotV, zchain, zfrz, zbrk, zcnt, zopF, zpop0, zlput, zdget, zdin, zdnin, zdget2, zisi, ziA, ziQ, itemsQ, ziL, ziT, itemsL, itemsT, rng1_ok, rng2_ok, izs_len, izr_len, zipOf, enumOf, ofOpt, bind_val, bind_exc, st_val, st_exc, seq_nx, seq_rt, seq_ex, seq_bk, seq_ct, List.map_cons, List.map_nil, List.cons_append, List.nil_append, List.replicate, List.length_cons, List.length_nil, List.length_append, List.length_map, List.length_set, List.getElem?_cons_zero, List.getElem?_cons_succ, List.getElem?_nil, List.set_cons_zero, List.set_cons_succ, lstAt, res, resD, truS, truth, app2, on1, on2, lstOnly, lenS, allD_nil, allD_cons, Option.map_some, Option.map_none, Option.bind_some, Option.bind_none, dAdd, dSub, dMul_ok, dMod_ok, dDiv_ok, dLt, dLe, dGt, dGe, dEq_i, dEq_s, dEq_b, dNe_i, dNe_s, dNe_b, dEq_ti, dNe_ti, dEq_li, dNe_li, dIs, dIsNot, nonD, dIn, dNotIn, dIx, atI_0, atI_1, atI_2, dTup, dInt, dMin, dMax, dSum, dAll, dAny, intsOf_map, bolsOf_map, intsOf_nil, intsOf_cons, dMin2, dMax2, dAbs, keySl, Z.keyOf, putS, lim, retN_d, getLast0, setLast0, takeLast0, takeLast1, List.take_succ_cons, List.take_zero, List.take_length, List.take_nil, decide_eq_true_eq, beq_iff_eq, if_true, if_false, Bool.not_true, Bool.not_false, Bool.not_eq_true', Bool.false_eq_true, Bool.true_eq_false, reduceIte, if_pos, if_neg, Nat.add_eq, List.isEmpty_cons, List.isEmpty_nil, Option.some.injEq, decide_true, decide_false, decide_eq_true, decide_eq_false, beq_self_eq_true, BEq.rfl, beq_eq_false_iff_ne, Nat.zero_add, Nat.reduceAdd, Int.toNat_natCast, Bool.not_eq_true, decide_eq_false_iff_not, bne_iff_ne, ne_eq, not_true_eq_false, not_false_eq_true]
  refine ok_seq ?_
  simp (disch := omega) only [wipeZ, forget, okE_val, okE_exc, okE_bind, okS_st, okS_seq, okS_nx, okS_rt, okS_bk, okS_ct, okS_ex, okE_ofOpt, zdrop, zapp, zset, zsetF, zifS, ztru, ztst, zop, zcb, zcf, zacons, zanil, zc, zv, znil, zret, zcall, zfz, znew, zneg, zos, zon, zsl, zslF, ztup, zlst, zand, zor, znot, zif, zpar, zpar3, zasg, gN, gT2, gT3, zdnew, zdput, zmt1, zcnt1, zandV, zorV, znotV, zchain, zfrz, zbrk, zcnt, zopF, zpop0, zlput, zdget, zdin, zdnin, zdget2, zisi, ziA, ziQ, itemsQ, ziL, ziT, itemsL, itemsT, rng1_ok, rng2_ok, izs_len, izr_len, zipOf, enumOf, ofOpt, bind_val, bind_exc, st_val, st_exc, seq_nx, seq_rt, seq_ex, seq_bk, seq_ct, List.map_cons, List.map_nil, List.cons_append, List.nil_append, List.replicate, List.length_cons, List.length_nil, List.length_append, List.length_map, List.length_set, List.getElem?_cons_zero, List.getElem?_cons_succ, List.getElem?_nil, List.set_cons_zero, List.set_cons_succ, lstAt, res, resD, truS, truth, app2, on1, on2, lstOnly, lenS, allD_nil, allD_cons, Option.map_some, Option.map_none, Option.bind_some, Option.bind_none, dAdd, dSub, dMul_ok, dMod_ok, dDiv_ok, dLt, dLe, dGt, dGe, dEq_i, dEq_s, dEq_b, dNe_i, dNe_s, dNe_b, dEq_ti, dNe_ti, dEq_li, dNe_li, dIs, dIsNot, nonD, dIn, dNotIn, dIx, atI_0, atI_1, atI_2, dTup, dInt, dMin, dMax, dSum, dAll, dAny, intsOf_map, bolsOf_map, intsOf_nil, intsOf_cons, dMin2, dMax2, dAbs, keySl, Z.keyOf, putS, lim, retN_d, getLast0, setLast0, takeLast0, takeLast1, List.take_succ_cons, List.take_zero, List.take_length, List.take_nil, decide_eq_true_eq, beq_iff_eq, if_true, if_false, Bool.not_true, Bool.not_false, Bool.not_eq_true', Bool.false_eq_true, Bool.true_eq_false, reduceIte, if_pos, if_neg, Nat.add_eq, List.isEmpty_cons, List.isEmpty_nil, Option.some.injEq, decide_true, decide_false, decide_eq_true, decide_eq_false, beq_self_eq_true, BEq.rfl, beq_eq_false_iff_ne, Nat.zero_add, Nat.reduceAdd, Int.toNat_natCast, Bool.not_eq_true, decide_eq_false_iff_not, bne_iff_ne, ne_eq, not_true_eq_false, not_false_eq_true]
  refine ok_seq ?_
  simp (disch := omega) only [wipeZ, forget, okE_val, okE_exc, okE_bind, okS_st, okS_seq, okS_nx, okS_rt, okS_bk, okS_ct, okS_ex, okE_ofOpt, zdrop, zapp, zset, zsetF, zifS, ztru, ztst, zop, zcb, zcf, zacons, zanil, zc, zv, znil, zret, zcall, zfz, znew, zneg, zos, zon, zsl, zslF, ztup, zlst, zand, zor, znot, zif, zpar, zpar3, zasg, gN, gT2, gT3, zdnew, zdput, zmt1, zcnt1, zandV, zorV, znotV, zchain, zfrz, zbrk, zcnt, zopF, zpop0, zlput, zdget, zdin, zdnin, zdget2, zisi, ziA, ziQ, itemsQ, ziL, ziT, itemsL, itemsT, rng1_ok, rng2_ok, izs_len, izr_len, zipOf, enumOf, ofOpt, bind_val, bind_exc, st_val, st_exc, seq_nx, seq_rt, seq_ex, seq_bk, seq_ct, List.map_cons, List.map_nil, List.cons_append, List.nil_append, List.replicate, List.length_cons, List.length_nil, List.length_append, List.length_map, List.length_set, List.getElem?_cons_zero, List.getElem?_cons_succ, List.getElem?_nil, List.set_cons_zero, List.set_cons_succ, lstAt, res, resD, truS, truth, app2, on1, on2, lstOnly, lenS, allD_nil, allD_cons, Option.map_some, Option.map_none, Option.bind_some, Option.bind_none, dAdd, dSub, dMul_ok, dMod_ok, dDiv_ok, dLt, dLe, dGt, dGe, dEq_i, dEq_s, dEq_b, dNe_i, dNe_s, dNe_b, dEq_ti, dNe_ti, dEq_li, dNe_li, dIs, dIsNot, nonD, dIn, dNotIn, dIx, atI_0, atI_1, atI_2, dTup, dInt, dMin, dMax, dSum, dAll, dAny, intsOf_map, bolsOf_map, intsOf_nil, intsOf_cons, dMin2, dMax2, dAbs, keySl, Z.keyOf, putS, lim, retN_d, getLast0, setLast0, takeLast0, takeLast1, List.take_succ_cons, List.take_zero, List.take_length, List.take_nil, decide_eq_true_eq, beq_iff_eq, if_true, if_false, Bool.not_true, Bool.not_false, Bool.not_eq_true', Bool.false_eq_true, Bool.true_eq_false, reduceIte, if_pos, if_neg, Nat.add_eq, List.isEmpty_cons, List.isEmpty_nil, Option.some.injEq, decide_true, decide_false, decide_eq_true, decide_eq_false, beq_self_eq_true, BEq.rfl, beq_eq_false_iff_ne, Nat.zero_add, Nat.reduceAdd, Int.toNat_natCast, Bool.not_eq_true, decide_eq_false_iff_not, bne_iff_ne, ne_eq, not_true_eq_false, not_false_eq_true]
  refine ok_seq ?_
  rw [hk]
  cases ns with
  | nil =>
    simp (disch := omega) only [wipeZ, forget, okE_val, okE_exc, okE_bind, okS_st, okS_seq, okS_nx, okS_rt, okS_bk, okS_ct, okS_ex, okE_ofOpt, zdrop, zapp, zset, zsetF, zifS, ztru, ztst, zop, zcb, zcf, zacons, zanil, zc, zv, znil, zret, zcall, zfz, znew, zneg, zos, zon, zsl, zslF, ztup, zlst, zand, zor, znot, zif, zpar, zpar3, zasg, gN, gT2, gT3, zdnew, zdput, zmt1, zcnt1, zandV, zorV, znotV, zchain, zfrz, zbrk, zcnt, zopF, zpop0, zlput, zdget, zdin, zdnin, zdget2, zisi, ziA, ziQ, itemsQ, ziL, ziT, itemsL, itemsT, rng1_ok, rng2_ok, izs_len, izr_len, zipOf, enumOf, ofOpt, bind_val, bind_exc, st_val, st_exc, seq_nx, seq_rt, seq_ex, seq_bk, seq_ct, List.map_cons, List.map_nil, List.cons_append, List.nil_append, List.replicate, List.length_cons, List.length_nil, List.length_append, List.length_map, List.length_set, List.getElem?_cons_zero, List.getElem?_cons_succ, List.getElem?_nil, List.set_cons_zero, List.set_cons_succ, lstAt, res, resD, truS, truth, app2, on1, on2, lstOnly, lenS, allD_nil, allD_cons, Option.map_some, Option.map_none, Option.bind_some, Option.bind_none, dAdd, dSub, dMul_ok, dMod_ok, dDiv_ok, dLt, dLe, dGt, dGe, dEq_i, dEq_s, dEq_b, dNe_i, dNe_s, dNe_b, dEq_ti, dNe_ti, dEq_li, dNe_li, dIs, dIsNot, nonD, dIn, dNotIn, dIx, atI_0, atI_1, atI_2, dTup, dInt, dMin, dMax, dSum, dAll, dAny, intsOf_map, bolsOf_map, intsOf_nil, intsOf_cons, dMin2, dMax2, dAbs, keySl, Z.keyOf, putS, lim, retN_d, getLast0, setLast0, takeLast0, takeLast1, List.take_succ_cons, List.take_zero, List.take_length, List.take_nil, decide_eq_true_eq, beq_iff_eq, if_true, if_false, Bool.not_true, Bool.not_false, Bool.not_eq_true', Bool.false_eq_true, Bool.true_eq_false, reduceIte, if_pos, if_neg, Nat.add_eq, List.isEmpty_cons, List.isEmpty_nil, Option.some.injEq, decide_true, decide_false, decide_eq_true, decide_eq_false, beq_self_eq_true, BEq.rfl, beq_eq_false_iff_ne, Nat.zero_add, Nat.reduceAdd, Int.toNat_natCast, Bool.not_eq_true, decide_eq_false_iff_not, bne_iff_ne, ne_eq, not_true_eq_false, not_false_eq_true]
    exact fin 0
  | cons n ns =>
    have hp : (0 : Int) < ((n :: ns).map PyData.int).length := by simp only [List.length_map, List.length_cons]; omega
    obtain ⟨x, e, hx⟩ := atI_ex (l := (n :: ns).map PyData.int) (i := k % ((n :: ns).map PyData.int).length) (Int.emod_nonneg _ (by omega)) (Int.emod_lt_of_pos _ hp)
    obtain ⟨c, _, rfl⟩ := List.mem_map.mp hx
    simp only [List.length_map, List.length_cons, List.map_cons] at e hp
    simp (disch := omega) only [wipeZ, forget, okE_val, okE_exc, okE_bind, okS_st, okS_seq, okS_nx, okS_rt, okS_bk, okS_ct, okS_ex, okE_ofOpt, zdrop, zapp, zset, zsetF, zifS, ztru, ztst, zop, zcb, zcf, zacons, zanil, zc, zv, znil, zret, zcall, zfz, znew, zneg, zos, zon, zsl, zslF, ztup, zlst, zand, zor, znot, zif, zpar, zpar3, zasg, gN, gT2, gT3, zdnew, zdput, zmt1, zcnt1, zandV, zorV, znotV, zchain, zfrz, zbrk, zcnt, zopF, zpop0, zlput, zdget, zdin, zdnin, zdget2, zisi, ziA, ziQ, itemsQ, ziL, ziT, itemsL, itemsT, rng1_ok, rng2_ok, izs_len, izr_len, zipOf, enumOf, ofOpt, bind_val, bind_exc, st_val, st_exc, seq_nx, seq_rt, seq_ex, seq_bk, seq_ct, List.map_cons, List.map_nil, List.cons_append, List.nil_append, List.replicate, List.length_cons, List.length_nil, List.length_append, List.length_map, List.length_set, List.getElem?_cons_zero, List.getElem?_cons_succ, List.getElem?_nil, List.set_cons_zero, List.set_cons_succ, lstAt, res, resD, truS, truth, app2, on1, on2, lstOnly, lenS, allD_nil, allD_cons, Option.map_some, Option.map_none, Option.bind_some, Option.bind_none, dAdd, dSub, dMul_ok, dMod_ok, dDiv_ok, dLt, dLe, dGt, dGe, dEq_i, dEq_s, dEq_b, dNe_i, dNe_s, dNe_b, dEq_ti, dNe_ti, dEq_li, dNe_li, dIs, dIsNot, nonD, dIn, dNotIn, dIx, atI_0, atI_1, atI_2, dTup, dInt, dMin, dMax, dSum, dAll, dAny, intsOf_map, bolsOf_map, intsOf_nil, intsOf_cons, dMin2, dMax2, dAbs, keySl, Z.keyOf, putS, lim, retN_d, getLast0, setLast0, takeLast0, takeLast1, List.take_succ_cons, List.take_zero, List.take_length, List.take_nil, decide_eq_true_eq, beq_iff_eq, if_true, if_false, Bool.not_true, Bool.not_false, Bool.not_eq_true', Bool.false_eq_true, Bool.true_eq_false, reduceIte, if_pos, if_neg, Nat.add_eq, List.isEmpty_cons, List.isEmpty_nil, Option.some.injEq, decide_true, decide_false, decide_eq_true, decide_eq_false, beq_self_eq_true, BEq.rfl, beq_eq_false_iff_ne, Nat.zero_add, Nat.reduceAdd, Int.toNat_natCast, Bool.not_eq_true, decide_eq_false_iff_not, bne_iff_ne, ne_eq, not_true_eq_false, not_false_eq_true, e]
    exact fin c
theorem pick_ok {ns : List Int} {tw : List PyData} {R : Sto} {ds : List PyData} {X : XP} {P : Sl → Sto → Prop} (ht : tw.length < 100000) (hm : ds ≠ [])
    (h : ∀ v ∈ ds, P (.d v) (.scr ns :: .lst (tw ++ [.int 0]) :: R)) : OkE (F__law_pick [.box 0, .box 1, .d (.tuple ds)] (.scr ns :: .lst tw :: R)) X P := by
  refine ok_def rfl ?_
  unfold z__law_pick
  have hl := List.length_pos_iff.mpr hm
  simp (disch := omega) only [wipeZ, forget, okE_val, okE_exc, okE_bind, okS_st, okS_seq, okS_nx, okS_rt, okS_bk, okS_ct, okS_ex, okE_ofOpt, zseq, zdrop, zapp, zset, zsetF, zifS, ztru, ztst, zop, zcb, zcf, zacons, zanil, zc, zv, znil, zret, zcall, zfz, znew, zneg, zos, zon, zsl, zslF, ztup, zlst, zand, zor, znot, zif, zpar, zpar3, zasg, gN, gT2, gT3, zdnew, zdput, zmt1, zcnt1, zandV, zorV, znotV, zchain, zfrz, zbrk, zcnt, zopF, zpop0, zlput, zdget, zdin, zdnin, zdget2, zisi, ziA, ziQ, itemsQ, ziL, ziT, itemsL, itemsT, rng1_ok, rng2_ok, izs_len, izr_len, zipOf, enumOf, ofOpt, bind_val, bind_exc, st_val, st_exc, seq_nx, seq_rt, seq_ex, seq_bk, seq_ct, List.map_cons, List.map_nil, List.cons_append, List.nil_append, List.replicate, List.length_cons, List.length_nil, List.length_append, List.length_map, List.length_set, List.getElem?_cons_zero, List.getElem?_cons_succ, List.getElem?_nil, List.set_cons_zero, List.set_cons_succ, lstAt, res, resD, truS, truth, app2, on1, on2, lstOnly, lenS, allD_nil, allD_cons, Option.map_some, Option.map_none, Option.bind_some, Option.bind_none, dAdd, dSub, dMul_ok, dMod_ok, dDiv_ok, dLt, dLe, dGt, dGe, dEq_i, dEq_s, dEq_b, dNe_i, dNe_s, dNe_b, dEq_ti, dNe_ti, dEq_li, dNe_li, dIs, dIsNot, nonD, dIn, dNotIn, dIx, atI_0, atI_1, atI_2, dTup, dInt, dMin, dMax, dSum, dAll, dAny, intsOf_map, bolsOf_map, intsOf_nil, intsOf_cons, dMin2, dMax2, dAbs, keySl, Z.keyOf, putS, lim, retN_d, getLast0, setLast0, takeLast0, takeLast1, List.take_succ_cons, List.take_zero, List.take_length, List.take_nil, decide_eq_true_eq, beq_iff_eq, if_true, if_false, Bool.not_true, Bool.not_false, Bool.not_eq_true', Bool.false_eq_true, Bool.true_eq_false, reduceIte, if_pos, if_neg, Nat.add_eq, List.isEmpty_cons, List.isEmpty_nil, Option.some.injEq, decide_true, decide_false, decide_eq_true, decide_eq_false, beq_self_eq_true, BEq.rfl, beq_eq_false_iff_ne, Nat.zero_add, Nat.reduceAdd, Int.toNat_natCast, Bool.not_eq_true, decide_eq_false_iff_not, bne_iff_ne, ne_eq, not_true_eq_false, not_false_eq_true]
  refine draw_ok ht (by omega) fun v h0 h1 => ?_
  obtain ⟨x, e, hx⟩ := atI_ex (l := ds) (i := v) h0 h1
  simp (disch := omega) only [wipeZ, forget, okE_val, okE_exc, okE_bind, okS_st, okS_seq, okS_nx, okS_rt, okS_bk, okS_ct, okS_ex, okE_ofOpt, zseq, zdrop, zapp, zset, zsetF, zifS, ztru, ztst, zop, zcb, zcf, zacons, zanil, zc, zv, znil, zret, zcall, zfz, znew, zneg, zos, zon, zsl, zslF, ztup, zlst, zand, zor, znot, zif, zpar, zpar3, zasg, gN, gT2, gT3, zdnew, zdput, zmt1, zcnt1, zandV, zorV, znotV, zchain, zfrz, zbrk, zcnt, zopF, zpop0, zlput, zdget, zdin, zdnin, zdget2, zisi, ziA, ziQ, itemsQ, ziL, ziT, itemsL, itemsT, rng1_ok, rng2_ok, izs_len, izr_len, zipOf, enumOf, ofOpt, bind_val, bind_exc, st_val, st_exc, seq_nx, seq_rt, seq_ex, seq_bk, seq_ct, List.map_cons, List.map_nil, List.cons_append, List.nil_append, List.replicate, List.length_cons, List.length_nil, List.length_append, List.length_map, List.length_set, List.getElem?_cons_zero, List.getElem?_cons_succ, List.getElem?_nil, List.set_cons_zero, List.set_cons_succ, lstAt, res, resD, truS, truth, app2, on1, on2, lstOnly, lenS, allD_nil, allD_cons, Option.map_some, Option.map_none, Option.bind_some, Option.bind_none, dAdd, dSub, dMul_ok, dMod_ok, dDiv_ok, dLt, dLe, dGt, dGe, dEq_i, dEq_s, dEq_b, dNe_i, dNe_s, dNe_b, dEq_ti, dNe_ti, dEq_li, dNe_li, dIs, dIsNot, nonD, dIn, dNotIn, dIx, atI_0, atI_1, atI_2, dTup, dInt, dMin, dMax, dSum, dAll, dAny, intsOf_map, bolsOf_map, intsOf_nil, intsOf_cons, dMin2, dMax2, dAbs, keySl, Z.keyOf, putS, lim, retN_d, getLast0, setLast0, takeLast0, takeLast1, List.take_succ_cons, List.take_zero, List.take_length, List.take_nil, decide_eq_true_eq, beq_iff_eq, if_true, if_false, Bool.not_true, Bool.not_false, Bool.not_eq_true', Bool.false_eq_true, Bool.true_eq_false, reduceIte, if_pos, if_neg, Nat.add_eq, List.isEmpty_cons, List.isEmpty_nil, Option.some.injEq, decide_true, decide_false, decide_eq_true, decide_eq_false, beq_self_eq_true, BEq.rfl, beq_eq_false_iff_ne, Nat.zero_add, Nat.reduceAdd, Int.toNat_natCast, Bool.not_eq_true, decide_eq_false_iff_not, bne_iff_ne, ne_eq, not_true_eq_false, not_false_eq_true, e]
  exact h x hx
theorem pickL_ok {ns : List Int} {tw : List PyData} {R : Sto} {ds : List PyData} {X : XP} {P : Sl → Sto → Prop} (ht : tw.length < 100000) (hm : ds ≠ [])
    (h : ∀ v ∈ ds, P (.d v) (.scr ns :: .lst (tw ++ [.int 0]) :: R)) : OkE (F__law_pick [.box 0, .box 1, .d (.list ds)] (.scr ns :: .lst tw :: R)) X P := by
  refine ok_def rfl ?_
  unfold z__law_pick
  have hl := List.length_pos_iff.mpr hm
  simp (disch := omega) only [wipeZ, forget, okE_val, okE_exc, okE_bind, okS_st, okS_seq, okS_nx, okS_rt, okS_bk, okS_ct, okS_ex, okE_ofOpt, zseq, zdrop, zapp, zset, zsetF, zifS, ztru, ztst, zop, zcb, zcf, zacons, zanil, zc, zv, znil, zret, zcall, zfz, znew, zneg, zos, zon, zsl, zslF, ztup, zlst, zand, zor, znot, zif, zpar, zpar3, zasg, gN, gT2, gT3, zdnew, zdput, zmt1, zcnt1, zandV, zorV, znotV, zchain, zfrz, zbrk, zcnt, zopF, zpop0, zlput, zdget, zdin, zdnin, zdget2, zisi, ziA, ziQ, itemsQ, ziL, ziT, itemsL, itemsT, rng1_ok, rng2_ok, izs_len, izr_len, zipOf, enumOf, ofOpt, bind_val, bind_exc, st_val, st_exc, seq_nx, seq_rt, seq_ex, seq_bk, seq_ct, List.map_cons, List.map_nil, List.cons_append, List.nil_append, List.replicate, List.length_cons, List.length_nil, List.length_append, List.length_map, List.length_set, List.getElem?_cons_zero, List.getElem?_cons_succ, List.getElem?_nil, List.set_cons_zero, List.set_cons_succ, lstAt, res, resD, truS, truth, app2, on1, on2, lstOnly, lenS, allD_nil, allD_cons, Option.map_some, Option.map_none, Option.bind_some, Option.bind_none, dAdd, dSub, dMul_ok, dMod_ok, dDiv_ok, dLt, dLe, dGt, dGe, dEq_i, dEq_s, dEq_b, dNe_i, dNe_s, dNe_b, dEq_ti, dNe_ti, dEq_li, dNe_li, dIs, dIsNot, nonD, dIn, dNotIn, dIx, atI_0, atI_1, atI_2, dTup, dInt, dMin, dMax, dSum, dAll, dAny, intsOf_map, bolsOf_map, intsOf_nil, intsOf_cons, dMin2, dMax2, dAbs, keySl, Z.keyOf, putS, lim, retN_d, getLast0, setLast0, takeLast0, takeLast1, List.take_succ_cons, List.take_zero, List.take_length, List.take_nil, decide_eq_true_eq, beq_iff_eq, if_true, if_false, Bool.not_true, Bool.not_false, Bool.not_eq_true', Bool.false_eq_true, Bool.true_eq_false, reduceIte, if_pos, if_neg, Nat.add_eq, List.isEmpty_cons, List.isEmpty_nil, Option.some.injEq, decide_true, decide_false, decide_eq_true, decide_eq_false, beq_self_eq_true, BEq.rfl, beq_eq_false_iff_ne, Nat.zero_add, Nat.reduceAdd, Int.toNat_natCast, Bool.not_eq_true, decide_eq_false_iff_not, bne_iff_ne, ne_eq, not_true_eq_false, not_false_eq_true]
  refine draw_ok ht (by omega) fun v h0 h1 => ?_
  obtain ⟨x, e, hx⟩ := atI_ex (l := ds) (i := v) h0 h1
  simp (disch := omega) only [wipeZ, forget, okE_val, okE_exc, okE_bind, okS_st, okS_seq, okS_nx, okS_rt, okS_bk, okS_ct, okS_ex, okE_ofOpt, zseq, zdrop, zapp, zset, zsetF, zifS, ztru, ztst, zop, zcb, zcf, zacons, zanil, zc, zv, znil, zret, zcall, zfz, znew, zneg, zos, zon, zsl, zslF, ztup, zlst, zand, zor, znot, zif, zpar, zpar3, zasg, gN, gT2, gT3, zdnew, zdput, zmt1, zcnt1, zandV, zorV, znotV, zchain, zfrz, zbrk, zcnt, zopF, zpop0, zlput, zdget, zdin, zdnin, zdget2, zisi, ziA, ziQ, itemsQ, ziL, ziT, itemsL, itemsT, rng1_ok, rng2_ok, izs_len, izr_len, zipOf, enumOf, ofOpt, bind_val, bind_exc, st_val, st_exc, seq_nx, seq_rt, seq_ex, seq_bk, seq_ct, List.map_cons, List.map_nil, List.cons_append, List.nil_append, List.replicate, List.length_cons, List.length_nil, List.length_append, List.length_map, List.length_set, List.getElem?_cons_zero, List.getElem?_cons_succ, List.getElem?_nil, List.set_cons_zero, List.set_cons_succ, lstAt, res, resD, truS, truth, app2, on1, on2, lstOnly, lenS, allD_nil, allD_cons, Option.map_some, Option.map_none, Option.bind_some, Option.bind_none, dAdd, dSub, dMul_ok, dMod_ok, dDiv_ok, dLt, dLe, dGt, dGe, dEq_i, dEq_s, dEq_b, dNe_i, dNe_s, dNe_b, dEq_ti, dNe_ti, dEq_li, dNe_li, dIs, dIsNot, nonD, dIn, dNotIn, dIx, atI_0, atI_1, atI_2, dTup, dInt, dMin, dMax, dSum, dAll, dAny, intsOf_map, bolsOf_map, intsOf_nil, intsOf_cons, dMin2, dMax2, dAbs, keySl, Z.keyOf, putS, lim, retN_d, getLast0, setLast0, takeLast0, takeLast1, List.take_succ_cons, List.take_zero, List.take_length, List.take_nil, decide_eq_true_eq, beq_iff_eq, if_true, if_false, Bool.not_true, Bool.not_false, Bool.not_eq_true', Bool.false_eq_true, Bool.true_eq_false, reduceIte, if_pos, if_neg, Nat.add_eq, List.isEmpty_cons, List.isEmpty_nil, Option.some.injEq, decide_true, decide_false, decide_eq_true, decide_eq_false, beq_self_eq_true, BEq.rfl, beq_eq_false_iff_ne, Nat.zero_add, Nat.reduceAdd, Int.toNat_natCast, Bool.not_eq_true, decide_eq_false_iff_not, bne_iff_ne, ne_eq, not_true_eq_false, not_false_eq_true, e]
  exact h x hx
theorem drum_ok {ns : List Int} {tw : List PyData} {R : Sto} {lo hi : Int} {X : XP} {P : Sl → Sto → Prop} (ht : tw.length < 90000) (hl : 0 < lo) (hlh : lo ≤ hi)
    (h : ∀ n hs tw', tw'.length ≤ tw.length + 5 → lo ≤ n → n ≤ hi → IsDrum n hs → hs.length ≤ 3 → P (.d (.tuple [.int n, .tuple (hs.map .int)])) (.scr ns :: .lst tw' :: R)) : OkE (F__law_drum [.box 0, .box 1, .d (.int lo), .d (.int hi)] (.scr ns :: .lst tw :: R)) X P := by
  refine ok_def rfl ?_
  unfold z__law_drum
  refine ok_seq ?_
  simp (disch := omega) only [wipeZ, forget, okE_val, okE_exc, okE_bind, okS_st, okS_seq, okS_nx, okS_rt, okS_bk, okS_ct, okS_ex, okE_ofOpt, zdrop, zapp, zset, zsetF, zifS, ztru, ztst, zop, zcb, zcf, zacons, zanil, zc, zv, znil, zret, zcall, zfz, znew, zneg, zos, zon, zsl, zslF, ztup, zlst, zand, zor, znot, zif, zpar, zpar3, zasg, gN, gT2, gT3, zdnew, zdput, zmt1, zcnt1, zandV, zorV, znotV, zchain, zfrz, zbrk, zcnt, zopF, zpop0, zlput, zdget, zdin, zdnin, zdget2, zisi, ziA, ziQ, itemsQ, ziL, ziT, itemsL, itemsT, rng1_ok, rng2_ok, izs_len, izr_len, zipOf, enumOf, ofOpt, bind_val, bind_exc, st_val, st_exc, seq_nx, seq_rt, seq_ex, seq_bk, seq_ct, List.map_cons, List.map_nil, List.cons_append, List.nil_append, List.replicate, List.length_cons, List.length_nil, List.length_append, List.length_map, List.length_set, List.getElem?_cons_zero, List.getElem?_cons_succ, List.getElem?_nil, List.set_cons_zero, List.set_cons_succ, lstAt, res, resD, truS, truth, app2, on1, on2, lstOnly, lenS, allD_nil, allD_cons, Option.map_some, Option.map_none, Option.bind_some, Option.bind_none, dAdd, dSub, dMul_ok, dMod_ok, dDiv_ok, dLt, dLe, dGt, dGe, dEq_i, dEq_s, dEq_b, dNe_i, dNe_s, dNe_b, dEq_ti, dNe_ti, dEq_li, dNe_li, dIs, dIsNot, nonD, dIn, dNotIn, dIx, atI_0, atI_1, atI_2, dTup, dInt, dMin, dMax, dSum, dAll, dAny, intsOf_map, bolsOf_map, intsOf_nil, intsOf_cons, dMin2, dMax2, dAbs, keySl, Z.keyOf, putS, lim, retN_d, getLast0, setLast0, takeLast0, takeLast1, List.take_succ_cons, List.take_zero, List.take_length, List.take_nil, decide_eq_true_eq, beq_iff_eq, if_true, if_false, Bool.not_true, Bool.not_false, Bool.not_eq_true', Bool.false_eq_true, Bool.true_eq_false, reduceIte, if_pos, if_neg, Nat.add_eq, List.isEmpty_cons, List.isEmpty_nil, Option.some.injEq, decide_true, decide_false, decide_eq_true, decide_eq_false, beq_self_eq_true, BEq.rfl, beq_eq_false_iff_ne, Nat.zero_add, Nat.reduceAdd, Int.toNat_natCast, Bool.not_eq_true, decide_eq_false_iff_not, bne_iff_ne, ne_eq, not_true_eq_false, not_false_eq_true]
  refine draw_ok (by omega) (by omega) fun v h0 h1 => ?_
  simp (disch := omega) only [wipeZ, forget, okE_val, okE_exc, okE_bind, okS_st, okS_seq, okS_nx, okS_rt, okS_bk, okS_ct, okS_ex, okE_ofOpt, zdrop, zapp, zset, zsetF, zifS, ztru, ztst, zop, zcb, zcf, zacons, zanil, zc, zv, znil, zret, zcall, zfz, znew, zneg, zos, zon, zsl, zslF, ztup, zlst, zand, zor, znot, zif, zpar, zpar3, zasg, gN, gT2, gT3, zdnew, zdput, zmt1, zcnt1, zandV, zorV, znotV, zchain, zfrz, zbrk, zcnt, zopF, zpop0, zlput, zdget, zdin, zdnin, zdget2, zisi, ziA, ziQ, itemsQ, ziL, ziT, itemsL, itemsT, rng1_ok, rng2_ok, izs_len, izr_len, zipOf, enumOf, ofOpt, bind_val, bind_exc, st_val, st_exc, seq_nx, seq_rt, seq_ex, seq_bk, seq_ct, List.map_cons, List.map_nil, List.cons_append, List.nil_append, List.replicate, List.length_cons, List.length_nil, List.length_append, List.length_map, List.length_set, List.getElem?_cons_zero, List.getElem?_cons_succ, List.getElem?_nil, List.set_cons_zero, List.set_cons_succ, lstAt, res, resD, truS, truth, app2, on1, on2, lstOnly, lenS, allD_nil, allD_cons, Option.map_some, Option.map_none, Option.bind_some, Option.bind_none, dAdd, dSub, dMul_ok, dMod_ok, dDiv_ok, dLt, dLe, dGt, dGe, dEq_i, dEq_s, dEq_b, dNe_i, dNe_s, dNe_b, dEq_ti, dNe_ti, dEq_li, dNe_li, dIs, dIsNot, nonD, dIn, dNotIn, dIx, atI_0, atI_1, atI_2, dTup, dInt, dMin, dMax, dSum, dAll, dAny, intsOf_map, bolsOf_map, intsOf_nil, intsOf_cons, dMin2, dMax2, dAbs, keySl, Z.keyOf, putS, lim, retN_d, getLast0, setLast0, takeLast0, takeLast1, List.take_succ_cons, List.take_zero, List.take_length, List.take_nil, decide_eq_true_eq, beq_iff_eq, if_true, if_false, Bool.not_true, Bool.not_false, Bool.not_eq_true', Bool.false_eq_true, Bool.true_eq_false, reduceIte, if_pos, if_neg, Nat.add_eq, List.isEmpty_cons, List.isEmpty_nil, Option.some.injEq, decide_true, decide_false, decide_eq_true, decide_eq_false, beq_self_eq_true, BEq.rfl, beq_eq_false_iff_ne, Nat.zero_add, Nat.reduceAdd, Int.toNat_natCast, Bool.not_eq_true, decide_eq_false_iff_not, bne_iff_ne, ne_eq, not_true_eq_false, not_false_eq_true]
  refine ok_seq ?_
  simp (disch := omega) only [wipeZ, forget, okE_val, okE_exc, okE_bind, okS_st, okS_seq, okS_nx, okS_rt, okS_bk, okS_ct, okS_ex, okE_ofOpt, zdrop, zapp, zset, zsetF, zifS, ztru, ztst, zop, zcb, zcf, zacons, zanil, zc, zv, znil, zret, zcall, zfz, znew, zneg, zos, zon, zsl, zslF, ztup, zlst, zand, zor, znot, zif, zpar, zpar3, zasg, gN, gT2, gT3, zdnew, zdput, zmt1, zcnt1, zandV, zorV, znotV, zchain, zfrz, zbrk, zcnt, zopF, zpop0, zlput, zdget, zdin, zdnin, zdget2, zisi, ziA, ziQ, itemsQ, ziL, ziT, itemsL, itemsT, rng1_ok, rng2_ok, izs_len, izr_len, zipOf, enumOf, ofOpt, bind_val, bind_exc, st_val, st_exc, seq_nx, seq_rt, seq_ex, seq_bk, seq_ct, List.map_cons, List.map_nil, List.cons_append, List.nil_append, List.replicate, List.length_cons, List.length_nil, List.length_append, List.length_map, List.length_set, List.getElem?_cons_zero, List.getElem?_cons_succ, List.getElem?_nil, List.set_cons_zero, List.set_cons_succ, lstAt, res, resD, truS, truth, app2, on1, on2, lstOnly, lenS, allD_nil, allD_cons, Option.map_some, Option.map_none, Option.bind_some, Option.bind_none, dAdd, dSub, dMul_ok, dMod_ok, dDiv_ok, dLt, dLe, dGt, dGe, dEq_i, dEq_s, dEq_b, dNe_i, dNe_s, dNe_b, dEq_ti, dNe_ti, dEq_li, dNe_li, dIs, dIsNot, nonD, dIn, dNotIn, dIx, atI_0, atI_1, atI_2, dTup, dInt, dMin, dMax, dSum, dAll, dAny, intsOf_map, bolsOf_map, intsOf_nil, intsOf_cons, dMin2, dMax2, dAbs, keySl, Z.keyOf, putS, lim, retN_d, getLast0, setLast0, takeLast0, takeLast1, List.take_succ_cons, List.take_zero, List.take_length, List.take_nil, decide_eq_true_eq, beq_iff_eq, if_true, if_false, Bool.not_true, Bool.not_false, Bool.not_eq_true', Bool.false_eq_true, Bool.true_eq_false, reduceIte, if_pos, if_neg, Nat.add_eq, List.isEmpty_cons, List.isEmpty_nil, Option.some.injEq, decide_true, decide_false, decide_eq_true, decide_eq_false, beq_self_eq_true, BEq.rfl, beq_eq_false_iff_ne, Nat.zero_add, Nat.reduceAdd, Int.toNat_natCast, Bool.not_eq_true, decide_eq_false_iff_not, bne_iff_ne, ne_eq, not_true_eq_false, not_false_eq_true]
  refine ok_seq ?_
  simp (disch := omega) only [wipeZ, forget, okE_val, okE_exc, okE_bind, okS_st, okS_seq, okS_nx, okS_rt, okS_bk, okS_ct, okS_ex, okE_ofOpt, zdrop, zapp, zset, zsetF, zifS, ztru, ztst, zop, zcb, zcf, zacons, zanil, zc, zv, znil, zret, zcall, zfz, znew, zneg, zos, zon, zsl, zslF, ztup, zlst, zand, zor, znot, zif, zpar, zpar3, zasg, gN, gT2, gT3, zdnew, zdput, zmt1, zcnt1, zandV, zorV, znotV, zchain, zfrz, zbrk, zcnt, zopF, zpop0, zlput, zdget, zdin, zdnin, zdget2, zisi, ziA, ziQ, itemsQ, ziL, ziT, itemsL, itemsT, rng1_ok, rng2_ok, izs_len, izr_len, zipOf, enumOf, ofOpt, bind_val, bind_exc, st_val, st_exc, seq_nx, seq_rt, seq_ex, seq_bk, seq_ct, List.map_cons, List.map_nil, List.cons_append, List.nil_append, List.replicate, List.length_cons, List.length_nil, List.length_append, List.length_map, List.length_set, List.getElem?_cons_zero, List.getElem?_cons_succ, List.getElem?_nil, List.set_cons_zero, List.set_cons_succ, lstAt, res, resD, truS, truth, app2, on1, on2, lstOnly, lenS, allD_nil, allD_cons, Option.map_some, Option.map_none, Option.bind_some, Option.bind_none, dAdd, dSub, dMul_ok, dMod_ok, dDiv_ok, dLt, dLe, dGt, dGe, dEq_i, dEq_s, dEq_b, dNe_i, dNe_s, dNe_b, dEq_ti, dNe_ti, dEq_li, dNe_li, dIs, dIsNot, nonD, dIn, dNotIn, dIx, atI_0, atI_1, atI_2, dTup, dInt, dMin, dMax, dSum, dAll, dAny, intsOf_map, bolsOf_map, intsOf_nil, intsOf_cons, dMin2, dMax2, dAbs, keySl, Z.keyOf, putS, lim, retN_d, getLast0, setLast0, takeLast0, takeLast1, List.take_succ_cons, List.take_zero, List.take_length, List.take_nil, decide_eq_true_eq, beq_iff_eq, if_true, if_false, Bool.not_true, Bool.not_false, Bool.not_eq_true', Bool.false_eq_true, Bool.true_eq_false, reduceIte, if_pos, if_neg, Nat.add_eq, List.isEmpty_cons, List.isEmpty_nil, Option.some.injEq, decide_true, decide_false, decide_eq_true, decide_eq_false, beq_self_eq_true, BEq.rfl, beq_eq_false_iff_ne, Nat.zero_add, Nat.reduceAdd, Int.toNat_natCast, Bool.not_eq_true, decide_eq_false_iff_not, bne_iff_ne, ne_eq, not_true_eq_false, not_false_eq_true, zfor]
  refine draw_ok (by simp; omega) (by omega) fun u g0 g1 => ?_
  simp (disch := omega) only [wipeZ, forget, okE_val, okE_exc, okE_bind, okS_st, okS_seq, okS_nx, okS_rt, okS_bk, okS_ct, okS_ex, okE_ofOpt, zdrop, zapp, zset, zsetF, zifS, ztru, ztst, zop, zcb, zcf, zacons, zanil, zc, zv, znil, zret, zcall, zfz, znew, zneg, zos, zon, zsl, zslF, ztup, zlst, zand, zor, znot, zif, zpar, zpar3, zasg, gN, gT2, gT3, zdnew, zdput, zmt1, zcnt1, zandV, zorV, znotV, zchain, zfrz, zbrk, zcnt, zopF, zpop0, zlput, zdget, zdin, zdnin, zdget2, zisi, ziA, ziQ, itemsQ, ziL, ziT, itemsL, itemsT, rng1_ok, rng2_ok, izs_len, izr_len, zipOf, enumOf, ofOpt, bind_val, bind_exc, st_val, st_exc, seq_nx, seq_rt, seq_ex, seq_bk, seq_ct, List.map_cons, List.map_nil, List.cons_append, List.nil_append, List.replicate, List.length_cons, List.length_nil, List.length_append, List.length_map, List.length_set, List.getElem?_cons_zero, List.getElem?_cons_succ, List.getElem?_nil, List.set_cons_zero, List.set_cons_succ, lstAt, res, resD, truS, truth, app2, on1, on2, lstOnly, lenS, allD_nil, allD_cons, Option.map_some, Option.map_none, Option.bind_some, Option.bind_none, dAdd, dSub, dMul_ok, dMod_ok, dDiv_ok, dLt, dLe, dGt, dGe, dEq_i, dEq_s, dEq_b, dNe_i, dNe_s, dNe_b, dEq_ti, dNe_ti, dEq_li, dNe_li, dIs, dIsNot, nonD, dIn, dNotIn, dIx, atI_0, atI_1, atI_2, dTup, dInt, dMin, dMax, dSum, dAll, dAny, intsOf_map, bolsOf_map, intsOf_nil, intsOf_cons, dMin2, dMax2, dAbs, keySl, Z.keyOf, putS, lim, retN_d, getLast0, setLast0, takeLast0, takeLast1, List.take_succ_cons, List.take_zero, List.take_length, List.take_nil, decide_eq_true_eq, beq_iff_eq, if_true, if_false, Bool.not_true, Bool.not_false, Bool.not_eq_true', Bool.false_eq_true, Bool.true_eq_false, reduceIte, if_pos, if_neg, Nat.add_eq, List.isEmpty_cons, List.isEmpty_nil, Option.some.injEq, decide_true, decide_false, decide_eq_true, decide_eq_false, beq_self_eq_true, BEq.rfl, beq_eq_false_iff_ne, Nat.zero_add, Nat.reduceAdd, Int.toNat_natCast, Bool.not_eq_true, decide_eq_false_iff_not, bne_iff_ne, ne_eq, not_true_eq_false, not_false_eq_true]
  refine ok_for (fun i Γ S => ∃ (tw' : List PyData) (kvs : List (L2.Key × PyData)) (ks : List Int) (g : Option Sl), tw'.length ≤ tw.length + 2 + i ∧ kvs.map (·.1) = ks.map .inl ∧ ks.Nodup ∧ (∀ k ∈ ks, 0 ≤ k ∧ k < lo + v) ∧ ks.length ≤ i ∧ (0 < i → ks ≠ []) ∧
    Γ = [some (.box 0), some (.box 1), some (.d (.int lo)), some (.d (.int hi)), some (.d (.int (lo + v))), some (.box (R.length + 1 + 1)), g] ∧ S = .scr ns :: .lst tw' :: (R ++ [.dic kvs])) ?_ ?_ ?_
  · exact ⟨_, [], [], none, by simp, rfl, .nil, by simp, by simp, by simp, rfl, rfl⟩
  · rintro i d Γ S hd ⟨tw', kvs, ks, g, a1, a2, a3, a4, a5, a6, rfl, rfl⟩
    have hi : i < 3 := by
      have := (List.getElem?_eq_some_iff.mp hd).1
      simp [izs] at this
      omega
    refine ⟨_, rfl, ?_⟩
    unfold b1__law_drum
    have hkl : kvs.length = ks.length := by simpa using congrArg List.length a2
    simp (disch := omega) only [wipeZ, forget, okE_val, okE_exc, okE_bind, okS_st, okS_seq, okS_nx, okS_rt, okS_bk, okS_ct, okS_ex, okE_ofOpt, zdrop, zapp, zset, zsetF, zifS, ztru, ztst, zop, zcb, zcf, zacons, zanil, zc, zv, znil, zret, zcall, zfz, znew, zneg, zos, zon, zsl, zslF, ztup, zlst, zand, zor, znot, zif, zpar, zpar3, zasg, gN, gT2, gT3, zdnew, zdput, zmt1, zcnt1, zandV, zorV, znotV, zchain, zfrz, zbrk, zcnt, zopF, zpop0, zlput, zdget, zdin, zdnin, zdget2, zisi, ziA, ziQ, itemsQ, ziL, ziT, itemsL, itemsT, rng1_ok, rng2_ok, izs_len, izr_len, zipOf, enumOf, ofOpt, bind_val, bind_exc, st_val, st_exc, seq_nx, seq_rt, seq_ex, seq_bk, seq_ct, List.map_cons, List.map_nil, List.cons_append, List.nil_append, List.replicate, List.length_cons, List.length_nil, List.length_append, List.length_map, List.length_set, List.getElem?_cons_zero, List.getElem?_cons_succ, List.getElem?_nil, List.set_cons_zero, List.set_cons_succ, lstAt, res, resD, truS, truth, app2, on1, on2, lstOnly, lenS, allD_nil, allD_cons, Option.map_some, Option.map_none, Option.bind_some, Option.bind_none, dAdd, dSub, dMul_ok, dMod_ok, dDiv_ok, dLt, dLe, dGt, dGe, dEq_i, dEq_s, dEq_b, dNe_i, dNe_s, dNe_b, dEq_ti, dNe_ti, dEq_li, dNe_li, dIs, dIsNot, nonD, dIn, dNotIn, dIx, atI_0, atI_1, atI_2, dTup, dInt, dMin, dMax, dSum, dAll, dAny, intsOf_map, bolsOf_map, intsOf_nil, intsOf_cons, dMin2, dMax2, dAbs, keySl, Z.keyOf, putS, lim, retN_d, getLast0, setLast0, takeLast0, takeLast1, List.take_succ_cons, List.take_zero, List.take_length, List.take_nil, decide_eq_true_eq, beq_iff_eq, if_true, if_false, Bool.not_true, Bool.not_false, Bool.not_eq_true', Bool.false_eq_true, Bool.true_eq_false, reduceIte, if_pos, if_neg, Nat.add_eq, List.isEmpty_cons, List.isEmpty_nil, Option.some.injEq, decide_true, decide_false, decide_eq_true, decide_eq_false, beq_self_eq_true, BEq.rfl, beq_eq_false_iff_ne, Nat.zero_add, Nat.reduceAdd, Int.toNat_natCast, Bool.not_eq_true, decide_eq_false_iff_not, bne_iff_ne, ne_eq, not_true_eq_false, not_false_eq_true]
    refine draw_ok (by omega) (by omega) fun c c0 c1 => ?_
    simp (disch := omega) only [wipeZ, forget, okE_val, okE_exc, okE_bind, okS_st, okS_seq, okS_nx, okS_rt, okS_bk, okS_ct, okS_ex, okE_ofOpt, zdrop, zapp, zset, zsetF, zifS, ztru, ztst, zop, zcb, zcf, zacons, zanil, zc, zv, znil, zret, zcall, zfz, znew, zneg, zos, zon, zsl, zslF, ztup, zlst, zand, zor, znot, zif, zpar, zpar3, zasg, gN, gT2, gT3, zdnew, zdput, zmt1, zcnt1, zandV, zorV, znotV, zchain, zfrz, zbrk, zcnt, zopF, zpop0, zlput, zdget, zdin, zdnin, zdget2, zisi, ziA, ziQ, itemsQ, ziL, ziT, itemsL, itemsT, rng1_ok, rng2_ok, izs_len, izr_len, zipOf, enumOf, ofOpt, bind_val, bind_exc, st_val, st_exc, seq_nx, seq_rt, seq_ex, seq_bk, seq_ct, List.map_cons, List.map_nil, List.cons_append, List.nil_append, List.replicate, List.length_cons, List.length_nil, List.length_append, List.length_map, List.length_set, List.getElem?_cons_zero, List.getElem?_cons_succ, List.getElem?_nil, List.set_cons_zero, List.set_cons_succ, lstAt, res, resD, truS, truth, app2, on1, on2, lstOnly, lenS, allD_nil, allD_cons, Option.map_some, Option.map_none, Option.bind_some, Option.bind_none, dAdd, dSub, dMul_ok, dMod_ok, dDiv_ok, dLt, dLe, dGt, dGe, dEq_i, dEq_s, dEq_b, dNe_i, dNe_s, dNe_b, dEq_ti, dNe_ti, dEq_li, dNe_li, dIs, dIsNot, nonD, dIn, dNotIn, dIx, atI_0, atI_1, atI_2, dTup, dInt, dMin, dMax, dSum, dAll, dAny, intsOf_map, bolsOf_map, intsOf_nil, intsOf_cons, dMin2, dMax2, dAbs, keySl, Z.keyOf, putS, lim, retN_d, getLast0, setLast0, takeLast0, takeLast1, List.take_succ_cons, List.take_zero, List.take_length, List.take_nil, decide_eq_true_eq, beq_iff_eq, if_true, if_false, Bool.not_true, Bool.not_false, Bool.not_eq_true', Bool.false_eq_true, Bool.true_eq_false, reduceIte, if_pos, if_neg, Nat.add_eq, List.isEmpty_cons, List.isEmpty_nil, Option.some.injEq, decide_true, decide_false, decide_eq_true, decide_eq_false, beq_self_eq_true, BEq.rfl, beq_eq_false_iff_ne, Nat.zero_add, Nat.reduceAdd, Int.toNat_natCast, Bool.not_eq_true, decide_eq_false_iff_not, bne_iff_ne, ne_eq, not_true_eq_false, not_false_eq_true]
    refine ⟨_, putD kvs (.inl c) (.int 0), if c ∈ ks then ks else ks ++ [c], _, ?_, ?_, ?_, ?_, ?_, ?_, rfl, rfl⟩
    · simp; omega
    · rw [putD_keys, a2]
      by_cases q : c ∈ ks
      · rw [if_pos q, if_pos (List.mem_map.mpr ⟨c, q, rfl⟩)]
      · rw [if_neg q, if_neg (by
          intro z
          obtain ⟨x, hx, e⟩ := List.mem_map.mp z
          cases e
          exact q hx)]
        simp
    · split
      · exact a3
      · rename_i q
        exact List.nodup_append.mpr ⟨a3, by simp, fun x hx y hy => by
          have : y = c := by simpa using hy
          subst this
          rintro rfl
          exact q hx⟩
    · intro k hk
      split at hk
      · exact a4 k hk
      · rcases List.mem_append.mp hk with z | z
        · exact a4 k z
        · have : k = c := by simpa using z
          subst this
          omega
    · split
      · omega
      · simp; omega
    · intro _
      split
      · rename_i q
        exact List.ne_nil_of_mem q
      · simp
  · rintro Γ S ⟨tw', kvs, ks, g, a1, a2, a3, a4, a5, a6, rfl, rfl⟩
    have hr : ((izs (1 + u).toNat).map PyData.int).length = (1 + u).toNat := by simp [izs]
    rw [hr] at a1 a5 a6
    simp (disch := omega) only [wipeZ, forget, okE_val, okE_exc, okE_bind, okS_st, okS_seq, okS_nx, okS_rt, okS_bk, okS_ct, okS_ex, okE_ofOpt, zdrop, zapp, zset, zsetF, zifS, ztru, ztst, zop, zcb, zcf, zacons, zanil, zc, zv, znil, zret, zcall, zfz, znew, zneg, zos, zon, zsl, zslF, ztup, zlst, zand, zor, znot, zif, zpar, zpar3, zasg, gN, gT2, gT3, zdnew, zdput, zmt1, zcnt1, zandV, zorV, znotV, zchain, zfrz, zbrk, zcnt, zopF, zpop0, zlput, zdget, zdin, zdnin, zdget2, zisi, ziA, ziQ, itemsQ, ziL, ziT, itemsL, itemsT, rng1_ok, rng2_ok, izs_len, izr_len, zipOf, enumOf, ofOpt, bind_val, bind_exc, st_val, st_exc, seq_nx, seq_rt, seq_ex, seq_bk, seq_ct, List.map_cons, List.map_nil, List.cons_append, List.nil_append, List.replicate, List.length_cons, List.length_nil, List.length_append, List.length_map, List.length_set, List.getElem?_cons_zero, List.getElem?_cons_succ, List.getElem?_nil, List.set_cons_zero, List.set_cons_succ, lstAt, res, resD, truS, truth, app2, on1, on2, lstOnly, lenS, allD_nil, allD_cons, Option.map_some, Option.map_none, Option.bind_some, Option.bind_none, dAdd, dSub, dMul_ok, dMod_ok, dDiv_ok, dLt, dLe, dGt, dGe, dEq_i, dEq_s, dEq_b, dNe_i, dNe_s, dNe_b, dEq_ti, dNe_ti, dEq_li, dNe_li, dIs, dIsNot, nonD, dIn, dNotIn, dIx, atI_0, atI_1, atI_2, dTup, dInt, dMin, dMax, dSum, dAll, dAny, intsOf_map, bolsOf_map, intsOf_nil, intsOf_cons, dMin2, dMax2, dAbs, keySl, Z.keyOf, putS, lim, retN_d, getLast0, setLast0, takeLast0, takeLast1, List.take_succ_cons, List.take_zero, List.take_length, List.take_nil, decide_eq_true_eq, beq_iff_eq, if_true, if_false, Bool.not_true, Bool.not_false, Bool.not_eq_true', Bool.false_eq_true, Bool.true_eq_false, reduceIte, if_pos, if_neg, Nat.add_eq, List.isEmpty_cons, List.isEmpty_nil, Option.some.injEq, decide_true, decide_false, decide_eq_true, decide_eq_false, beq_self_eq_true, BEq.rfl, beq_eq_false_iff_ne, Nat.zero_add, Nat.reduceAdd, Int.toNat_natCast, Bool.not_eq_true, decide_eq_false_iff_not, bne_iff_ne, ne_eq, not_true_eq_false, not_false_eq_true, srtS, a2, keysI_map, isort_len]
    refine h _ _ _ (by omega) (by omega) (by omega) ⟨fun z => ?_, isort_lt a3, fun k hk => a4 k (isort_mem.mp hk)⟩ (by rw [isort_len]; omega)
    have := isort_len (ks := ks)
    rw [z] at this
    exact a6 (by omega) (List.length_eq_zero_iff.mp this.symm)
/-- the drum that a program holds as data -/
abbrev dDrum (n : Int) (hs : List Int) : PyData := .tuple [.int n, .tuple (hs.map .int)]
def rt (n : Int) (hs : List Int) (spot t : Int) : Int := (minI (hs.map fun h => t + (spot - h - t) % n)).getD 0
theorem minI_ex : ∀ {l : List Int}, l ≠ [] → ∃ m, minI l = some m
  | a :: r, _ => ⟨_, rfl⟩
theorem maxI_ex : ∀ {l : List Int}, l ≠ [] → ∃ m, maxI l = some m
  | a :: r, _ => ⟨_, rfl⟩
theorem rt_eq {n : Int} {hs : List Int} {spot t : Int} (hne : hs ≠ []) : minI (hs.map fun h => t + (spot - h - t) % n) = some (rt n hs spot t) := by
  obtain ⟨m, e⟩ := minI_ex (l := hs.map fun h => t + (spot - h - t) % n) (by simpa using hne)
  unfold rt
  rw [e]
  rfl
theorem read_time_ok {n : Int} {hs : List Int} {spot t : Int} {S : Sto} (hn : 0 < n) (hne : hs ≠ []) (hl : hs.length ≤ 1000000) :
    F_read_time [.d (dDrum n hs), .d (.int spot), .d (.int t)] S = .val (.d (.int (rt n hs spot t))) S := by
  refine zdef_val rfl (S1 := S) ?_ List.take_length
  unfold z_read_time
  have e := lc_map (g := gN 3) (ze := zop dAdd (zv 2) (zop dMod (zop dSub (zop dSub (zv 1) (zv 3)) (zv 2)) (zop dIx (zv 0) (zc (.int 0))))) (Γ0 := [some (.d (dDrum n hs)), some (.d (.int spot)), some (.d (.int t)), none]) (S := S) (ds := hs.map .int)
    (fun d => match d with | .int h => .int (t + (spot - h - t) % n) | _ => .none) (by simpa using hl) (fun d hd => by
      obtain ⟨h, _, rfl⟩ := List.mem_map.mp hd
      refine ⟨_, rfl, ?_⟩
      simp (disch := omega) only [wipeZ, forget, okE_val, okE_exc, okE_bind, okS_st, okS_seq, okS_nx, okS_rt, okS_bk, okS_ct, okS_ex, okE_ofOpt, zseq, zdrop, zapp, zset, zsetF, zifS, ztru, ztst, zop, zcb, zcf, zacons, zanil, zc, zv, znil, zret, zcall, zfz, znew, zneg, zos, zon, zsl, zslF, ztup, zlst, zand, zor, znot, zif, zpar, zpar3, zasg, gN, gT2, gT3, zdnew, zdput, zmt1, zcnt1, zandV, zorV, znotV, zchain, zfrz, zbrk, zcnt, zopF, zpop0, zlput, zdget, zdin, zdnin, zdget2, zisi, ziA, ziQ, itemsQ, ziL, ziT, itemsL, itemsT, rng1_ok, rng2_ok, izs_len, izr_len, zipOf, enumOf, ofOpt, bind_val, bind_exc, st_val, st_exc, seq_nx, seq_rt, seq_ex, seq_bk, seq_ct, List.map_cons, List.map_nil, List.cons_append, List.nil_append, List.replicate, List.length_cons, List.length_nil, List.length_append, List.length_map, List.length_set, List.getElem?_cons_zero, List.getElem?_cons_succ, List.getElem?_nil, List.set_cons_zero, List.set_cons_succ, lstAt, res, resD, truS, truth, app2, on1, on2, lstOnly, lenS, allD_nil, allD_cons, Option.map_some, Option.map_none, Option.bind_some, Option.bind_none, dAdd, dSub, dMul_ok, dMod_ok, dDiv_ok, dLt, dLe, dGt, dGe, dEq_i, dEq_s, dEq_b, dNe_i, dNe_s, dNe_b, dEq_ti, dNe_ti, dEq_li, dNe_li, dIs, dIsNot, nonD, dIn, dNotIn, dIx, atI_0, atI_1, atI_2, dTup, dInt, dMin, dMax, dSum, dAll, dAny, intsOf_map, bolsOf_map, intsOf_nil, intsOf_cons, dMin2, dMax2, dAbs, keySl, Z.keyOf, putS, lim, retN_d, getLast0, setLast0, takeLast0, takeLast1, List.take_succ_cons, List.take_zero, List.take_length, List.take_nil, decide_eq_true_eq, beq_iff_eq, if_true, if_false, Bool.not_true, Bool.not_false, Bool.not_eq_true', Bool.false_eq_true, Bool.true_eq_false, reduceIte, if_pos, if_neg, Nat.add_eq, List.isEmpty_cons, List.isEmpty_nil, Option.some.injEq, decide_true, decide_false, decide_eq_true, decide_eq_false, beq_self_eq_true, BEq.rfl, beq_eq_false_iff_ne, Nat.zero_add, Nat.reduceAdd, Int.toNat_natCast, Bool.not_eq_true, decide_eq_false_iff_not, bne_iff_ne, ne_eq, not_true_eq_false, not_false_eq_true])
  rw [List.map_map] at e
  simp (disch := omega) only [wipeZ, forget, okE_val, okE_exc, okE_bind, okS_st, okS_seq, okS_nx, okS_rt, okS_bk, okS_ct, okS_ex, okE_ofOpt, zseq, zdrop, zapp, zset, zsetF, zifS, ztru, ztst, zop, zcb, zcf, zacons, zanil, zc, zv, znil, zret, zcall, zfz, znew, zneg, zos, zon, zsl, zslF, ztup, zlst, zand, zor, znot, zif, zpar, zpar3, zasg, gN, gT2, gT3, zdnew, zdput, zmt1, zcnt1, zandV, zorV, znotV, zchain, zfrz, zbrk, zcnt, zopF, zpop0, zlput, zdget, zdin, zdnin, zdget2, zisi, ziA, ziQ, itemsQ, ziL, ziT, itemsL, itemsT, rng1_ok, rng2_ok, izs_len, izr_len, zipOf, enumOf, ofOpt, bind_val, bind_exc, st_val, st_exc, seq_nx, seq_rt, seq_ex, seq_bk, seq_ct, List.map_cons, List.map_nil, List.cons_append, List.nil_append, List.replicate, List.length_cons, List.length_nil, List.length_append, List.length_map, List.length_set, List.getElem?_cons_zero, List.getElem?_cons_succ, List.getElem?_nil, List.set_cons_zero, List.set_cons_succ, lstAt, res, resD, truS, truth, app2, on1, on2, lstOnly, lenS, allD_nil, allD_cons, Option.map_some, Option.map_none, Option.bind_some, Option.bind_none, dAdd, dSub, dMul_ok, dMod_ok, dDiv_ok, dLt, dLe, dGt, dGe, dEq_i, dEq_s, dEq_b, dNe_i, dNe_s, dNe_b, dEq_ti, dNe_ti, dEq_li, dNe_li, dIs, dIsNot, nonD, dIn, dNotIn, dIx, atI_0, atI_1, atI_2, dTup, dInt, dMin, dMax, dSum, dAll, dAny, intsOf_map, bolsOf_map, intsOf_nil, intsOf_cons, dMin2, dMax2, dAbs, keySl, Z.keyOf, putS, lim, retN_d, getLast0, setLast0, takeLast0, takeLast1, List.take_succ_cons, List.take_zero, List.take_length, List.take_nil, decide_eq_true_eq, beq_iff_eq, if_true, if_false, Bool.not_true, Bool.not_false, Bool.not_eq_true', Bool.false_eq_true, Bool.true_eq_false, reduceIte, if_pos, if_neg, Nat.add_eq, List.isEmpty_cons, List.isEmpty_nil, Option.some.injEq, decide_true, decide_false, decide_eq_true, decide_eq_false, beq_self_eq_true, BEq.rfl, beq_eq_false_iff_ne, Nat.zero_add, Nat.reduceAdd, Int.toNat_natCast, Bool.not_eq_true, decide_eq_false_iff_not, bne_iff_ne, ne_eq, not_true_eq_false, not_false_eq_true, zlc, e]
  have e2 : (List.map ((fun d => match d with | .int h => PyData.int (t + (spot - h - t) % n) | _ => .none) ∘ PyData.int) hs) = (hs.map fun h => t + (spot - h - t) % n).map PyData.int := by
    rw [List.map_map]
    rfl
  rw [e2]
  simp (disch := omega) only [wipeZ, forget, okE_val, okE_exc, okE_bind, okS_st, okS_seq, okS_nx, okS_rt, okS_bk, okS_ct, okS_ex, okE_ofOpt, zseq, zdrop, zapp, zset, zsetF, zifS, ztru, ztst, zop, zcb, zcf, zacons, zanil, zc, zv, znil, zret, zcall, zfz, znew, zneg, zos, zon, zsl, zslF, ztup, zlst, zand, zor, znot, zif, zpar, zpar3, zasg, gN, gT2, gT3, zdnew, zdput, zmt1, zcnt1, zandV, zorV, znotV, zchain, zfrz, zbrk, zcnt, zopF, zpop0, zlput, zdget, zdin, zdnin, zdget2, zisi, ziA, ziQ, itemsQ, ziL, ziT, itemsL, itemsT, rng1_ok, rng2_ok, izs_len, izr_len, zipOf, enumOf, ofOpt, bind_val, bind_exc, st_val, st_exc, seq_nx, seq_rt, seq_ex, seq_bk, seq_ct, List.map_cons, List.map_nil, List.cons_append, List.nil_append, List.replicate, List.length_cons, List.length_nil, List.length_append, List.length_map, List.length_set, List.getElem?_cons_zero, List.getElem?_cons_succ, List.getElem?_nil, List.set_cons_zero, List.set_cons_succ, lstAt, res, resD, truS, truth, app2, on1, on2, lstOnly, lenS, allD_nil, allD_cons, Option.map_some, Option.map_none, Option.bind_some, Option.bind_none, dAdd, dSub, dMul_ok, dMod_ok, dDiv_ok, dLt, dLe, dGt, dGe, dEq_i, dEq_s, dEq_b, dNe_i, dNe_s, dNe_b, dEq_ti, dNe_ti, dEq_li, dNe_li, dIs, dIsNot, nonD, dIn, dNotIn, dIx, atI_0, atI_1, atI_2, dTup, dInt, dMin, dMax, dSum, dAll, dAny, intsOf_map, bolsOf_map, intsOf_nil, intsOf_cons, dMin2, dMax2, dAbs, keySl, Z.keyOf, putS, lim, retN_d, getLast0, setLast0, takeLast0, takeLast1, List.take_succ_cons, List.take_zero, List.take_length, List.take_nil, decide_eq_true_eq, beq_iff_eq, if_true, if_false, Bool.not_true, Bool.not_false, Bool.not_eq_true', Bool.false_eq_true, Bool.true_eq_false, reduceIte, if_pos, if_neg, Nat.add_eq, List.isEmpty_cons, List.isEmpty_nil, Option.some.injEq, decide_true, decide_false, decide_eq_true, decide_eq_false, beq_self_eq_true, BEq.rfl, beq_eq_false_iff_ne, Nat.zero_add, Nat.reduceAdd, Int.toNat_natCast, Bool.not_eq_true, decide_eq_false_iff_not, bne_iff_ne, ne_eq, not_true_eq_false, not_false_eq_true, rt_eq hne]
/-! the longest wait -/
def gaps : List Int → List Int
  | a :: b :: r => (b - a) :: gaps (b :: r)
  | _ => []
def lw (n : Int) (hs : List Int) : Int := (maxI (gaps (hs ++ [hs.headD 0 + n]))).getD 0 - 1
theorem gaps_zip : ∀ l : List Int, (zipD (l.map PyData.int).dropLast (l.map PyData.int).tail).map (fun d => match d with | .tuple [.int a, .int b] => PyData.int (b - a) | _ => .none) = (gaps l).map .int
  | [] => rfl
  | [a] => rfl
  | a :: b :: r => by
    have ih := gaps_zip (b :: r)
    simp only [zipD, List.map_cons, List.dropLast_cons_cons, List.tail_cons, gaps] at ih ⊢
    cases r with
    | nil => rfl
    | cons c r =>
      simp only [List.map_cons, List.dropLast_cons_cons, List.zipWith_cons_cons, List.tail_cons] at ih ⊢
      rw [ih]
theorem gaps_ne {a b : Int} {r : List Int} : gaps (a :: b :: r) ≠ [] := by simp [gaps]
theorem longest_wait_ok {n : Int} {hs : List Int} {S : Sto} (hne : hs ≠ []) (hl : hs.length ≤ 1000) :
    F_longest_wait [.d (dDrum n hs)] S = .val (.d (.int (lw n hs))) S := by
  refine zdef_val rfl (S1 := S) ?_ List.take_length
  unfold z_longest_wait
  obtain ⟨a, r, rfl⟩ : ∃ a r, hs = a :: r := by
    cases hs with
    | nil => exact absurd rfl hne
    | cons a r => exact ⟨a, r, rfl⟩
  simp only [List.length_cons] at hl
  have hg : maxI (gaps (a :: (r ++ [a + n]))) = some (lw n (a :: r) + 1) := by
    obtain ⟨m, e⟩ := maxI_ex (l := gaps (a :: (r ++ [a + n]))) (by cases r <;> exact gaps_ne)
    unfold lw
    rw [List.cons_append, List.headD_cons, e]
    show _ = some (m - 1 + 1)
    congr 1
    omega
  have e := lc_map (g := gT2 (gN 2) (gN 3)) (ze := zop dSub (zv 3) (zv 2)) (Γ0 := [some (.d (dDrum n (a :: r))), some (.d (.tuple ((a :: (r ++ [a + n])).map .int))), none, none]) (S := S) (ds := zipD ((a :: (r ++ [a + n])).map .int).dropLast ((a :: (r ++ [a + n])).map .int).tail)
    (fun d => match d with | .tuple [.int a, .int b] => PyData.int (b - a) | _ => .none) (by simp [zipD]; omega) (fun d hd => by
      obtain ⟨i, hi⟩ := List.mem_iff_getElem?.mp hd
      have hi' : ((zipD ((a :: (r ++ [a + n])).map .int).dropLast ((a :: (r ++ [a + n])).map .int).tail))[i]? = some d := hi
      unfold zipD at hi'
      rw [← List.map_dropLast, ← List.map_tail, List.zipWith_map, List.getElem?_zipWith] at hi'
      split at hi'
      · cases hi'
        refine ⟨_, rfl, ?_⟩
        simp (disch := omega) only [wipeZ, forget, okE_val, okE_exc, okE_bind, okS_st, okS_seq, okS_nx, okS_rt, okS_bk, okS_ct, okS_ex, okE_ofOpt, zseq, zdrop, zapp, zset, zsetF, zifS, ztru, ztst, zop, zcb, zcf, zacons, zanil, zc, zv, znil, zret, zcall, zfz, znew, zneg, zos, zon, zsl, zslF, ztup, zlst, zand, zor, znot, zif, zpar, zpar3, zasg, gN, gT2, gT3, zdnew, zdput, zmt1, zcnt1, zandV, zorV, znotV, zchain, zfrz, zbrk, zcnt, zopF, zpop0, zlput, zdget, zdin, zdnin, zdget2, zisi, ziA, ziQ, itemsQ, ziL, ziT, itemsL, itemsT, rng1_ok, rng2_ok, izs_len, izr_len, zipOf, enumOf, ofOpt, bind_val, bind_exc, st_val, st_exc, seq_nx, seq_rt, seq_ex, seq_bk, seq_ct, List.map_cons, List.map_nil, List.cons_append, List.nil_append, List.replicate, List.length_cons, List.length_nil, List.length_append, List.length_map, List.length_set, List.getElem?_cons_zero, List.getElem?_cons_succ, List.getElem?_nil, List.set_cons_zero, List.set_cons_succ, lstAt, res, resD, truS, truth, app2, on1, on2, lstOnly, lenS, allD_nil, allD_cons, Option.map_some, Option.map_none, Option.bind_some, Option.bind_none, dAdd, dSub, dMul_ok, dMod_ok, dDiv_ok, dLt, dLe, dGt, dGe, dEq_i, dEq_s, dEq_b, dNe_i, dNe_s, dNe_b, dEq_ti, dNe_ti, dEq_li, dNe_li, dIs, dIsNot, nonD, dIn, dNotIn, dIx, atI_0, atI_1, atI_2, dTup, dInt, dMin, dMax, dSum, dAll, dAny, intsOf_map, bolsOf_map, intsOf_nil, intsOf_cons, dMin2, dMax2, dAbs, keySl, Z.keyOf, putS, lim, retN_d, getLast0, setLast0, takeLast0, takeLast1, List.take_succ_cons, List.take_zero, List.take_length, List.take_nil, decide_eq_true_eq, beq_iff_eq, if_true, if_false, Bool.not_true, Bool.not_false, Bool.not_eq_true', Bool.false_eq_true, Bool.true_eq_false, reduceIte, if_pos, if_neg, Nat.add_eq, List.isEmpty_cons, List.isEmpty_nil, Option.some.injEq, decide_true, decide_false, decide_eq_true, decide_eq_false, beq_self_eq_true, BEq.rfl, beq_eq_false_iff_ne, Nat.zero_add, Nat.reduceAdd, Int.toNat_natCast, Bool.not_eq_true, decide_eq_false_iff_not, bne_iff_ne, ne_eq, not_true_eq_false, not_false_eq_true]
      · cases hi')
  rw [gaps_zip] at e
  simp only [List.map_cons, List.map_append, List.map_nil] at e
  simp (disch := omega) only [wipeZ, forget, okE_val, okE_exc, okE_bind, okS_st, okS_seq, okS_nx, okS_rt, okS_bk, okS_ct, okS_ex, okE_ofOpt, zseq, zdrop, zapp, zset, zsetF, zifS, ztru, ztst, zop, zcb, zcf, zacons, zanil, zc, zv, znil, zret, zcall, zfz, znew, zneg, zos, zon, zsl, zslF, ztup, zlst, zand, zor, znot, zif, zpar, zpar3, zasg, gN, gT2, gT3, zdnew, zdput, zmt1, zcnt1, zandV, zorV, znotV, zchain, zfrz, zbrk, zcnt, zopF, zpop0, zlput, zdget, zdin, zdnin, zdget2, zisi, ziA, ziQ, itemsQ, ziL, ziT, itemsL, itemsT, rng1_ok, rng2_ok, izs_len, izr_len, zipOf, enumOf, ofOpt, bind_val, bind_exc, st_val, st_exc, seq_nx, seq_rt, seq_ex, seq_bk, seq_ct, List.map_cons, List.map_nil, List.cons_append, List.nil_append, List.replicate, List.length_cons, List.length_nil, List.length_append, List.length_map, List.length_set, List.getElem?_cons_zero, List.getElem?_cons_succ, List.getElem?_nil, List.set_cons_zero, List.set_cons_succ, lstAt, res, resD, truS, truth, app2, on1, on2, lstOnly, lenS, allD_nil, allD_cons, Option.map_some, Option.map_none, Option.bind_some, Option.bind_none, dAdd, dSub, dMul_ok, dMod_ok, dDiv_ok, dLt, dLe, dGt, dGe, dEq_i, dEq_s, dEq_b, dNe_i, dNe_s, dNe_b, dEq_ti, dNe_ti, dEq_li, dNe_li, dIs, dIsNot, nonD, dIn, dNotIn, dIx, atI_0, atI_1, atI_2, dTup, dInt, dMin, dMax, dSum, dAll, dAny, intsOf_map, bolsOf_map, intsOf_nil, intsOf_cons, dMin2, dMax2, dAbs, keySl, Z.keyOf, putS, lim, retN_d, getLast0, setLast0, takeLast0, takeLast1, List.take_succ_cons, List.take_zero, List.take_length, List.take_nil, decide_eq_true_eq, beq_iff_eq, if_true, if_false, Bool.not_true, Bool.not_false, Bool.not_eq_true', Bool.false_eq_true, Bool.true_eq_false, reduceIte, if_pos, if_neg, Nat.add_eq, List.isEmpty_cons, List.isEmpty_nil, Option.some.injEq, decide_true, decide_false, decide_eq_true, decide_eq_false, beq_self_eq_true, BEq.rfl, beq_eq_false_iff_ne, Nat.zero_add, Nat.reduceAdd, Int.toNat_natCast, Bool.not_eq_true, decide_eq_false_iff_not, bne_iff_ne, ne_eq, not_true_eq_false, not_false_eq_true, dSl, cut_init, cut_tail, zlc, e, hg]
  congr 3
  omega
end Zc
end
section
set_option Elab.async false
set_option linter.all false
set_option maxRecDepth 100000
set_option autoImplicit false
set_option maxHeartbeats 1000000
namespace Zc
open Z
/-! ### drums, reckoned -/
def drums3 (n : Nat) : List (List Int) := (izs n).map (fun a => [a]) ++ ((izs n).flatMap fun a => (izs n).flatMap fun b => if a < b then [[a, b]] else []) ++
  ((izs n).flatMap fun a => (izs n).flatMap fun b => if a < b then (izs n).flatMap fun c => if b < c then [[a, b, c]] else [] else [])
theorem drums3_mem {n : Nat} {hs : List Int} (h : IsDrum n hs) (hl : hs.length ≤ 3) : hs ∈ drums3 n := by
  unfold drums3
  have g : ∀ x ∈ hs, x ∈ izs n := fun x hx => izs_mem.mpr (h.rg x hx)
  match hs, h, hl, g with
  | [], h, _, _ => exact absurd rfl h.ne
  | [a], h, _, g => exact List.mem_append_left _ (List.mem_append_left _ (List.mem_map.mpr ⟨a, g a (by simp), rfl⟩))
  | [a, b], h, _, g =>
    have := h.lt
    simp at this
    refine List.mem_append_left _ (List.mem_append_right _ (List.mem_flatMap.mpr ⟨a, g a (by simp), List.mem_flatMap.mpr ⟨b, g b (by simp), ?_⟩⟩))
    rw [if_pos this]
    simp
  | [a, b, c], h, _, g =>
    have := h.lt
    simp at this
    refine List.mem_append_right _ (List.mem_flatMap.mpr ⟨a, g a (by simp), List.mem_flatMap.mpr ⟨b, g b (by simp), ?_⟩⟩)
    rw [if_pos this.1.1]
    refine List.mem_flatMap.mpr ⟨c, g c (by simp), ?_⟩
    rw [if_pos this.2]
    simp
  | _ :: _ :: _ :: _ :: _, _, hl, _ => simp at hl
/-- insertion sort -/
def ins1 (x : Int) : List Int → List Int
  | [] => [x]
  | y :: r => if x ≤ y then x :: y :: r else y :: ins1 x r
def isrt : List Int → List Int
  | [] => []
  | x :: r => ins1 x (isrt r)
theorem ins1_perm (x : Int) : ∀ l, (ins1 x l).Perm (x :: l)
  | [] => .refl _
  | y :: r => by
    unfold ins1
    split
    · exact .refl _
    · exact (List.Perm.cons y (ins1_perm x r)).trans (.swap x y r)
theorem isrt_perm : ∀ l, (isrt l).Perm l
  | [] => .refl _
  | x :: r => (ins1_perm x _).trans (.cons x (isrt_perm r))
theorem ins1_pw (x : Int) : ∀ l : List Int, l.Pairwise (· ≤ ·) → (ins1 x l).Pairwise (· ≤ ·)
  | [], _ => by simp [ins1]
  | y :: r, h => by
    unfold ins1
    have h' := List.pairwise_cons.mp h
    split
    · rename_i q
      exact List.pairwise_cons.mpr ⟨fun z hz => by
        rcases List.mem_cons.mp hz with rfl | hz
        · exact q
        · have := h'.1 z hz
          omega, h⟩
    · rename_i q
      refine List.pairwise_cons.mpr ⟨fun z hz => ?_, ins1_pw x r h'.2⟩
      rcases List.mem_cons.mp ((ins1_perm x r).mem_iff.mp hz) with rfl | hz
      · omega
      · exact h'.1 z hz
theorem isrt_pw : ∀ l : List Int, (isrt l).Pairwise (· ≤ ·)
  | [] => .nil
  | x :: r => ins1_pw x _ (isrt_pw r)
theorem isort_isrt (l : List Int) : isort l = isrt l := (isort_uniq (isrt_perm l) (isrt_pw l)).symm
/-- the wait of the spot at x -/
def wt (n : Int) (hs : List Int) (x : Int) : Int := (minI (hs.map fun h => (x - h) % n)).getD 0
theorem minI_add {f : Int → Int} {t : Int} : ∀ hs : List Int, hs ≠ [] → minI (hs.map fun h => t + f h) = (minI (hs.map f)).map (t + ·) := by
  intro hs hne
  obtain ⟨m, e⟩ := minI_ex (l := hs.map f) (by simpa using hne)
  rw [e]
  obtain ⟨h1, h2⟩ := minI_iff e
  obtain ⟨x, hx, e2⟩ := List.mem_map.mp h1
  refine minI_eq (List.mem_map.mpr ⟨x, hx, by rw [e2]⟩) fun y hy => ?_
  obtain ⟨z, hz, rfl⟩ := List.mem_map.mp hy
  have := h2 (f z) (List.mem_map.mpr ⟨z, hz, rfl⟩)
  show t + m ≤ t + f z
  omega
theorem rt_wt {n : Int} {hs : List Int} {s t : Int} (hne : hs ≠ []) : rt n hs s t - t = wt n hs ((s - t) % n) := by
  unfold rt wt
  have e : (hs.map fun h => (s - h - t) % n) = hs.map fun h => ((s - t) % n - h) % n := List.map_congr_left fun h _ => by
    rw [Int.emod_sub_emod]
    congr 1
    omega
  have e2 := minI_add (f := fun h => (s - h - t) % n) (t := t) hs hne
  rw [e2, e]
  obtain ⟨m, e3⟩ := minI_ex (l := hs.map fun h => ((s - t) % n - h) % n) (by simpa using hne)
  rw [e3]
  show t + m - t = m
  omega
theorem shift_perm : ∀ n ∈ List.range 15, ∀ s ∈ List.range n, List.isPerm ((izs n).map fun t => ((s : Int) - t) % (n : Int)) (izs n) = true := by decide +kernel
def found (n : Nat) (hs : List Int) : List Int := (izs n).flatMap fun s => (izs n).map fun t => rt n hs s t - t
theorem found_row {n : Nat} {hs : List Int} {s : Int} (hn : n < 15) (hne : hs ≠ []) (hs' : s ∈ izs n) : ((izs n).map fun t => rt n hs s t - t).Perm ((izs n).map (wt n hs)) := by
  obtain ⟨h0, h1⟩ := izs_mem.mp hs'
  have p := List.isPerm_iff.mp (shift_perm n (List.mem_range.mpr hn) s.toNat (List.mem_range.mpr (by omega)))
  have e : ((s.toNat : Nat) : Int) = s := by omega
  rw [e] at p
  have e2 : ((izs n).map fun t => rt n hs s t - t) = ((izs n).map fun t => (s - t) % (n : Int)).map (wt n hs) := by
    rw [List.map_map]
    exact List.map_congr_left fun t _ => rt_wt hne
  rw [e2]
  exact p.map _
theorem found_mem {n : Nat} {hs : List Int} {x : Int} (hn : n < 15) (hn0 : 0 < n) (hne : hs ≠ []) : x ∈ found n hs ↔ x ∈ (izs n).map (wt n hs) := by
  unfold found
  rw [List.mem_flatMap]
  constructor
  · rintro ⟨s, h1, h2⟩
    exact (found_row hn hne h1).mem_iff.mp h2
  · intro h
    have h0 : (0 : Int) ∈ izs n := izs_mem.mpr (by omega)
    exact ⟨0, h0, (found_row hn hne h0).mem_iff.mpr h⟩
theorem found_count {n : Nat} {hs : List Int} (hn : n < 15) (hne : hs ≠ []) : (found n hs).count 0 = n * ((izs n).map (wt n hs)).count 0 := by
  unfold found
  rw [List.count_flatMap, sum_const (c := ((izs n).map (wt n hs)).count 0)]
  · simp [izs]
  · intro x hx
    obtain ⟨s, h1, rfl⟩ := List.mem_map.mp hx
    exact (found_row hn hne h1).count_eq 0
/-- what is asked of each drum -/
def core14 (n : Nat) (hs : List Int) : Bool :=
  decide (maxI ((izs n).map (wt n hs)) = some (lw n hs)) && decide (minI ((izs n).map (wt n hs)) = some 0) && decide (((izs n).map (wt n hs)).count 0 = hs.length) && ((lw n hs == (n : Int) - 1) == (hs.length == 1)) &&
  ((izs n).all fun by_ => decide (lw n (isrt (hs.map fun h => h + by_ - n * (if n ≤ h + by_ then 1 else 0))) = lw n hs)) && (decide (3 ≤ hs.length) || (izs n).all fun h => decide (h ∈ hs) || decide (lw n (isrt (hs ++ [h])) ≤ lw n hs)) && decide (lw n [0, (n : Int) - 1] = n - 2)
end Zc
end
section
set_option Elab.async false
set_option linter.all false
set_option maxRecDepth 100000
set_option autoImplicit false
set_option maxHeartbeats 1000000
namespace Zc
open PySem Z
/-! ### where a drum's spots stand -/
def under (n : Int) (hs : List Int) (s t : Int) : Bool := hs.any fun h => (t + h) % n == s
theorem under_iff {n : Int} {hs : List Int} {s t : Int} : under n hs s t = true ↔ ∃ h ∈ hs, (t + h) % n = s := by
  unfold under
  rw [List.any_eq_true]
  simp only [beq_iff_eq]
theorem emod_self_le {a n : Int} (ha : 0 ≤ a) (hn : 0 < n) : a % n ≤ a := by
  have h1 := Int.emod_def a n
  have h2 := Int.ediv_nonneg ha (Int.le_of_lt hn)
  have h3 := Int.mul_nonneg (Int.le_of_lt hn) h2
  omega
theorem rt_mem {n : Int} {hs : List Int} {s t : Int} (hne : hs ≠ []) : ∃ h ∈ hs, rt n hs s t = t + (s - h - t) % n := by
  obtain ⟨h1, _⟩ := minI_iff (rt_eq (n := n) (spot := s) (t := t) hne)
  obtain ⟨h, hh, e⟩ := List.mem_map.mp h1
  exact ⟨h, hh, e.symm⟩
theorem rt_le {n : Int} {hs : List Int} {s t h : Int} (hh : h ∈ hs) : rt n hs s t ≤ t + (s - h - t) % n :=
  (minI_iff (rt_eq (n := n) (spot := s) (t := t) (List.ne_nil_of_mem hh))).2 _ (List.mem_map.mpr ⟨h, hh, rfl⟩)
theorem rt_bounds {n : Int} {hs : List Int} {s t : Int} (hn : 0 < n) (hne : hs ≠ []) : t ≤ rt n hs s t ∧ rt n hs s t < t + n := by
  obtain ⟨h, _, e⟩ := rt_mem (n := n) (s := s) (t := t) hne
  have := mod_le (a := s - h - t) hn
  omega
theorem rt_under {n : Int} {hs : List Int} {s t : Int} (hs0 : 0 ≤ s) (hs1 : s < n) (hne : hs ≠ []) : under n hs s (rt n hs s t) = true := by
  obtain ⟨h, hh, e⟩ := rt_mem (n := n) (s := s) (t := t) hne
  refine under_iff.mpr ⟨h, hh, ?_⟩
  rw [e]
  have e2 : t + (s - h - t) % n + h = (t + h) + (s - h - t) % n := by omega
  rw [e2, Int.add_emod_emod]
  have e3 : t + h + (s - h - t) = s := by omega
  rw [e3]
  exact Int.emod_eq_of_lt hs0 hs1
theorem rt_first {n : Int} {hs : List Int} {s t u : Int} (hn : 0 < n) (h1 : t ≤ u) (h2 : u < rt n hs s t) : under n hs s u = false := by
  cases q : under n hs s u with
  | false => rfl
  | true =>
    obtain ⟨h, hh, e⟩ := under_iff.mp q
    have a := rt_le (n := n) (s := s) (t := t) hh
    have e2 : (s - h - t) % n = (u - t) % n := by
      rw [← e]
      have e3 : (u + h) % n - h - t = (u + h) % n - (h + t) := by omega
      rw [e3, Int.emod_sub_emod]
      congr 1
      omega
    have b := emod_self_le (a := u - t) (by omega) hn
    omega
theorem spots_under_ok {n : Int} {hs : List Int} {t : Int} {S : Sto} (hn : 0 < n) (hl : hs.length ≤ 1000) :
    F_spots_under [.d (dDrum n hs), .d (.int t)] S = .val (.d (.tuple ((hs.map fun h => (t + h) % n).map .int))) S := by
  refine OkE.val (ok_def rfl ?_)
  unfold z_spots_under
  simp (disch := omega) only [wipeZ, forget, okE_val, okE_exc, okE_bind, okS_st, okS_seq, okS_nx, okS_rt, okS_bk, okS_ct, okS_ex, okE_ofOpt, zseq, zdrop, zapp, zset, zsetF, zifS, ztru, ztst, zop, zcb, zcf, zacons, zanil, zc, zv, znil, zret, zcall, zfz, znew, zneg, zos, zon, zsl, zslF, ztup, zlst, zand, zor, znot, zif, zpar, zpar3, zasg, gN, gT2, gT3, zdnew, zdput, zmt1, zcnt1, zandV, zorV, znotV, zchain, zfrz, zbrk, zcnt, zopF, zpop0, zlput, zdget, zdin, zdnin, zdget2, zisi, ziA, ziQ, itemsQ, ziL, ziT, itemsL, itemsT, rng1_ok, rng2_ok, izs_len, izr_len, zipOf, enumOf, ofOpt, bind_val, bind_exc, st_val, st_exc, seq_nx, seq_rt, seq_ex, seq_bk, seq_ct, List.map_cons, List.map_nil, List.cons_append, List.nil_append, List.replicate, List.length_cons, List.length_nil, List.length_append, List.length_map, List.length_set, List.getElem?_cons_zero, List.getElem?_cons_succ, List.getElem?_nil, List.set_cons_zero, List.set_cons_succ, lstAt, res, resD, truS, truth, app2, on1, on2, lstOnly, lenS, allD_nil, allD_cons, Option.map_some, Option.map_none, Option.bind_some, Option.bind_none, dAdd, dSub, dMul_ok, dMod_ok, dDiv_ok, dLt, dLe, dGt, dGe, dEq_i, dEq_s, dEq_b, dNe_i, dNe_s, dNe_b, dEq_ti, dNe_ti, dEq_li, dNe_li, dIs, dIsNot, nonD, dIn, dNotIn, dIx, atI_0, atI_1, atI_2, dTup, dInt, dMin, dMax, dSum, dAll, dAny, intsOf_map, bolsOf_map, intsOf_nil, intsOf_cons, dMin2, dMax2, dAbs, keySl, Z.keyOf, putS, lim, retN_d, getLast0, setLast0, takeLast0, takeLast1, List.take_succ_cons, List.take_zero, List.take_length, List.take_nil, decide_eq_true_eq, beq_iff_eq, if_true, if_false, Bool.not_true, Bool.not_false, Bool.not_eq_true', Bool.false_eq_true, Bool.true_eq_false, reduceIte, if_pos, if_neg, Nat.add_eq, List.isEmpty_cons, List.isEmpty_nil, Option.some.injEq, decide_true, decide_false, decide_eq_true, decide_eq_false, beq_self_eq_true, BEq.rfl, beq_eq_false_iff_ne, Nat.zero_add, Nat.reduceAdd, Int.toNat_natCast, Bool.not_eq_true, decide_eq_false_iff_not, bne_iff_ne, ne_eq, not_true_eq_false, not_false_eq_true]
  refine ok_zlc hs (fun h => (t + h) % n) (by simp (disch := omega) only [wipeZ, forget, okE_val, okE_exc, okE_bind, okS_st, okS_seq, okS_nx, okS_rt, okS_bk, okS_ct, okS_ex, okE_ofOpt, zseq, zdrop, zapp, zset, zsetF, zifS, ztru, ztst, zop, zcb, zcf, zacons, zanil, zc, zv, znil, zret, zcall, zfz, znew, zneg, zos, zon, zsl, zslF, ztup, zlst, zand, zor, znot, zif, zpar, zpar3, zasg, gN, gT2, gT3, zdnew, zdput, zmt1, zcnt1, zandV, zorV, znotV, zchain, zfrz, zbrk, zcnt, zopF, zpop0, zlput, zdget, zdin, zdnin, zdget2, zisi, ziA, ziQ, itemsQ, ziL, ziT, itemsL, itemsT, rng1_ok, rng2_ok, izs_len, izr_len, zipOf, enumOf, ofOpt, bind_val, bind_exc, st_val, st_exc, seq_nx, seq_rt, seq_ex, seq_bk, seq_ct, List.map_cons, List.map_nil, List.cons_append, List.nil_append, List.replicate, List.length_cons, List.length_nil, List.length_append, List.length_map, List.length_set, List.getElem?_cons_zero, List.getElem?_cons_succ, List.getElem?_nil, List.set_cons_zero, List.set_cons_succ, lstAt, res, resD, truS, truth, app2, on1, on2, lstOnly, lenS, allD_nil, allD_cons, Option.map_some, Option.map_none, Option.bind_some, Option.bind_none, dAdd, dSub, dMul_ok, dMod_ok, dDiv_ok, dLt, dLe, dGt, dGe, dEq_i, dEq_s, dEq_b, dNe_i, dNe_s, dNe_b, dEq_ti, dNe_ti, dEq_li, dNe_li, dIs, dIsNot, nonD, dIn, dNotIn, dIx, atI_0, atI_1, atI_2, dTup, dInt, dMin, dMax, dSum, dAll, dAny, intsOf_map, bolsOf_map, intsOf_nil, intsOf_cons, dMin2, dMax2, dAbs, keySl, Z.keyOf, putS, lim, retN_d, getLast0, setLast0, takeLast0, takeLast1, List.take_succ_cons, List.take_zero, List.take_length, List.take_nil, decide_eq_true_eq, beq_iff_eq, if_true, if_false, Bool.not_true, Bool.not_false, Bool.not_eq_true', Bool.false_eq_true, Bool.true_eq_false, reduceIte, if_pos, if_neg, Nat.add_eq, List.isEmpty_cons, List.isEmpty_nil, Option.some.injEq, decide_true, decide_false, decide_eq_true, decide_eq_false, beq_self_eq_true, BEq.rfl, beq_eq_false_iff_ne, Nat.zero_add, Nat.reduceAdd, Int.toNat_natCast, Bool.not_eq_true, decide_eq_false_iff_not, bne_iff_ne, ne_eq, not_true_eq_false, not_false_eq_true]) (by omega) (fun x hx => by simp (disch := omega) only [wipeZ, forget, okE_val, okE_exc, okE_bind, okS_st, okS_seq, okS_nx, okS_rt, okS_bk, okS_ct, okS_ex, okE_ofOpt, zseq, zdrop, zapp, zset, zsetF, zifS, ztru, ztst, zop, zcb, zcf, zacons, zanil, zc, zv, znil, zret, zcall, zfz, znew, zneg, zos, zon, zsl, zslF, ztup, zlst, zand, zor, znot, zif, zpar, zpar3, zasg, gN, gT2, gT3, zdnew, zdput, zmt1, zcnt1, zandV, zorV, znotV, zchain, zfrz, zbrk, zcnt, zopF, zpop0, zlput, zdget, zdin, zdnin, zdget2, zisi, ziA, ziQ, itemsQ, ziL, ziT, itemsL, itemsT, rng1_ok, rng2_ok, izs_len, izr_len, zipOf, enumOf, ofOpt, bind_val, bind_exc, st_val, st_exc, seq_nx, seq_rt, seq_ex, seq_bk, seq_ct, List.map_cons, List.map_nil, List.cons_append, List.nil_append, List.replicate, List.length_cons, List.length_nil, List.length_append, List.length_map, List.length_set, List.getElem?_cons_zero, List.getElem?_cons_succ, List.getElem?_nil, List.set_cons_zero, List.set_cons_succ, lstAt, res, resD, truS, truth, app2, on1, on2, lstOnly, lenS, allD_nil, allD_cons, Option.map_some, Option.map_none, Option.bind_some, Option.bind_none, dAdd, dSub, dMul_ok, dMod_ok, dDiv_ok, dLt, dLe, dGt, dGe, dEq_i, dEq_s, dEq_b, dNe_i, dNe_s, dNe_b, dEq_ti, dNe_ti, dEq_li, dNe_li, dIs, dIsNot, nonD, dIn, dNotIn, dIx, atI_0, atI_1, atI_2, dTup, dInt, dMin, dMax, dSum, dAll, dAny, intsOf_map, bolsOf_map, intsOf_nil, intsOf_cons, dMin2, dMax2, dAbs, keySl, Z.keyOf, putS, lim, retN_d, getLast0, setLast0, takeLast0, takeLast1, List.take_succ_cons, List.take_zero, List.take_length, List.take_nil, decide_eq_true_eq, beq_iff_eq, if_true, if_false, Bool.not_true, Bool.not_false, Bool.not_eq_true', Bool.false_eq_true, Bool.true_eq_false, reduceIte, if_pos, if_neg, Nat.add_eq, List.isEmpty_cons, List.isEmpty_nil, Option.some.injEq, decide_true, decide_false, decide_eq_true, decide_eq_false, beq_self_eq_true, BEq.rfl, beq_eq_false_iff_ne, Nat.zero_add, Nat.reduceAdd, Int.toNat_natCast, Bool.not_eq_true, decide_eq_false_iff_not, bne_iff_ne, ne_eq, not_true_eq_false, not_false_eq_true]) ?_
  simp (disch := omega) only [wipeZ, forget, okE_val, okE_exc, okE_bind, okS_st, okS_seq, okS_nx, okS_rt, okS_bk, okS_ct, okS_ex, okE_ofOpt, zseq, zdrop, zapp, zset, zsetF, zifS, ztru, ztst, zop, zcb, zcf, zacons, zanil, zc, zv, znil, zret, zcall, zfz, znew, zneg, zos, zon, zsl, zslF, ztup, zlst, zand, zor, znot, zif, zpar, zpar3, zasg, gN, gT2, gT3, zdnew, zdput, zmt1, zcnt1, zandV, zorV, znotV, zchain, zfrz, zbrk, zcnt, zopF, zpop0, zlput, zdget, zdin, zdnin, zdget2, zisi, ziA, ziQ, itemsQ, ziL, ziT, itemsL, itemsT, rng1_ok, rng2_ok, izs_len, izr_len, zipOf, enumOf, ofOpt, bind_val, bind_exc, st_val, st_exc, seq_nx, seq_rt, seq_ex, seq_bk, seq_ct, List.map_cons, List.map_nil, List.cons_append, List.nil_append, List.replicate, List.length_cons, List.length_nil, List.length_append, List.length_map, List.length_set, List.getElem?_cons_zero, List.getElem?_cons_succ, List.getElem?_nil, List.set_cons_zero, List.set_cons_succ, lstAt, res, resD, truS, truth, app2, on1, on2, lstOnly, lenS, allD_nil, allD_cons, Option.map_some, Option.map_none, Option.bind_some, Option.bind_none, dAdd, dSub, dMul_ok, dMod_ok, dDiv_ok, dLt, dLe, dGt, dGe, dEq_i, dEq_s, dEq_b, dNe_i, dNe_s, dNe_b, dEq_ti, dNe_ti, dEq_li, dNe_li, dIs, dIsNot, nonD, dIn, dNotIn, dIx, atI_0, atI_1, atI_2, dTup, dInt, dMin, dMax, dSum, dAll, dAny, intsOf_map, bolsOf_map, intsOf_nil, intsOf_cons, dMin2, dMax2, dAbs, keySl, Z.keyOf, putS, lim, retN_d, getLast0, setLast0, takeLast0, takeLast1, List.take_succ_cons, List.take_zero, List.take_length, List.take_nil, decide_eq_true_eq, beq_iff_eq, if_true, if_false, Bool.not_true, Bool.not_false, Bool.not_eq_true', Bool.false_eq_true, Bool.true_eq_false, reduceIte, if_pos, if_neg, Nat.add_eq, List.isEmpty_cons, List.isEmpty_nil, Option.some.injEq, decide_true, decide_false, decide_eq_true, decide_eq_false, beq_self_eq_true, BEq.rfl, beq_eq_false_iff_ne, Nat.zero_add, Nat.reduceAdd, Int.toNat_natCast, Bool.not_eq_true, decide_eq_false_iff_not, bne_iff_ne, ne_eq, not_true_eq_false, not_false_eq_true, and_self]
def times (n : Int) (hs : List Int) (s a b : Int) : List Int := (izr a (b - a).toNat).filter (under n hs s)
theorem izr_add {a : Int} {m k : Nat} : izr a (m + k) = izr a m ++ izr (a + m) k := by
  unfold izr
  rw [List.range_add, List.map_append, List.map_map]
  congr 1
  refine List.map_congr_left fun i _ => ?_
  show a + ((m + i : Nat) : Int) = a + m + i
  omega
theorem izr_one {a : Int} : izr a 1 = [a] := by simp [izr]
theorem times_app {n : Int} {hs : List Int} {s a b c : Int} (h1 : a ≤ b) (h2 : b ≤ c) : times n hs s a b ++ times n hs s b c = times n hs s a c := by
  unfold times
  have e : (c - a).toNat = (b - a).toNat + (c - b).toNat := by omega
  have e2 : a + ((b - a).toNat : Int) = b := by omega
  rw [e, izr_add, List.filter_append, e2]
theorem times_none {n : Int} {hs : List Int} {s a b : Int} (h : ∀ u, a ≤ u → u < b → under n hs s u = false) : times n hs s a b = [] := by
  unfold times
  rw [List.filter_eq_nil_iff]
  intro u hu
  have := izr_mem.mp hu
  rw [h u (by omega) (by omega)]
  simp
theorem times_next {n : Int} {hs : List Int} {s a u : Int} (hn : 0 < n) (hs0 : 0 ≤ s) (hs1 : s < n) (hne : hs ≠ []) (hu : a ≤ u) : times n hs s a (rt n hs s u + 1) = times n hs s a u ++ [rt n hs s u] := by
  have b := rt_bounds (s := s) (t := u) hn hne
  rw [← times_app (b := u) (by omega) (by omega), ← times_app (a := u) (b := rt n hs s u) (by omega) (by omega), times_none (b := rt n hs s u) fun x h1 h2 => rt_first hn h1 h2]
  congr 1
  unfold times
  have e : (rt n hs s u + 1 - rt n hs s u).toNat = 1 := by omega
  rw [e, izr_one, List.filter_cons_of_pos (rt_under hs0 hs1 hne)]
  rfl
theorem times_len_le {n : Int} {hs : List Int} {s a b : Int} : (times n hs s a b).length ≤ (b - a).toNat := by
  unfold times
  exact Nat.le_trans (List.length_filter_le _ _) (by rw [izr_len]; exact Nat.le_refl _)
theorem times_of_ok {n : Int} {hs : List Int} {s a b : Int} {S : Sto} (hn : 0 < n) (hs0 : 0 ≤ s) (hs1 : s < n) (hne : hs ≠ []) (hl : hs.length ≤ 1000) (hab : b - a < 90000) :
    F_times_of [.d (dDrum n hs), .d (.int s), .d (.int a), .d (.int b)] S = .val (.d (.tuple ((times n hs s a b).map .int))) S := by
  refine OkE.val (ok_def rfl ?_)
  unfold z_times_of
  refine ok_seq ?_
  simp (disch := omega) only [wipeZ, forget, okE_val, okE_exc, okE_bind, okS_st, okS_seq, okS_nx, okS_rt, okS_bk, okS_ct, okS_ex, okE_ofOpt, zdrop, zapp, zset, zsetF, zifS, ztru, ztst, zop, zcb, zcf, zacons, zanil, zc, zv, znil, zret, zcall, zfz, znew, zneg, zos, zon, zsl, zslF, ztup, zlst, zand, zor, znot, zif, zpar, zpar3, zasg, gN, gT2, gT3, zdnew, zdput, zmt1, zcnt1, zandV, zorV, znotV, zchain, zfrz, zbrk, zcnt, zopF, zpop0, zlput, zdget, zdin, zdnin, zdget2, zisi, ziA, ziQ, itemsQ, ziL, ziT, itemsL, itemsT, rng1_ok, rng2_ok, izs_len, izr_len, zipOf, enumOf, ofOpt, bind_val, bind_exc, st_val, st_exc, seq_nx, seq_rt, seq_ex, seq_bk, seq_ct, List.map_cons, List.map_nil, List.cons_append, List.nil_append, List.replicate, List.length_cons, List.length_nil, List.length_append, List.length_map, List.length_set, List.getElem?_cons_zero, List.getElem?_cons_succ, List.getElem?_nil, List.set_cons_zero, List.set_cons_succ, lstAt, res, resD, truS, truth, app2, on1, on2, lstOnly, lenS, allD_nil, allD_cons, Option.map_some, Option.map_none, Option.bind_some, Option.bind_none, dAdd, dSub, dMul_ok, dMod_ok, dDiv_ok, dLt, dLe, dGt, dGe, dEq_i, dEq_s, dEq_b, dNe_i, dNe_s, dNe_b, dEq_ti, dNe_ti, dEq_li, dNe_li, dIs, dIsNot, nonD, dIn, dNotIn, dIx, atI_0, atI_1, atI_2, dTup, dInt, dMin, dMax, dSum, dAll, dAny, intsOf_map, bolsOf_map, intsOf_nil, intsOf_cons, dMin2, dMax2, dAbs, keySl, Z.keyOf, putS, lim, retN_d, getLast0, setLast0, takeLast0, takeLast1, List.take_succ_cons, List.take_zero, List.take_length, List.take_nil, decide_eq_true_eq, beq_iff_eq, if_true, if_false, Bool.not_true, Bool.not_false, Bool.not_eq_true', Bool.false_eq_true, Bool.true_eq_false, reduceIte, if_pos, if_neg, Nat.add_eq, List.isEmpty_cons, List.isEmpty_nil, Option.some.injEq, decide_true, decide_false, decide_eq_true, decide_eq_false, beq_self_eq_true, BEq.rfl, beq_eq_false_iff_ne, Nat.zero_add, Nat.reduceAdd, Int.toNat_natCast, Bool.not_eq_true, decide_eq_false_iff_not, bne_iff_ne, ne_eq, not_true_eq_false, not_false_eq_true]
  refine ok_seq ?_
  simp (disch := omega) only [wipeZ, forget, okE_val, okE_exc, okE_bind, okS_st, okS_seq, okS_nx, okS_rt, okS_bk, okS_ct, okS_ex, okE_ofOpt, zdrop, zapp, zset, zsetF, zifS, ztru, ztst, zop, zcb, zcf, zacons, zanil, zc, zv, znil, zret, zcall, zfz, znew, zneg, zos, zon, zsl, zslF, ztup, zlst, zand, zor, znot, zif, zpar, zpar3, zasg, gN, gT2, gT3, zdnew, zdput, zmt1, zcnt1, zandV, zorV, znotV, zchain, zfrz, zbrk, zcnt, zopF, zpop0, zlput, zdget, zdin, zdnin, zdget2, zisi, ziA, ziQ, itemsQ, ziL, ziT, itemsL, itemsT, rng1_ok, rng2_ok, izs_len, izr_len, zipOf, enumOf, ofOpt, bind_val, bind_exc, st_val, st_exc, seq_nx, seq_rt, seq_ex, seq_bk, seq_ct, List.map_cons, List.map_nil, List.cons_append, List.nil_append, List.replicate, List.length_cons, List.length_nil, List.length_append, List.length_map, List.length_set, List.getElem?_cons_zero, List.getElem?_cons_succ, List.getElem?_nil, List.set_cons_zero, List.set_cons_succ, lstAt, res, resD, truS, truth, app2, on1, on2, lstOnly, lenS, allD_nil, allD_cons, Option.map_some, Option.map_none, Option.bind_some, Option.bind_none, dAdd, dSub, dMul_ok, dMod_ok, dDiv_ok, dLt, dLe, dGt, dGe, dEq_i, dEq_s, dEq_b, dNe_i, dNe_s, dNe_b, dEq_ti, dNe_ti, dEq_li, dNe_li, dIs, dIsNot, nonD, dIn, dNotIn, dIx, atI_0, atI_1, atI_2, dTup, dInt, dMin, dMax, dSum, dAll, dAny, intsOf_map, bolsOf_map, intsOf_nil, intsOf_cons, dMin2, dMax2, dAbs, keySl, Z.keyOf, putS, lim, retN_d, getLast0, setLast0, takeLast0, takeLast1, List.take_succ_cons, List.take_zero, List.take_length, List.take_nil, decide_eq_true_eq, beq_iff_eq, if_true, if_false, Bool.not_true, Bool.not_false, Bool.not_eq_true', Bool.false_eq_true, Bool.true_eq_false, reduceIte, if_pos, if_neg, Nat.add_eq, List.isEmpty_cons, List.isEmpty_nil, Option.some.injEq, decide_true, decide_false, decide_eq_true, decide_eq_false, beq_self_eq_true, BEq.rfl, beq_eq_false_iff_ne, Nat.zero_add, Nat.reduceAdd, Int.toNat_natCast, Bool.not_eq_true, decide_eq_false_iff_not, bne_iff_ne, ne_eq, not_true_eq_false, not_false_eq_true, read_time_ok hn hne (show hs.length ≤ 1000000 by omega)]
  refine ok_seq ?_
  simp (disch := omega) only [wipeZ, forget, okE_val, okE_exc, okE_bind, okS_st, okS_seq, okS_nx, okS_rt, okS_bk, okS_ct, okS_ex, okE_ofOpt, zdrop, zapp, zset, zsetF, zifS, ztru, ztst, zop, zcb, zcf, zacons, zanil, zc, zv, znil, zret, zcall, zfz, znew, zneg, zos, zon, zsl, zslF, ztup, zlst, zand, zor, znot, zif, zpar, zpar3, zasg, gN, gT2, gT3, zdnew, zdput, zmt1, zcnt1, zandV, zorV, znotV, zchain, zfrz, zbrk, zcnt, zopF, zpop0, zlput, zdget, zdin, zdnin, zdget2, zisi, ziA, ziQ, itemsQ, ziL, ziT, itemsL, itemsT, rng1_ok, rng2_ok, izs_len, izr_len, zipOf, enumOf, ofOpt, bind_val, bind_exc, st_val, st_exc, seq_nx, seq_rt, seq_ex, seq_bk, seq_ct, List.map_cons, List.map_nil, List.cons_append, List.nil_append, List.replicate, List.length_cons, List.length_nil, List.length_append, List.length_map, List.length_set, List.getElem?_cons_zero, List.getElem?_cons_succ, List.getElem?_nil, List.set_cons_zero, List.set_cons_succ, lstAt, res, resD, truS, truth, app2, on1, on2, lstOnly, lenS, allD_nil, allD_cons, Option.map_some, Option.map_none, Option.bind_some, Option.bind_none, dAdd, dSub, dMul_ok, dMod_ok, dDiv_ok, dLt, dLe, dGt, dGe, dEq_i, dEq_s, dEq_b, dNe_i, dNe_s, dNe_b, dEq_ti, dNe_ti, dEq_li, dNe_li, dIs, dIsNot, nonD, dIn, dNotIn, dIx, atI_0, atI_1, atI_2, dTup, dInt, dMin, dMax, dSum, dAll, dAny, intsOf_map, bolsOf_map, intsOf_nil, intsOf_cons, dMin2, dMax2, dAbs, keySl, Z.keyOf, putS, lim, retN_d, getLast0, setLast0, takeLast0, takeLast1, List.take_succ_cons, List.take_zero, List.take_length, List.take_nil, decide_eq_true_eq, beq_iff_eq, if_true, if_false, Bool.not_true, Bool.not_false, Bool.not_eq_true', Bool.false_eq_true, Bool.true_eq_false, reduceIte, if_pos, if_neg, Nat.add_eq, List.isEmpty_cons, List.isEmpty_nil, Option.some.injEq, decide_true, decide_false, decide_eq_true, decide_eq_false, beq_self_eq_true, BEq.rfl, beq_eq_false_iff_ne, Nat.zero_add, Nat.reduceAdd, Int.toNat_natCast, Bool.not_eq_true, decide_eq_false_iff_not, bne_iff_ne, ne_eq, not_true_eq_false, not_false_eq_true, zwhile]
  refine ok_while (fun m Γ S1 => ∃ u, a ≤ u ∧ (u ≤ b ∨ u = a) ∧ m = (b - u).toNat ∧ Γ = [some (.d (dDrum n hs)), some (.d (.int s)), some (.d (.int a)), some (.d (.int b)), some (.box S.length), some (.d (.int (rt n hs s u)))] ∧ S1 = S ++ [.lst ((times n hs s a u).map .int)]) ?_ _ (b - a).toNat _ _ ?_ ?_
  · rintro m Γ S1 ⟨u, h1, h2, rfl, rfl, rfl⟩
    have bd := rt_bounds (s := s) (t := u) hn hne
    rcases Int.lt_or_le (rt n hs s u) b with q | q
    · have tl := times_len_le (n := n) (hs := hs) (s := s) (a := a) (b := u)
      unfold b1_times_of
      simp (disch := omega) only [wipeZ, forget, okE_val, okE_exc, okE_bind, okS_st, okS_seq, okS_nx, okS_rt, okS_bk, okS_ct, okS_ex, okE_ofOpt, zseq, zdrop, zapp, zset, zsetF, zifS, ztru, ztst, zop, zcb, zcf, zacons, zanil, zc, zv, znil, zret, zcall, zfz, znew, zneg, zos, zon, zsl, zslF, ztup, zlst, zand, zor, znot, zif, zpar, zpar3, zasg, gN, gT2, gT3, zdnew, zdput, zmt1, zcnt1, zandV, zorV, znotV, zchain, zfrz, zbrk, zcnt, zopF, zpop0, zlput, zdget, zdin, zdnin, zdget2, zisi, ziA, ziQ, itemsQ, ziL, ziT, itemsL, itemsT, rng1_ok, rng2_ok, izs_len, izr_len, zipOf, enumOf, ofOpt, bind_val, bind_exc, st_val, st_exc, seq_nx, seq_rt, seq_ex, seq_bk, seq_ct, List.map_cons, List.map_nil, List.cons_append, List.nil_append, List.replicate, List.length_cons, List.length_nil, List.length_append, List.length_map, List.length_set, List.getElem?_cons_zero, List.getElem?_cons_succ, List.getElem?_nil, List.set_cons_zero, List.set_cons_succ, lstAt, res, resD, truS, truth, app2, on1, on2, lstOnly, lenS, allD_nil, allD_cons, Option.map_some, Option.map_none, Option.bind_some, Option.bind_none, dAdd, dSub, dMul_ok, dMod_ok, dDiv_ok, dLt, dLe, dGt, dGe, dEq_i, dEq_s, dEq_b, dNe_i, dNe_s, dNe_b, dEq_ti, dNe_ti, dEq_li, dNe_li, dIs, dIsNot, nonD, dIn, dNotIn, dIx, atI_0, atI_1, atI_2, dTup, dInt, dMin, dMax, dSum, dAll, dAny, intsOf_map, bolsOf_map, intsOf_nil, intsOf_cons, dMin2, dMax2, dAbs, keySl, Z.keyOf, putS, lim, retN_d, getLast0, setLast0, takeLast0, takeLast1, List.take_succ_cons, List.take_zero, List.take_length, List.take_nil, decide_eq_true_eq, beq_iff_eq, if_true, if_false, Bool.not_true, Bool.not_false, Bool.not_eq_true', Bool.false_eq_true, Bool.true_eq_false, reduceIte, if_pos, if_neg, Nat.add_eq, List.isEmpty_cons, List.isEmpty_nil, Option.some.injEq, decide_true, decide_false, decide_eq_true, decide_eq_false, beq_self_eq_true, BEq.rfl, beq_eq_false_iff_ne, Nat.zero_add, Nat.reduceAdd, Int.toNat_natCast, Bool.not_eq_true, decide_eq_false_iff_not, bne_iff_ne, ne_eq, not_true_eq_false, not_false_eq_true, q, read_time_ok hn hne (show hs.length ≤ 1000000 by omega), List.length_map]
      refine ⟨(b - (rt n hs s u + 1)).toNat, by omega, rt n hs s u + 1, by omega, by omega, rfl, rfl, ?_⟩
      rw [times_next hn hs0 hs1 hne h1]
      simp
    · have e : times n hs s a b = times n hs s a u := by
        rcases h2 with z | z
        · rw [← times_app h1 z, times_none (a := u) fun x h1 h2 => rt_first hn h1 (by omega)]
          simp
        · subst z
          rw [times_none (a := u) fun x h1 h2 => rt_first hn h1 (by omega), times_none fun x h1 h2 => by omega]
      rw [e]
      simp (disch := omega) only [wipeZ, forget, okE_val, okE_exc, okE_bind, okS_st, okS_seq, okS_nx, okS_rt, okS_bk, okS_ct, okS_ex, okE_ofOpt, zseq, zdrop, zapp, zset, zsetF, zifS, ztru, ztst, zop, zcb, zcf, zacons, zanil, zc, zv, znil, zret, zcall, zfz, znew, zneg, zos, zon, zsl, zslF, ztup, zlst, zand, zor, znot, zif, zpar, zpar3, zasg, gN, gT2, gT3, zdnew, zdput, zmt1, zcnt1, zandV, zorV, znotV, zchain, zfrz, zbrk, zcnt, zopF, zpop0, zlput, zdget, zdin, zdnin, zdget2, zisi, ziA, ziQ, itemsQ, ziL, ziT, itemsL, itemsT, rng1_ok, rng2_ok, izs_len, izr_len, zipOf, enumOf, ofOpt, bind_val, bind_exc, st_val, st_exc, seq_nx, seq_rt, seq_ex, seq_bk, seq_ct, List.map_cons, List.map_nil, List.cons_append, List.nil_append, List.replicate, List.length_cons, List.length_nil, List.length_append, List.length_map, List.length_set, List.getElem?_cons_zero, List.getElem?_cons_succ, List.getElem?_nil, List.set_cons_zero, List.set_cons_succ, lstAt, res, resD, truS, truth, app2, on1, on2, lstOnly, lenS, allD_nil, allD_cons, Option.map_some, Option.map_none, Option.bind_some, Option.bind_none, dAdd, dSub, dMul_ok, dMod_ok, dDiv_ok, dLt, dLe, dGt, dGe, dEq_i, dEq_s, dEq_b, dNe_i, dNe_s, dNe_b, dEq_ti, dNe_ti, dEq_li, dNe_li, dIs, dIsNot, nonD, dIn, dNotIn, dIx, atI_0, atI_1, atI_2, dTup, dInt, dMin, dMax, dSum, dAll, dAny, intsOf_map, bolsOf_map, intsOf_nil, intsOf_cons, dMin2, dMax2, dAbs, keySl, Z.keyOf, putS, lim, retN_d, getLast0, setLast0, takeLast0, takeLast1, List.take_succ_cons, List.take_zero, List.take_length, List.take_nil, decide_eq_true_eq, beq_iff_eq, if_true, if_false, Bool.not_true, Bool.not_false, Bool.not_eq_true', Bool.false_eq_true, Bool.true_eq_false, reduceIte, if_pos, if_neg, Nat.add_eq, List.isEmpty_cons, List.isEmpty_nil, Option.some.injEq, decide_true, decide_false, decide_eq_true, decide_eq_false, beq_self_eq_true, BEq.rfl, beq_eq_false_iff_ne, Nat.zero_add, Nat.reduceAdd, Int.toNat_natCast, Bool.not_eq_true, decide_eq_false_iff_not, bne_iff_ne, ne_eq, not_true_eq_false, not_false_eq_true, show decide (rt n hs s u < b) = false from decide_eq_false (by omega)]
      exact ⟨trivial, by simp⟩
  · unfold fuel
    omega
  · refine ⟨a, Int.le_refl _, .inr rfl, rfl, rfl, ?_⟩
    rw [times_none fun x h1 h2 => by omega]
    rfl
/-! how many in a turn -/
theorem izr_nodup {a : Int} {k : Nat} : (izr a k).Nodup := by
  unfold izr
  refine List.pairwise_map.mpr (List.nodup_range.imp fun {x y} h => ?_)
  show a + (x : Int) ≠ a + (y : Int)
  omega
theorem emod_inj {n x y : Int} (h1 : 0 ≤ x ∧ x < n) (h2 : 0 ≤ y ∧ y < n) {c : Int} (h : (c - x) % n = (c - y) % n) : x = y := by
  have hn : 0 < n := by omega
  have e := Int.emod_eq_emod_iff_emod_sub_eq_zero.mp h
  have e2 : c - x - (c - y) = y - x := by omega
  rw [e2] at e
  have e3 : (y - x) % n = 0 := e
  obtain ⟨k, hk⟩ := Int.dvd_of_emod_eq_zero e3
  have : k = 0 := by
    rcases Int.lt_or_le k 0 with q | q
    · have := Int.mul_le_mul_of_nonneg_left (show k ≤ -1 by omega) (Int.le_of_lt hn)
      omega
    · rcases Int.lt_or_le 0 k with r | r
      · have := Int.mul_le_mul_of_nonneg_left (show 1 ≤ k by omega) (Int.le_of_lt hn)
        omega
      · omega
  subst this
  omega
theorem window_perm {n : Nat} {hs : List Int} {s a : Int} (hd : IsDrum n hs) (hs0 : 0 ≤ s) (hs1 : s < n) : (times n hs s a (a + n)).Perm (hs.map fun h => a + (s - h - a) % n) := by
  have hn : (0 : Int) < n := by omega
  have e : (a + (n : Int) - a).toNat = n := by omega
  unfold times
  rw [e]
  have nd1 : ((izr a n).filter (under n hs s)).Nodup := List.Pairwise.filter _ izr_nodup
  have nd2 : (hs.map fun h => a + (s - h - a) % (n : Int)).Nodup := by
    refine List.pairwise_map.mpr (List.Pairwise.imp_of_mem (fun {x y} hx hy h => ?_) hd.lt)
    intro z
    have e1 : s - x - a = (s - a) - x := by omega
    have e2 : s - y - a = (s - a) - y := by omega
    rw [e1, e2] at z
    have := emod_inj (c := s - a) (hd.rg x hx) (hd.rg y hy) (by omega)
    omega
  refine (List.perm_ext_iff_of_nodup nd1 nd2).mpr fun t => ?_
  rw [List.mem_filter, List.mem_map, under_iff, izr_mem]
  constructor
  · rintro ⟨⟨h1, h2⟩, h, hh, e⟩
    refine ⟨h, hh, ?_⟩
    rw [← e]
    have e3 : (t + h) % (n : Int) - h - a = (t + h) % n - (h + a) := by omega
    rw [e3, Int.emod_sub_emod]
    have e4 : t + h - (h + a) = t - a := by omega
    rw [e4, Int.emod_eq_of_lt (by omega) (by omega)]
    omega
  · rintro ⟨h, hh, rfl⟩
    have := mod_le (a := s - h - a) hn
    refine ⟨by omega, h, hh, ?_⟩
    have e2 : a + (s - h - a) % (n : Int) + h = (a + h) + (s - h - a) % n := by omega
    rw [e2, Int.add_emod_emod]
    have e3 : a + h + (s - h - a) = s := by omega
    rw [e3]
    exact Int.emod_eq_of_lt hs0 hs1
theorem times_turn {n : Nat} {hs : List Int} {s a : Int} (hd : IsDrum n hs) (hs0 : 0 ≤ s) (hs1 : s < n) : (times n hs s a (a + n)).length = hs.length := by
  rw [(window_perm hd hs0 hs1).length_eq, List.length_map]
theorem times_pw {n : Int} {hs : List Int} {s a b : Int} : (times n hs s a b).Pairwise (· < ·) := by
  unfold times izr
  refine List.Pairwise.filter _ (List.pairwise_map.mpr (List.pairwise_lt_range.imp fun {x y} h => ?_))
  show a + (x : Int) < a + (y : Int)
  omega
theorem times_srt {n : Int} {hs : List Int} {s a b : Int} : isort (times n hs s a b) = times n hs s a b :=
  (isort_uniq (.refl _) (times_pw.imp fun h => Int.le_of_lt h)).symm
/-! ### drums, asked for -/
theorem is_whole_ok {x lo hi : Int} {S : Sto} : F_is_whole [.d (.int x), .d (.int lo), .d (.int hi)] S = .val (.d (.bool (decide (lo ≤ x) && decide (x ≤ hi)))) S := by
  refine OkE.val (ok_def rfl ?_)
  unfold z_is_whole
  have e : isOf "int" "int" = true := by decide
  have e2 : isOf "bool" "int" = false := by decide
  by_cases q : lo ≤ x
  · simp (disch := omega) only [wipeZ, forget, okE_val, okE_exc, okE_bind, okS_st, okS_seq, okS_nx, okS_rt, okS_bk, okS_ct, okS_ex, okE_ofOpt, zseq, zdrop, zapp, zset, zsetF, zifS, ztru, ztst, zop, zcb, zcf, zacons, zanil, zc, zv, znil, zret, zcall, zfz, znew, zneg, zos, zon, zsl, zslF, ztup, zlst, zand, zor, znot, zif, zpar, zpar3, zasg, gN, gT2, gT3, zdnew, zdput, zmt1, zcnt1, zandV, zorV, znotV, zchain, zfrz, zbrk, zcnt, zopF, zpop0, zlput, zdget, zdin, zdnin, zdget2, zisi, ziA, ziQ, itemsQ, ziL, ziT, itemsL, itemsT, rng1_ok, rng2_ok, izs_len, izr_len, zipOf, enumOf, ofOpt, bind_val, bind_exc, st_val, st_exc, seq_nx, seq_rt, seq_ex, seq_bk, seq_ct, List.map_cons, List.map_nil, List.cons_append, List.nil_append, List.replicate, List.length_cons, List.length_nil, List.length_append, List.length_map, List.length_set, List.getElem?_cons_zero, List.getElem?_cons_succ, List.getElem?_nil, List.set_cons_zero, List.set_cons_succ, lstAt, res, resD, truS, truth, app2, on1, on2, lstOnly, lenS, allD_nil, allD_cons, Option.map_some, Option.map_none, Option.bind_some, Option.bind_none, dAdd, dSub, dMul_ok, dMod_ok, dDiv_ok, dLt, dLe, dGt, dGe, dEq_i, dEq_s, dEq_b, dNe_i, dNe_s, dNe_b, dEq_ti, dNe_ti, dEq_li, dNe_li, dIs, dIsNot, nonD, dIn, dNotIn, dIx, atI_0, atI_1, atI_2, dTup, dInt, dMin, dMax, dSum, dAll, dAny, intsOf_map, bolsOf_map, intsOf_nil, intsOf_cons, dMin2, dMax2, dAbs, keySl, Z.keyOf, putS, lim, retN_d, getLast0, setLast0, takeLast0, takeLast1, List.take_succ_cons, List.take_zero, List.take_length, List.take_nil, decide_eq_true_eq, beq_iff_eq, if_true, if_false, Bool.not_true, Bool.not_false, Bool.not_eq_true', Bool.false_eq_true, Bool.true_eq_false, reduceIte, if_pos, if_neg, Nat.add_eq, List.isEmpty_cons, List.isEmpty_nil, Option.some.injEq, decide_true, decide_false, decide_eq_true, decide_eq_false, beq_self_eq_true, BEq.rfl, beq_eq_false_iff_ne, Nat.zero_add, Nat.reduceAdd, Int.toNat_natCast, Bool.not_eq_true, decide_eq_false_iff_not, bne_iff_ne, ne_eq, not_true_eq_false, not_false_eq_true, tyN, e, e2, decide_eq_true q, Bool.true_and, and_self]
  · simp (disch := omega) only [wipeZ, forget, okE_val, okE_exc, okE_bind, okS_st, okS_seq, okS_nx, okS_rt, okS_bk, okS_ct, okS_ex, okE_ofOpt, zseq, zdrop, zapp, zset, zsetF, zifS, ztru, ztst, zop, zcb, zcf, zacons, zanil, zc, zv, znil, zret, zcall, zfz, znew, zneg, zos, zon, zsl, zslF, ztup, zlst, zand, zor, znot, zif, zpar, zpar3, zasg, gN, gT2, gT3, zdnew, zdput, zmt1, zcnt1, zandV, zorV, znotV, zchain, zfrz, zbrk, zcnt, zopF, zpop0, zlput, zdget, zdin, zdnin, zdget2, zisi, ziA, ziQ, itemsQ, ziL, ziT, itemsL, itemsT, rng1_ok, rng2_ok, izs_len, izr_len, zipOf, enumOf, ofOpt, bind_val, bind_exc, st_val, st_exc, seq_nx, seq_rt, seq_ex, seq_bk, seq_ct, List.map_cons, List.map_nil, List.cons_append, List.nil_append, List.replicate, List.length_cons, List.length_nil, List.length_append, List.length_map, List.length_set, List.getElem?_cons_zero, List.getElem?_cons_succ, List.getElem?_nil, List.set_cons_zero, List.set_cons_succ, lstAt, res, resD, truS, truth, app2, on1, on2, lstOnly, lenS, allD_nil, allD_cons, Option.map_some, Option.map_none, Option.bind_some, Option.bind_none, dAdd, dSub, dMul_ok, dMod_ok, dDiv_ok, dLt, dLe, dGt, dGe, dEq_i, dEq_s, dEq_b, dNe_i, dNe_s, dNe_b, dEq_ti, dNe_ti, dEq_li, dNe_li, dIs, dIsNot, nonD, dIn, dNotIn, dIx, atI_0, atI_1, atI_2, dTup, dInt, dMin, dMax, dSum, dAll, dAny, intsOf_map, bolsOf_map, intsOf_nil, intsOf_cons, dMin2, dMax2, dAbs, keySl, Z.keyOf, putS, lim, retN_d, getLast0, setLast0, takeLast0, takeLast1, List.take_succ_cons, List.take_zero, List.take_length, List.take_nil, decide_eq_true_eq, beq_iff_eq, if_true, if_false, Bool.not_true, Bool.not_false, Bool.not_eq_true', Bool.false_eq_true, Bool.true_eq_false, reduceIte, if_pos, if_neg, Nat.add_eq, List.isEmpty_cons, List.isEmpty_nil, Option.some.injEq, decide_true, decide_false, decide_eq_true, decide_eq_false, beq_self_eq_true, BEq.rfl, beq_eq_false_iff_ne, Nat.zero_add, Nat.reduceAdd, Int.toNat_natCast, Bool.not_eq_true, decide_eq_false_iff_not, bne_iff_ne, ne_eq, not_true_eq_false, not_false_eq_true, tyN, e, e2, decide_eq_false q, Bool.false_and, and_self]
theorem pw_zip {l : List Int} (h : l.Pairwise (· < ·)) : ∀ p ∈ l.dropLast.zip l.tail, p.1 < p.2 := by
  induction l with
  | nil => simp
  | cons a r ih =>
    intro p hp
    cases r with
    | nil => simp at hp
    | cons b r =>
      rw [List.dropLast_cons_cons, List.tail_cons, List.zip_cons_cons] at hp
      have h' := List.pairwise_cons.mp h
      rcases List.mem_cons.mp hp with rfl | hp
      · exact h'.1 b List.mem_cons_self
      · exact ih h'.2 p hp
theorem is_drum_ok {n : Int} {hs : List Int} {S : Sto} (hd : IsDrum n hs) (hl : hs.length ≤ 3) (h4 : 4 ≤ n) (h24 : n ≤ 24) : F_is_drum [.d (dDrum n hs)] S = .val (.d (.bool true)) S := by
  have hlp := List.length_pos_iff.mpr hd.ne
  refine OkE.val (ok_def rfl ?_)
  unfold z_is_drum
  have e : isOf "tuple" "tuple" = true := by decide
  have w := is_whole_ok (x := n) (lo := 4) (hi := 24) (S := S)
  rw [decide_eq_true h4, decide_eq_true h24] at w
  refine ok_seq ?_
  simp (disch := omega) only [wipeZ, forget, okE_val, okE_exc, okE_bind, okS_st, okS_seq, okS_nx, okS_rt, okS_bk, okS_ct, okS_ex, okE_ofOpt, zdrop, zapp, zset, zsetF, zifS, ztru, ztst, zop, zcb, zcf, zacons, zanil, zc, zv, znil, zret, zcall, zfz, znew, zneg, zos, zon, zsl, zslF, ztup, zlst, zand, zor, znot, zif, zpar, zpar3, zasg, gN, gT2, gT3, zdnew, zdput, zmt1, zcnt1, zandV, zorV, znotV, zchain, zfrz, zbrk, zcnt, zopF, zpop0, zlput, zdget, zdin, zdnin, zdget2, zisi, ziA, ziQ, itemsQ, ziL, ziT, itemsL, itemsT, rng1_ok, rng2_ok, izs_len, izr_len, zipOf, enumOf, ofOpt, bind_val, bind_exc, st_val, st_exc, seq_nx, seq_rt, seq_ex, seq_bk, seq_ct, List.map_cons, List.map_nil, List.cons_append, List.nil_append, List.replicate, List.length_cons, List.length_nil, List.length_append, List.length_map, List.length_set, List.getElem?_cons_zero, List.getElem?_cons_succ, List.getElem?_nil, List.set_cons_zero, List.set_cons_succ, lstAt, res, resD, truS, truth, app2, on1, on2, lstOnly, lenS, allD_nil, allD_cons, Option.map_some, Option.map_none, Option.bind_some, Option.bind_none, dAdd, dSub, dMul_ok, dMod_ok, dDiv_ok, dLt, dLe, dGt, dGe, dEq_i, dEq_s, dEq_b, dNe_i, dNe_s, dNe_b, dEq_ti, dNe_ti, dEq_li, dNe_li, dIs, dIsNot, nonD, dIn, dNotIn, dIx, atI_0, atI_1, atI_2, dTup, dInt, dMin, dMax, dSum, dAll, dAny, intsOf_map, bolsOf_map, intsOf_nil, intsOf_cons, dMin2, dMax2, dAbs, keySl, Z.keyOf, putS, lim, retN_d, getLast0, setLast0, takeLast0, takeLast1, List.take_succ_cons, List.take_zero, List.take_length, List.take_nil, decide_eq_true_eq, beq_iff_eq, if_true, if_false, Bool.not_true, Bool.not_false, Bool.not_eq_true', Bool.false_eq_true, Bool.true_eq_false, reduceIte, if_pos, if_neg, Nat.add_eq, List.isEmpty_cons, List.isEmpty_nil, Option.some.injEq, decide_true, decide_false, decide_eq_true, decide_eq_false, beq_self_eq_true, BEq.rfl, beq_eq_false_iff_ne, Nat.zero_add, Nat.reduceAdd, Int.toNat_natCast, Bool.not_eq_true, decide_eq_false_iff_not, bne_iff_ne, ne_eq, not_true_eq_false, not_false_eq_true, tyN, e, w, Bool.and_self]
  refine ok_seq ?_
  simp (disch := omega) only [wipeZ, forget, okE_val, okE_exc, okE_bind, okS_st, okS_seq, okS_nx, okS_rt, okS_bk, okS_ct, okS_ex, okE_ofOpt, zdrop, zapp, zset, zsetF, zifS, ztru, ztst, zop, zcb, zcf, zacons, zanil, zc, zv, znil, zret, zcall, zfz, znew, zneg, zos, zon, zsl, zslF, ztup, zlst, zand, zor, znot, zif, zpar, zpar3, zasg, gN, gT2, gT3, zdnew, zdput, zmt1, zcnt1, zandV, zorV, znotV, zchain, zfrz, zbrk, zcnt, zopF, zpop0, zlput, zdget, zdin, zdnin, zdget2, zisi, ziA, ziQ, itemsQ, ziL, ziT, itemsL, itemsT, rng1_ok, rng2_ok, izs_len, izr_len, zipOf, enumOf, ofOpt, bind_val, bind_exc, st_val, st_exc, seq_nx, seq_rt, seq_ex, seq_bk, seq_ct, List.map_cons, List.map_nil, List.cons_append, List.nil_append, List.replicate, List.length_cons, List.length_nil, List.length_append, List.length_map, List.length_set, List.getElem?_cons_zero, List.getElem?_cons_succ, List.getElem?_nil, List.set_cons_zero, List.set_cons_succ, lstAt, res, resD, truS, truth, app2, on1, on2, lstOnly, lenS, allD_nil, allD_cons, Option.map_some, Option.map_none, Option.bind_some, Option.bind_none, dAdd, dSub, dMul_ok, dMod_ok, dDiv_ok, dLt, dLe, dGt, dGe, dEq_i, dEq_s, dEq_b, dNe_i, dNe_s, dNe_b, dEq_ti, dNe_ti, dEq_li, dNe_li, dIs, dIsNot, nonD, dIn, dNotIn, dIx, atI_0, atI_1, atI_2, dTup, dInt, dMin, dMax, dSum, dAll, dAny, intsOf_map, bolsOf_map, intsOf_nil, intsOf_cons, dMin2, dMax2, dAbs, keySl, Z.keyOf, putS, lim, retN_d, getLast0, setLast0, takeLast0, takeLast1, List.take_succ_cons, List.take_zero, List.take_length, List.take_nil, decide_eq_true_eq, beq_iff_eq, if_true, if_false, Bool.not_true, Bool.not_false, Bool.not_eq_true', Bool.false_eq_true, Bool.true_eq_false, reduceIte, if_pos, if_neg, Nat.add_eq, List.isEmpty_cons, List.isEmpty_nil, Option.some.injEq, decide_true, decide_false, decide_eq_true, decide_eq_false, beq_self_eq_true, BEq.rfl, beq_eq_false_iff_ne, Nat.zero_add, Nat.reduceAdd, Int.toNat_natCast, Bool.not_eq_true, decide_eq_false_iff_not, bne_iff_ne, ne_eq, not_true_eq_false, not_false_eq_true, tyN, e]
  refine ok_seq ?_
  simp (disch := omega) only [wipeZ, forget, okE_val, okE_exc, okE_bind, okS_st, okS_seq, okS_nx, okS_rt, okS_bk, okS_ct, okS_ex, okE_ofOpt, zdrop, zapp, zset, zsetF, zifS, ztru, ztst, zop, zcb, zcf, zacons, zanil, zc, zv, znil, zret, zcall, zfz, znew, zneg, zos, zon, zsl, zslF, ztup, zlst, zand, zor, znot, zif, zpar, zpar3, zasg, gN, gT2, gT3, zdnew, zdput, zmt1, zcnt1, zandV, zorV, znotV, zchain, zfrz, zbrk, zcnt, zopF, zpop0, zlput, zdget, zdin, zdnin, zdget2, zisi, ziA, ziQ, itemsQ, ziL, ziT, itemsL, itemsT, rng1_ok, rng2_ok, izs_len, izr_len, zipOf, enumOf, ofOpt, bind_val, bind_exc, st_val, st_exc, seq_nx, seq_rt, seq_ex, seq_bk, seq_ct, List.map_cons, List.map_nil, List.cons_append, List.nil_append, List.replicate, List.length_cons, List.length_nil, List.length_append, List.length_map, List.length_set, List.getElem?_cons_zero, List.getElem?_cons_succ, List.getElem?_nil, List.set_cons_zero, List.set_cons_succ, lstAt, res, resD, truS, truth, app2, on1, on2, lstOnly, lenS, allD_nil, allD_cons, Option.map_some, Option.map_none, Option.bind_some, Option.bind_none, dAdd, dSub, dMul_ok, dMod_ok, dDiv_ok, dLt, dLe, dGt, dGe, dEq_i, dEq_s, dEq_b, dNe_i, dNe_s, dNe_b, dEq_ti, dNe_ti, dEq_li, dNe_li, dIs, dIsNot, nonD, dIn, dNotIn, dIx, atI_0, atI_1, atI_2, dTup, dInt, dMin, dMax, dSum, dAll, dAny, intsOf_map, bolsOf_map, intsOf_nil, intsOf_cons, dMin2, dMax2, dAbs, keySl, Z.keyOf, putS, lim, retN_d, getLast0, setLast0, takeLast0, takeLast1, List.take_succ_cons, List.take_zero, List.take_length, List.take_nil, decide_eq_true_eq, beq_iff_eq, if_true, if_false, Bool.not_true, Bool.not_false, Bool.not_eq_true', Bool.false_eq_true, Bool.true_eq_false, reduceIte, if_pos, if_neg, Nat.add_eq, List.isEmpty_cons, List.isEmpty_nil, Option.some.injEq, decide_true, decide_false, decide_eq_true, decide_eq_false, beq_self_eq_true, BEq.rfl, beq_eq_false_iff_ne, Nat.zero_add, Nat.reduceAdd, Int.toNat_natCast, Bool.not_eq_true, decide_eq_false_iff_not, bne_iff_ne, ne_eq, not_true_eq_false, not_false_eq_true]
  refine ok_zlcM hs .int (fun x => .bool true) (by simp (disch := omega) only [wipeZ, forget, okE_val, okE_exc, okE_bind, okS_st, okS_seq, okS_nx, okS_rt, okS_bk, okS_ct, okS_ex, okE_ofOpt, zseq, zdrop, zapp, zset, zsetF, zifS, ztru, ztst, zop, zcb, zcf, zacons, zanil, zc, zv, znil, zret, zcall, zfz, znew, zneg, zos, zon, zsl, zslF, ztup, zlst, zand, zor, znot, zif, zpar, zpar3, zasg, gN, gT2, gT3, zdnew, zdput, zmt1, zcnt1, zandV, zorV, znotV, zchain, zfrz, zbrk, zcnt, zopF, zpop0, zlput, zdget, zdin, zdnin, zdget2, zisi, ziA, ziQ, itemsQ, ziL, ziT, itemsL, itemsT, rng1_ok, rng2_ok, izs_len, izr_len, zipOf, enumOf, ofOpt, bind_val, bind_exc, st_val, st_exc, seq_nx, seq_rt, seq_ex, seq_bk, seq_ct, List.map_cons, List.map_nil, List.cons_append, List.nil_append, List.replicate, List.length_cons, List.length_nil, List.length_append, List.length_map, List.length_set, List.getElem?_cons_zero, List.getElem?_cons_succ, List.getElem?_nil, List.set_cons_zero, List.set_cons_succ, lstAt, res, resD, truS, truth, app2, on1, on2, lstOnly, lenS, allD_nil, allD_cons, Option.map_some, Option.map_none, Option.bind_some, Option.bind_none, dAdd, dSub, dMul_ok, dMod_ok, dDiv_ok, dLt, dLe, dGt, dGe, dEq_i, dEq_s, dEq_b, dNe_i, dNe_s, dNe_b, dEq_ti, dNe_ti, dEq_li, dNe_li, dIs, dIsNot, nonD, dIn, dNotIn, dIx, atI_0, atI_1, atI_2, dTup, dInt, dMin, dMax, dSum, dAll, dAny, intsOf_map, bolsOf_map, intsOf_nil, intsOf_cons, dMin2, dMax2, dAbs, keySl, Z.keyOf, putS, lim, retN_d, getLast0, setLast0, takeLast0, takeLast1, List.take_succ_cons, List.take_zero, List.take_length, List.take_nil, decide_eq_true_eq, beq_iff_eq, if_true, if_false, Bool.not_true, Bool.not_false, Bool.not_eq_true', Bool.false_eq_true, Bool.true_eq_false, reduceIte, if_pos, if_neg, Nat.add_eq, List.isEmpty_cons, List.isEmpty_nil, Option.some.injEq, decide_true, decide_false, decide_eq_true, decide_eq_false, beq_self_eq_true, BEq.rfl, beq_eq_false_iff_ne, Nat.zero_add, Nat.reduceAdd, Int.toNat_natCast, Bool.not_eq_true, decide_eq_false_iff_not, bne_iff_ne, ne_eq, not_true_eq_false, not_false_eq_true]) (by omega) (fun x hx => ⟨_, rfl, by
    have b := hd.rg x hx
    have w := is_whole_ok (x := x) (lo := 0) (hi := n - 1) (S := S)
    rw [decide_eq_true b.1, decide_eq_true (show x ≤ n - 1 by omega)] at w
    simp (disch := omega) only [wipeZ, forget, okE_val, okE_exc, okE_bind, okS_st, okS_seq, okS_nx, okS_rt, okS_bk, okS_ct, okS_ex, okE_ofOpt, zseq, zdrop, zapp, zset, zsetF, zifS, ztru, ztst, zop, zcb, zcf, zacons, zanil, zc, zv, znil, zret, zcall, zfz, znew, zneg, zos, zon, zsl, zslF, ztup, zlst, zand, zor, znot, zif, zpar, zpar3, zasg, gN, gT2, gT3, zdnew, zdput, zmt1, zcnt1, zandV, zorV, znotV, zchain, zfrz, zbrk, zcnt, zopF, zpop0, zlput, zdget, zdin, zdnin, zdget2, zisi, ziA, ziQ, itemsQ, ziL, ziT, itemsL, itemsT, rng1_ok, rng2_ok, izs_len, izr_len, zipOf, enumOf, ofOpt, bind_val, bind_exc, st_val, st_exc, seq_nx, seq_rt, seq_ex, seq_bk, seq_ct, List.map_cons, List.map_nil, List.cons_append, List.nil_append, List.replicate, List.length_cons, List.length_nil, List.length_append, List.length_map, List.length_set, List.getElem?_cons_zero, List.getElem?_cons_succ, List.getElem?_nil, List.set_cons_zero, List.set_cons_succ, lstAt, res, resD, truS, truth, app2, on1, on2, lstOnly, lenS, allD_nil, allD_cons, Option.map_some, Option.map_none, Option.bind_some, Option.bind_none, dAdd, dSub, dMul_ok, dMod_ok, dDiv_ok, dLt, dLe, dGt, dGe, dEq_i, dEq_s, dEq_b, dNe_i, dNe_s, dNe_b, dEq_ti, dNe_ti, dEq_li, dNe_li, dIs, dIsNot, nonD, dIn, dNotIn, dIx, atI_0, atI_1, atI_2, dTup, dInt, dMin, dMax, dSum, dAll, dAny, intsOf_map, bolsOf_map, intsOf_nil, intsOf_cons, dMin2, dMax2, dAbs, keySl, Z.keyOf, putS, lim, retN_d, getLast0, setLast0, takeLast0, takeLast1, List.take_succ_cons, List.take_zero, List.take_length, List.take_nil, decide_eq_true_eq, beq_iff_eq, if_true, if_false, Bool.not_true, Bool.not_false, Bool.not_eq_true', Bool.false_eq_true, Bool.true_eq_false, reduceIte, if_pos, if_neg, Nat.add_eq, List.isEmpty_cons, List.isEmpty_nil, Option.some.injEq, decide_true, decide_false, decide_eq_true, decide_eq_false, beq_self_eq_true, BEq.rfl, beq_eq_false_iff_ne, Nat.zero_add, Nat.reduceAdd, Int.toNat_natCast, Bool.not_eq_true, decide_eq_false_iff_not, bne_iff_ne, ne_eq, not_true_eq_false, not_false_eq_true, w, Bool.and_self]⟩) ?_
  have eb : (hs.map fun x => PyData.bool true) = (hs.map fun _ => true).map .bool := by simp
  have ea : ((hs.map fun _ => true).all id) = true := by simp
  rw [eb]
  simp (disch := omega) only [wipeZ, forget, okE_val, okE_exc, okE_bind, okS_st, okS_seq, okS_nx, okS_rt, okS_bk, okS_ct, okS_ex, okE_ofOpt, zdrop, zapp, zset, zsetF, zifS, ztru, ztst, zop, zcb, zcf, zacons, zanil, zc, zv, znil, zret, zcall, zfz, znew, zneg, zos, zon, zsl, zslF, ztup, zlst, zand, zor, znot, zif, zpar, zpar3, zasg, gN, gT2, gT3, zdnew, zdput, zmt1, zcnt1, zandV, zorV, znotV, zchain, zfrz, zbrk, zcnt, zopF, zpop0, zlput, zdget, zdin, zdnin, zdget2, zisi, ziA, ziQ, itemsQ, ziL, ziT, itemsL, itemsT, rng1_ok, rng2_ok, izs_len, izr_len, zipOf, enumOf, ofOpt, bind_val, bind_exc, st_val, st_exc, seq_nx, seq_rt, seq_ex, seq_bk, seq_ct, List.map_cons, List.map_nil, List.cons_append, List.nil_append, List.replicate, List.length_cons, List.length_nil, List.length_append, List.length_map, List.length_set, List.getElem?_cons_zero, List.getElem?_cons_succ, List.getElem?_nil, List.set_cons_zero, List.set_cons_succ, lstAt, res, resD, truS, truth, app2, on1, on2, lstOnly, lenS, allD_nil, allD_cons, Option.map_some, Option.map_none, Option.bind_some, Option.bind_none, dAdd, dSub, dMul_ok, dMod_ok, dDiv_ok, dLt, dLe, dGt, dGe, dEq_i, dEq_s, dEq_b, dNe_i, dNe_s, dNe_b, dEq_ti, dNe_ti, dEq_li, dNe_li, dIs, dIsNot, nonD, dIn, dNotIn, dIx, atI_0, atI_1, atI_2, dTup, dInt, dMin, dMax, dSum, dAll, dAny, intsOf_map, bolsOf_map, intsOf_nil, intsOf_cons, dMin2, dMax2, dAbs, keySl, Z.keyOf, putS, lim, retN_d, getLast0, setLast0, takeLast0, takeLast1, List.take_succ_cons, List.take_zero, List.take_length, List.take_nil, decide_eq_true_eq, beq_iff_eq, if_true, if_false, Bool.not_true, Bool.not_false, Bool.not_eq_true', Bool.false_eq_true, Bool.true_eq_false, reduceIte, if_pos, if_neg, Nat.add_eq, List.isEmpty_cons, List.isEmpty_nil, Option.some.injEq, decide_true, decide_false, decide_eq_true, decide_eq_false, beq_self_eq_true, BEq.rfl, beq_eq_false_iff_ne, Nat.zero_add, Nat.reduceAdd, Int.toNat_natCast, Bool.not_eq_true, decide_eq_false_iff_not, bne_iff_ne, ne_eq, not_true_eq_false, not_false_eq_true, ea]
  refine ok_zlcM (hs.dropLast.zip hs.tail) (fun p => .tuple [.int p.1, .int p.2]) (fun p => .bool true) (by simp (disch := omega) only [wipeZ, forget, okE_val, okE_exc, okE_bind, okS_st, okS_seq, okS_nx, okS_rt, okS_bk, okS_ct, okS_ex, okE_ofOpt, zseq, zdrop, zapp, zset, zsetF, zifS, ztru, ztst, zop, zcb, zcf, zacons, zanil, zc, zv, znil, zret, zcall, zfz, znew, zneg, zos, zon, zsl, zslF, ztup, zlst, zand, zor, znot, zif, zpar, zpar3, zasg, gN, gT2, gT3, zdnew, zdput, zmt1, zcnt1, zandV, zorV, znotV, zchain, zfrz, zbrk, zcnt, zopF, zpop0, zlput, zdget, zdin, zdnin, zdget2, zisi, ziA, ziQ, itemsQ, ziL, ziT, itemsL, itemsT, rng1_ok, rng2_ok, izs_len, izr_len, zipOf, enumOf, ofOpt, bind_val, bind_exc, st_val, st_exc, seq_nx, seq_rt, seq_ex, seq_bk, seq_ct, List.map_cons, List.map_nil, List.cons_append, List.nil_append, List.replicate, List.length_cons, List.length_nil, List.length_append, List.length_map, List.length_set, List.getElem?_cons_zero, List.getElem?_cons_succ, List.getElem?_nil, List.set_cons_zero, List.set_cons_succ, lstAt, res, resD, truS, truth, app2, on1, on2, lstOnly, lenS, allD_nil, allD_cons, Option.map_some, Option.map_none, Option.bind_some, Option.bind_none, dAdd, dSub, dMul_ok, dMod_ok, dDiv_ok, dLt, dLe, dGt, dGe, dEq_i, dEq_s, dEq_b, dNe_i, dNe_s, dNe_b, dEq_ti, dNe_ti, dEq_li, dNe_li, dIs, dIsNot, nonD, dIn, dNotIn, dIx, atI_0, atI_1, atI_2, dTup, dInt, dMin, dMax, dSum, dAll, dAny, intsOf_map, bolsOf_map, intsOf_nil, intsOf_cons, dMin2, dMax2, dAbs, keySl, Z.keyOf, putS, lim, retN_d, getLast0, setLast0, takeLast0, takeLast1, List.take_succ_cons, List.take_zero, List.take_length, List.take_nil, decide_eq_true_eq, beq_iff_eq, if_true, if_false, Bool.not_true, Bool.not_false, Bool.not_eq_true', Bool.false_eq_true, Bool.true_eq_false, reduceIte, if_pos, if_neg, Nat.add_eq, List.isEmpty_cons, List.isEmpty_nil, Option.some.injEq, decide_true, decide_false, decide_eq_true, decide_eq_false, beq_self_eq_true, BEq.rfl, beq_eq_false_iff_ne, Nat.zero_add, Nat.reduceAdd, Int.toNat_natCast, Bool.not_eq_true, decide_eq_false_iff_not, bne_iff_ne, ne_eq, not_true_eq_false, not_false_eq_true, dSl, cut_init, cut_tail, ← List.map_dropLast, ← List.map_tail, zip_pairs]) (by simp; omega) (fun p hp => ⟨_, rfl, by
    have := pw_zip hd.lt p hp
    simp (disch := omega) only [wipeZ, forget, okE_val, okE_exc, okE_bind, okS_st, okS_seq, okS_nx, okS_rt, okS_bk, okS_ct, okS_ex, okE_ofOpt, zseq, zdrop, zapp, zset, zsetF, zifS, ztru, ztst, zop, zcb, zcf, zacons, zanil, zc, zv, znil, zret, zcall, zfz, znew, zneg, zos, zon, zsl, zslF, ztup, zlst, zand, zor, znot, zif, zpar, zpar3, zasg, gN, gT2, gT3, zdnew, zdput, zmt1, zcnt1, zandV, zorV, znotV, zchain, zfrz, zbrk, zcnt, zopF, zpop0, zlput, zdget, zdin, zdnin, zdget2, zisi, ziA, ziQ, itemsQ, ziL, ziT, itemsL, itemsT, rng1_ok, rng2_ok, izs_len, izr_len, zipOf, enumOf, ofOpt, bind_val, bind_exc, st_val, st_exc, seq_nx, seq_rt, seq_ex, seq_bk, seq_ct, List.map_cons, List.map_nil, List.cons_append, List.nil_append, List.replicate, List.length_cons, List.length_nil, List.length_append, List.length_map, List.length_set, List.getElem?_cons_zero, List.getElem?_cons_succ, List.getElem?_nil, List.set_cons_zero, List.set_cons_succ, lstAt, res, resD, truS, truth, app2, on1, on2, lstOnly, lenS, allD_nil, allD_cons, Option.map_some, Option.map_none, Option.bind_some, Option.bind_none, dAdd, dSub, dMul_ok, dMod_ok, dDiv_ok, dLt, dLe, dGt, dGe, dEq_i, dEq_s, dEq_b, dNe_i, dNe_s, dNe_b, dEq_ti, dNe_ti, dEq_li, dNe_li, dIs, dIsNot, nonD, dIn, dNotIn, dIx, atI_0, atI_1, atI_2, dTup, dInt, dMin, dMax, dSum, dAll, dAny, intsOf_map, bolsOf_map, intsOf_nil, intsOf_cons, dMin2, dMax2, dAbs, keySl, Z.keyOf, putS, lim, retN_d, getLast0, setLast0, takeLast0, takeLast1, List.take_succ_cons, List.take_zero, List.take_length, List.take_nil, decide_eq_true_eq, beq_iff_eq, if_true, if_false, Bool.not_true, Bool.not_false, Bool.not_eq_true', Bool.false_eq_true, Bool.true_eq_false, reduceIte, if_pos, if_neg, Nat.add_eq, List.isEmpty_cons, List.isEmpty_nil, Option.some.injEq, decide_true, decide_false, decide_eq_true, decide_eq_false, beq_self_eq_true, BEq.rfl, beq_eq_false_iff_ne, Nat.zero_add, Nat.reduceAdd, Int.toNat_natCast, Bool.not_eq_true, decide_eq_false_iff_not, bne_iff_ne, ne_eq, not_true_eq_false, not_false_eq_true, this]⟩) ?_
  have eb : ((hs.dropLast.zip hs.tail).map fun p => PyData.bool true) = ((hs.dropLast.zip hs.tail).map fun _ => true).map .bool := by simp
  have ea : (((hs.dropLast.zip hs.tail).map fun _ => true).all id) = true := by simp
  rw [eb]
  simp (disch := omega) only [wipeZ, forget, okE_val, okE_exc, okE_bind, okS_st, okS_seq, okS_nx, okS_rt, okS_bk, okS_ct, okS_ex, okE_ofOpt, zdrop, zapp, zset, zsetF, zifS, ztru, ztst, zop, zcb, zcf, zacons, zanil, zc, zv, znil, zret, zcall, zfz, znew, zneg, zos, zon, zsl, zslF, ztup, zlst, zand, zor, znot, zif, zpar, zpar3, zasg, gN, gT2, gT3, zdnew, zdput, zmt1, zcnt1, zandV, zorV, znotV, zchain, zfrz, zbrk, zcnt, zopF, zpop0, zlput, zdget, zdin, zdnin, zdget2, zisi, ziA, ziQ, itemsQ, ziL, ziT, itemsL, itemsT, rng1_ok, rng2_ok, izs_len, izr_len, zipOf, enumOf, ofOpt, bind_val, bind_exc, st_val, st_exc, seq_nx, seq_rt, seq_ex, seq_bk, seq_ct, List.map_cons, List.map_nil, List.cons_append, List.nil_append, List.replicate, List.length_cons, List.length_nil, List.length_append, List.length_map, List.length_set, List.getElem?_cons_zero, List.getElem?_cons_succ, List.getElem?_nil, List.set_cons_zero, List.set_cons_succ, lstAt, res, resD, truS, truth, app2, on1, on2, lstOnly, lenS, allD_nil, allD_cons, Option.map_some, Option.map_none, Option.bind_some, Option.bind_none, dAdd, dSub, dMul_ok, dMod_ok, dDiv_ok, dLt, dLe, dGt, dGe, dEq_i, dEq_s, dEq_b, dNe_i, dNe_s, dNe_b, dEq_ti, dNe_ti, dEq_li, dNe_li, dIs, dIsNot, nonD, dIn, dNotIn, dIx, atI_0, atI_1, atI_2, dTup, dInt, dMin, dMax, dSum, dAll, dAny, intsOf_map, bolsOf_map, intsOf_nil, intsOf_cons, dMin2, dMax2, dAbs, keySl, Z.keyOf, putS, lim, retN_d, getLast0, setLast0, takeLast0, takeLast1, List.take_succ_cons, List.take_zero, List.take_length, List.take_nil, decide_eq_true_eq, beq_iff_eq, if_true, if_false, Bool.not_true, Bool.not_false, Bool.not_eq_true', Bool.false_eq_true, Bool.true_eq_false, reduceIte, if_pos, if_neg, Nat.add_eq, List.isEmpty_cons, List.isEmpty_nil, Option.some.injEq, decide_true, decide_false, decide_eq_true, decide_eq_false, beq_self_eq_true, BEq.rfl, beq_eq_false_iff_ne, Nat.zero_add, Nat.reduceAdd, Int.toNat_natCast, Bool.not_eq_true, decide_eq_false_iff_not, bne_iff_ne, ne_eq, not_true_eq_false, not_false_eq_true, ea, and_self]
/-! ### drums turned -/
theorem minI_perm {a b : List Int} (h : a.Perm b) : minI a = minI b := by
  cases a with
  | nil => rw [List.nil_perm.mp h]
  | cons x r =>
    obtain ⟨m, e⟩ := minI_ex (l := x :: r) (by simp)
    obtain ⟨h1, h2⟩ := minI_iff e
    rw [e, minI_eq (h.mem_iff.mp h1) fun y hy => h2 y (h.mem_iff.mpr hy)]
theorem rt_perm {n : Int} {hs hs' : List Int} {s t : Int} (h : hs.Perm hs') : rt n hs s t = rt n hs' s t := by
  unfold rt
  rw [minI_perm (h.map _)]
theorem rt_map {n : Int} {hs : List Int} {s t s' t' : Int} (f : Int → Int) (hne : hs ≠ []) (h : ∀ x ∈ hs, (s' - f x - t') % n = (s - x - t) % n) : rt n (hs.map f) s' t' = rt n hs s t + (t' - t) := by
  unfold rt
  rw [List.map_map]
  have e : (hs.map ((fun h => t' + (s' - h - t') % n) ∘ f)) = hs.map fun x => (t' - t) + (t + (s - x - t) % n) := List.map_congr_left fun x hx => by
    show t' + (s' - f x - t') % n = _
    rw [h x hx]
    omega
  rw [e, minI_add (f := fun x => t + (s - x - t) % n) hs hne, rt_eq hne]
  show (t' - t) + rt n hs s t = rt n hs s t + (t' - t)
  omega
theorem rt_same {n : Int} {hs : List Int} {s t s' t' : Int} (hne : hs ≠ []) (h : ∀ x ∈ hs, (s' - x - t') % n = (s - x - t) % n) : rt n hs s' t' = rt n hs s t + (t' - t) := by
  have := rt_map (s := s) (t := t) (s' := s') (t' := t') (n := n) (fun x => x) hne h
  rwa [List.map_id'] at this
theorem emod_inj2 {n x y : Int} (h1 : 0 ≤ x ∧ x < n) (h2 : 0 ≤ y ∧ y < n) {c : Int} (h : (x + c) % n = (y + c) % n) : x = y := by
  refine emod_inj (c := 0) h1 h2 ?_
  have e := Int.emod_eq_emod_iff_emod_sub_eq_zero.mp h.symm
  refine Int.emod_eq_emod_iff_emod_sub_eq_zero.mpr ?_
  have e2 : 0 - x - (0 - y) = y + c - (x + c) := by omega
  rw [e2]
  exact e
theorem turned_drum {n : Int} {hs : List Int} {by_ : Int} (hd : IsDrum n hs) : IsDrum n (isort (hs.map fun h => (h + by_) % n)) := by
  have hn : 0 < n := by
    obtain ⟨x, hx⟩ := List.exists_mem_of_ne_nil _ hd.ne
    have := hd.rg x hx
    omega
  refine ⟨fun z => ?_, isort_lt (List.pairwise_map.mpr (List.Pairwise.imp_of_mem (fun {x y} hx hy h => ?_) hd.lt)), fun x hx => ?_⟩
  · have := isort_len (ks := hs.map fun h => (h + by_) % n)
    rw [z] at this
    simp at this
    exact hd.ne (List.length_eq_zero_iff.mp this.symm)
  · intro z
    have := emod_inj2 (hd.rg x hx) (hd.rg y hy) z
    omega
  · obtain ⟨h, _, rfl⟩ := List.mem_map.mp (isort_mem.mp hx)
    exact mod_le hn
end Zc
end
section
set_option Elab.async false
set_option linter.all false
set_option maxRecDepth 100000
set_option maxHeartbeats 0
namespace Q_drumwords_k13_whole_spots_go_round
open PySem L2 Z Zc

def z__law_rest : ZS := zret (zop dSub (zv 0) (zop dMul (zop dDiv (zv 0) (zv 1)) (zv 1)))
def F__law_rest : Fn := zdef 2 0 z__law_rest
def z__law_read_holds : ZS := zseq (zasg (gT2 (gN 3) (gN 4)) (zv 0)) (zseq (zset 5 (zcall F_read_time (zacons (zv 0) (zacons (zv 1) (zacons (zv 2) (zanil)))))) (zseq (zifS (zor (ztst (zop dLt (zv 5) (zv 2))) (ztst (zop dNotIn (zv 1) (zcall F_spots_under (zacons (zv 0) (zacons (zv 5) (zanil))))))) (zret (zc (.bool false))) (znil)) (zseq (zifS (ztru (zcb (on1 (lstOnly dAny)) (zacons (zfz (zlc (ziA rng2 (zacons (zv 2) (zacons (zv 5) (zanil)))) (gN 8) (ztrue) (zop dIn (zv 1) (zcall F_spots_under (zacons (zv 0) (zacons (zv 8) (zanil))))) [8])) (zanil)))) (zret (zc (.bool false))) (znil)) (zseq (zset 6 (zop dAdd (zc (.int 1)) (zcall F__law_rest (zacons (zv 2) (zacons (zc (.int 5)) (zanil)))))) (zseq (zset 7 (ztup (zacons (zv 3) (zacons (zcb (on1 dTup) (zacons (zfz (zcf srtS (zacons (zfz (zlc (ziQ (zv 4)) (gN 9) (ztrue) (zcall F__law_rest (zacons (zop dAdd (zv 9) (zv 6)) (zacons (zv 3) (zanil)))) [9])) (zanil)))) (zanil))) (zanil))))) (zseq (zifS (zor (ztst (zop dNe (zcall F_read_time (zacons (zv 7) (zacons (zcall F__law_rest (zacons (zop dAdd (zv 1) (zv 6)) (zacons (zv 3) (zanil)))) (zacons (zv 2) (zanil))))) (zv 5))) (znot (ztru (zcall F_is_drum (zacons (zv 7) (zanil)))))) (zret (zc (.bool false))) (znil)) (zseq (zifS (ztst (zop dNe (zcall F_read_time (zacons (zv 0) (zacons (zcall F__law_rest (zacons (zop dAdd (zv 1) (zv 6)) (zacons (zv 3) (zanil)))) (zacons (zop dAdd (zv 2) (zv 6)) (zanil))))) (zop dAdd (zv 5) (zv 6)))) (zret (zc (.bool false))) (znil)) (zret (zop dEq (zcall F_read_time (zacons (zv 0) (zacons (zv 1) (zacons (zop dAdd (zv 2) (zv 3)) (zanil))))) (zop dAdd (zv 5) (zv 3)))))))))))
def F__law_read_holds : Fn := zdef 3 7 z__law_read_holds
def b1_law : ZS := zifS (znot (ztru (zcall F__law_read_holds (zacons (zv 3) (zacons (zv 9) (zacons (zv 6) (zanil))))))) (zret (zc (.bool false))) (znil)
def b2_law : ZS := zseq (zset 3 (zcall F__law_drum (zacons (zv 0) (zacons (zv 1) (zacons (zc (.int 4)) (zacons (zc (.int 24)) (zanil))))))) (zseq (zasg (gT2 (gN 4) (gN 5)) (zv 3)) (zseq (zasg (gT2 (gN 6) (gN 7)) (ztup (zacons (zcall F__law_draw (zacons (zv 0) (zacons (zv 1) (zacons (zcall F__law_pick (zacons (zv 0) (zacons (zv 1) (zacons (zfz (zlst (zacons (zc (.int 9)) (zacons (zc (.int 900)) (zanil))))) (zanil))))) (zanil))))) (zacons (zcall F__law_draw (zacons (zv 0) (zacons (zv 1) (zacons (zv 4) (zanil))))) (zanil))))) (zseq (zset 8 (zcb (on1 dTup) (zacons (zfz (zlc (ziQ (zv 5)) (gN 12) (ztrue) (zcall F__law_rest (zacons (zop dAdd (zv 6) (zv 12)) (zacons (zv 4) (zanil)))) [12])) (zanil)))) (zseq (zifS (zor (ztst (zop dNe (zcall F_spots_under (zacons (zv 3) (zacons (zv 6) (zanil)))) (zv 8))) (ztst (zop dNe (zcall F_spots_under (zacons (zv 3) (zacons (zop dAdd (zv 6) (zv 4)) (zanil)))) (zv 8)))) (zret (zc (.bool false))) (znil)) (zseq (zifS (ztst (zop dNe (zcall F_spots_under (zacons (zv 3) (zacons (zc (.int 0)) (zanil)))) (zv 5))) (zret (zc (.bool false))) (znil)) (zseq (zfor (ziA rng1 (zacons (zv 4) (zanil))) (gN 9) (b1_law)) (zseq (zset 10 (zcall F_times_of (zacons (zv 3) (zacons (zv 7) (zacons (zv 6) (zacons (zop dAdd (zv 6) (zop dMul (zc (.int 3)) (zv 4))) (zanil))))))) (zseq (zset 11 (zop dAdd (zv 6) (zcall F__law_draw (zacons (zv 0) (zacons (zv 1) (zacons (zop dMul (zc (.int 3)) (zv 4)) (zanil))))))) (zseq (zifS (ztst (zop dNe (zop dAdd (zcall F_times_of (zacons (zv 3) (zacons (zv 7) (zacons (zv 6) (zacons (zv 11) (zanil)))))) (zcall F_times_of (zacons (zv 3) (zacons (zv 7) (zacons (zv 11) (zacons (zop dAdd (zv 6) (zop dMul (zc (.int 3)) (zv 4))) (zanil))))))) (zv 10))) (zret (zc (.bool false))) (znil)) (zseq (zifS (zor (ztst (zop dNe (zcb lenS (zacons (zv 10) (zanil))) (zop dMul (zc (.int 3)) (zcb lenS (zacons (zv 5) (zanil)))))) (ztst (zop dNe (zcb lenS (zacons (zcall F_times_of (zacons (zv 3) (zacons (zv 7) (zacons (zv 6) (zacons (zop dAdd (zv 6) (zv 4)) (zanil)))))) (zanil))) (zcb lenS (zacons (zv 5) (zanil)))))) (zret (zc (.bool false))) (znil)) (zifS (zor (ztst (zop dNe (zcall F_times_of (zacons (zv 3) (zacons (zv 7) (zacons (zv 6) (zacons (zv 6) (zanil)))))) (ztup (zanil)))) (ztst (zop dNe (zfz (zcf (on1 bLst) (zacons (zv 10) (zanil)))) (zfz (zcf srtS (zacons (zv 10) (zanil))))))) (zret (zc (.bool false))) (znil))))))))))))
def z_law : ZS := zseq (zsetF 1 (zlst (zanil))) (zseq (zfor (ziA rng1 (zacons (zc (.int 10)) (zanil))) (gN 2) (b2_law)) (zret (zc (.bool true))))
def F_law : Fn := zdef 1 12 z_law
end Q_drumwords_k13_whole_spots_go_round
end
section
set_option Elab.async false
set_option linter.all false
set_option maxRecDepth 100000
set_option maxHeartbeats 0
namespace Q_drumwords_k13_whole_spots_go_round
open PySem L2 Z Zc
def top (i : Nat) : Stmt := PySem.Challenge.pw_drumwords_k13_whole_spots_go_round.main.body.getD i (.Pass ⟨0, 0, 0, 0⟩)
abbrev s_is_whole : Stmt := top 4
abbrev s_is_drum : Stmt := top 5
abbrev s_spots_under : Stmt := top 6
abbrev s_read_time : Stmt := top 7
abbrev s_times_of : Stmt := top 8
abbrev s__law_draw : Stmt := top 10
abbrev s__law_pick : Stmt := top 11
abbrev s__law_drum : Stmt := top 12
abbrev s__law_rest : Stmt := top 13
abbrev s__law_read_holds : Stmt := top 14
abbrev s_law : Stmt := top 15
structure Fx (mg : Str → Option Value) : Prop where
  m_all : mg "all" = none
  m_any : mg "any" = none
  m_bool : mg "bool" = none
  m_int : mg "int" = none
  m_isinstance : mg "isinstance" = none
  m_len : mg "len" = none
  m_list : mg "list" = none
  m_min : mg "min" = none
  m_range : mg "range" = none
  m_sorted : mg "sorted" = none
  m_tuple : mg "tuple" = none
  m_zip : mg "zip" = none
  k_HEADS_MOST : ∃ t, mg "HEADS_MOST" = some (.int 3 t)
  k_SPOTS_LEAST : ∃ t, mg "SPOTS_LEAST" = some (.int 4 t)
  k_SPOTS_MOST : ∃ t, mg "SPOTS_MOST" = some (.int 24 t)
section
variable {P : Program} {w : World} {K : PySem.W.Frag} {mg : Str → Option Value} {base : Heap}
abbrev FnP (K : PySem.W.Frag) (x : Str) (st : Stmt) (f : Addr) (fd : FuncData) : Prop := FunD K x x (defArgs st) (defBody st) (defScope st) [] [] f fd
theorem sc_is_whole : FnScope ["thing", "low", "high"] ["thing", "low", "high"] (defScope s_is_whole) := ⟨rfl, rfl, rfl, by decide +kernel, rfl, by decide +kernel, by decide +kernel⟩
theorem cal_is_whole (T : Fx mg) {f : Addr} {fd : FuncData} (F : FnP K "is_whole" s_is_whole f fd) (hm : mg "is_whole" = some (.ref f))  : Cal P w K mg base "is_whole" 1 F_is_whole :=
  cal_mk (ps := ["thing", "low", "high"]) (n := 0) (z := z_is_whole) hm F.kp (F.bindsN fun _ _ _ _ _ _ us hl => match us, hl with | [_, _, _], _ => rfl)
    (fn_ok F sc_is_whole rfl fun cdv A outer s H E hr => pzs_one (pzs_ret (pz_and (pz_isi "int" (by simp) (pz_v 0) T.m_isinstance T.m_int bt_int) (pz_and (pz_not (pz_isi "bool" (by simp) (pz_v 0) T.m_isinstance T.m_bool bt_bool)) (pz_one (pz_chain opz_le opz_le (pz_v 1) (pz_v 0) (pz_v 2)))))))
theorem sc_is_drum : FnScope ["thing", "one", "two"] ["thing"] (defScope s_is_drum) := ⟨rfl, rfl, rfl, by decide +kernel, rfl, by decide +kernel, by decide +kernel⟩
theorem cal_is_drum (T : Fx mg) {f : Addr} {fd : FuncData} (F : FnP K "is_drum" s_is_drum f fd) (hm : mg "is_drum" = some (.ref f)) (c_is_whole : Cal P w K mg base "is_whole" 1 F_is_whole) : Cal P w K mg base "is_drum" 2 F_is_drum :=
  cal_mk (ps := ["thing"]) (n := 2) (z := z_is_drum) hm F.kp (F.bindsN fun _ _ _ _ _ _ us hl => match us, hl with | [_], _ => rfl)
    (fn_ok F sc_is_drum rfl fun cdv A outer s H E hr => pzs_cons (pzs_if (pzt_w (pzw_or (pzt_not (pzt_tru (pz_isi "tuple" (by simp) (pz_v 0) T.m_isinstance T.m_tuple bt_tuple))) (pzw_or (pzt_cmp (opz_ne hr.units) (pz_cb cz_len T.m_len bt_len (pza_cons (pz_v 0) (pza_nil))) (pz_int)) (pzw_or1 (pzt_not (pzt_tru (pz_call c_is_whole (hr.mono (by decide)) (pza_cons (pz_ix (pz_v 0) (pz_int)) (pza_cons (pz_glob rfl T.k_SPOTS_LEAST) (pza_cons (pz_glob rfl T.k_SPOTS_MOST) (pza_nil))))))))))) (pzs_one (pzs_ret (pz_bl))) (pzs_nil)) (pzs_cons (pzs_if (pzt_w (pzw_or (pzt_not (pzt_tru (pz_isi "tuple" (by simp) (pz_ix (pz_v 0) (pz_int)) T.m_isinstance T.m_tuple bt_tuple))) (pzw_or1 (pzt_not (pzt_chain opz_le opz_le (pz_int) (pz_cb cz_len T.m_len bt_len (pza_cons (pz_ix (pz_v 0) (pz_int)) (pza_nil))) (pz_glob rfl T.k_HEADS_MOST)))))) (pzs_one (pzs_ret (pz_bl))) (pzs_nil)) (pzs_cons (pzs_if (pzt_not (pzt_tru (pz_cb cz_all T.m_all bt_all (pza_cons (pz_f (pzf_lc (own := [("one", 1)]) (pzi_Q (pz_ix (pz_v 0) (pz_int))) sc_is_drum.nd (blkOk_by (by kernel_rfl)) (fun _ _ _ _ _ => pzg_n 1 sc_is_drum.nd) (fun _ _ _ _ _ => pzt_nil) (fun _ _ _ _ _ => pz_call c_is_whole (hr.mono (by decide)) (pza_cons (pz_v 1) (pza_cons (pz_int) (pza_cons (pz_op opz_sub (pz_ix (pz_v 0) (pz_int)) (pz_int)) (pza_nil))))))) (pza_nil))))) (pzs_one (pzs_ret (pz_bl))) (pzs_nil)) (pzs_one (pzs_ret (pz_cb cz_all T.m_all bt_all (pza_cons (pz_f (pzf_lc (own := [("one", 1), ("two", 2)]) (pzi_Z (pza_cons (pz_sl (pz_ix (pz_v 0) (pz_int)) (pzo_none) (pzo_some (pz_neg (pz_int)))) (pza_cons (pz_sl (pz_ix (pz_v 0) (pz_int)) (pzo_some (pz_int)) (pzo_none)) (pza_nil))) T.m_zip) sc_is_drum.nd (blkOk_by (by kernel_rfl)) (fun _ _ _ _ _ => pzg_t2 (pzg_n 1 sc_is_drum.nd) (pzg_n 2 sc_is_drum.nd)) (fun _ _ _ _ _ => pzt_nil) (fun _ _ _ _ _ => pz_cmp opz_lt (pz_v 1) (pz_v 2)))) (pza_nil))))))))
theorem sc_spots_under : FnScope ["drum", "time", "head"] ["drum", "time"] (defScope s_spots_under) := ⟨rfl, rfl, rfl, by decide +kernel, rfl, by decide +kernel, by decide +kernel⟩
theorem cal_spots_under (T : Fx mg) {f : Addr} {fd : FuncData} (F : FnP K "spots_under" s_spots_under f fd) (hm : mg "spots_under" = some (.ref f))  : Cal P w K mg base "spots_under" 1 F_spots_under :=
  cal_mk (ps := ["drum", "time"]) (n := 1) (z := z_spots_under) hm F.kp (F.bindsN fun _ _ _ _ _ _ us hl => match us, hl with | [_, _], _ => rfl)
    (fn_ok F sc_spots_under rfl fun cdv A outer s H E hr => pzs_one (pzs_ret (pz_cty cz_tuple T.m_tuple bt_tuple (pza_cons (pz_f (pzf_lc (own := [("head", 2)]) (pzi_Q (pz_ix (pz_v 0) (pz_int))) sc_spots_under.nd (blkOk_by (by kernel_rfl)) (fun _ _ _ _ _ => pzg_n 2 sc_spots_under.nd) (fun _ _ _ _ _ => pzt_nil) (fun _ _ _ _ _ => pz_op opz_mod (pz_op opz_add (pz_v 1) (pz_v 2)) (pz_ix (pz_v 0) (pz_int))))) (pza_nil)))))
theorem sc_read_time : FnScope ["drum", "spot", "time", "head"] ["drum", "spot", "time"] (defScope s_read_time) := ⟨rfl, rfl, rfl, by decide +kernel, rfl, by decide +kernel, by decide +kernel⟩
theorem cal_read_time (T : Fx mg) {f : Addr} {fd : FuncData} (F : FnP K "read_time" s_read_time f fd) (hm : mg "read_time" = some (.ref f))  : Cal P w K mg base "read_time" 1 F_read_time :=
  cal_mk (ps := ["drum", "spot", "time"]) (n := 1) (z := z_read_time) hm F.kp (F.bindsN fun _ _ _ _ _ _ us hl => match us, hl with | [_, _, _], _ => rfl)
    (fn_ok F sc_read_time rfl fun cdv A outer s H E hr => pzs_one (pzs_ret (pz_cb cz_min T.m_min bt_min (pza_cons (pz_f (pzf_lc (own := [("head", 3)]) (pzi_Q (pz_ix (pz_v 0) (pz_int))) sc_read_time.nd (blkOk_by (by kernel_rfl)) (fun _ _ _ _ _ => pzg_n 3 sc_read_time.nd) (fun _ _ _ _ _ => pzt_nil) (fun _ _ _ _ _ => pz_op opz_add (pz_v 2) (pz_op opz_mod (pz_op opz_sub (pz_op opz_sub (pz_v 1) (pz_v 3)) (pz_v 2)) (pz_ix (pz_v 0) (pz_int)))))) (pza_nil)))))
theorem sc_times_of : FnScope ["drum", "spot", "first", "last", "found", "time"] ["drum", "spot", "first", "last"] (defScope s_times_of) := ⟨rfl, rfl, rfl, by decide +kernel, rfl, by decide +kernel, by decide +kernel⟩
theorem cal_times_of (T : Fx mg) {f : Addr} {fd : FuncData} (F : FnP K "times_of" s_times_of f fd) (hm : mg "times_of" = some (.ref f)) (c_read_time : Cal P w K mg base "read_time" 1 F_read_time) : Cal P w K mg base "times_of" 2 F_times_of :=
  cal_mk (ps := ["drum", "spot", "first", "last"]) (n := 2) (z := z_times_of) hm F.kp (F.bindsN fun _ _ _ _ _ _ us hl => match us, hl with | [_, _, _, _], _ => rfl)
    (fn_ok F sc_times_of rfl fun cdv A outer s H E hr => pzs_cons (pzs_setF 4 (pzf_lst (pza_nil)) sc_times_of.nd) (pzs_cons (pzs_set 5 (pz_call c_read_time (hr.mono (by decide)) (pza_cons (pz_v 0) (pza_cons (pz_v 1) (pza_cons (pz_v 2) (pza_nil))))) sc_times_of.nd) (pzs_cons (pzs_while fuel (pzt_cmp opz_lt (pz_v 5) (pz_v 3)) (pzs_cons (pzs_expr (pz_app (pz_v 4) (pz_v 5))) (pzs_one (pzs_set 5 (pz_call c_read_time (hr.mono (by decide)) (pza_cons (pz_v 0) (pza_cons (pz_v 1) (pza_cons (pz_op opz_add (pz_v 5) (pz_int)) (pza_nil))))) sc_times_of.nd)))) (pzs_one (pzs_ret (pz_cty cz_tuple T.m_tuple bt_tuple (pza_cons (pz_v 4) (pza_nil))))))))
theorem sc__law_draw : FnScope ["script", "town", "many", "k", "cell", "number", "more"] ["script", "town", "many"] (defScope s__law_draw) := ⟨rfl, rfl, rfl, by decide +kernel, rfl, by decide +kernel, by decide +kernel⟩
theorem cal__law_draw (T : Fx mg) {f : Addr} {fd : FuncData} (F : FnP K "_law_draw" s__law_draw f fd) (hm : mg "_law_draw" = some (.ref f))  : Cal P w K mg base "_law_draw" 1 F__law_draw :=
  cal_mk (ps := ["script", "town", "many"]) (n := 4) (z := z__law_draw) hm F.kp (F.bindsN fun _ _ _ _ _ _ us hl => match us, hl with | [_, _, _], _ => rfl)
    (fn_ok F sc__law_draw rfl fun cdv A outer s H E hr => pzs_cons (pzs_expr (pz_app (pz_v 1) (pz_int))) (pzs_cons (pzs_set 3 (pz_cb cz_len T.m_len bt_len (pza_cons (pz_v 1) (pza_nil))) sc__law_draw.nd) (pzs_cons (pzs_set 4 (pz_int) sc__law_draw.nd) (pzs_cons (pzs_if (pzt_tru (pz_v 0)) (pzs_one (pzs_set 4 (pz_ix (pz_v 0) (pz_op opz_mod (pz_v 3) (pz_cb cz_len T.m_len bt_len (pza_cons (pz_v 0) (pza_nil))))) sc__law_draw.nd)) (pzs_nil)) (pzs_cons (pzs_set 5 (pz_op opz_mod (pz_op opz_add (pz_v 4) (pz_op opz_mul (pz_int) (pz_v 3))) (pz_int)) sc__law_draw.nd) (pzs_cons (pzs_set 5 (pz_op opz_mod (pz_op opz_mul (pz_op opz_mod (pz_op opz_mul (pz_v 5) (pz_v 5)) (pz_int)) (pz_int)) (pz_int)) sc__law_draw.nd) (pzs_cons (pzs_set 6 (pz_op opz_mod (pz_op opz_mul (pz_op opz_mod (pz_op opz_mul (pz_v 5) (pz_v 5)) (pz_int)) (pz_int)) (pz_int)) sc__law_draw.nd) (pzs_one (pzs_ret (pz_op opz_mod (pz_op opz_add (pz_op opz_mul (pz_op opz_div (pz_v 5) (pz_int)) (pz_int)) (pz_op opz_div (pz_v 6) (pz_int))) (pz_v 2)))))))))))
theorem sc__law_pick : FnScope ["script", "town", "some"] ["script", "town", "some"] (defScope s__law_pick) := ⟨rfl, rfl, rfl, by decide +kernel, rfl, by decide +kernel, by decide +kernel⟩
theorem cal__law_pick (T : Fx mg) {f : Addr} {fd : FuncData} (F : FnP K "_law_pick" s__law_pick f fd) (hm : mg "_law_pick" = some (.ref f)) (c__law_draw : Cal P w K mg base "_law_draw" 1 F__law_draw) : Cal P w K mg base "_law_pick" 2 F__law_pick :=
  cal_mk (ps := ["script", "town", "some"]) (n := 0) (z := z__law_pick) hm F.kp (F.bindsN fun _ _ _ _ _ _ us hl => match us, hl with | [_, _, _], _ => rfl)
    (fn_ok F sc__law_pick rfl fun cdv A outer s H E hr => pzs_one (pzs_ret (pz_ix (pz_v 2) (pz_call c__law_draw (hr.mono (by decide)) (pza_cons (pz_v 0) (pza_cons (pz_v 1) (pza_cons (pz_cb cz_len T.m_len bt_len (pza_cons (pz_v 2) (pza_nil))) (pza_nil))))))))
theorem sc__law_drum : FnScope ["script", "town", "low", "high", "spots", "heads", "k"] ["script", "town", "low", "high"] (defScope s__law_drum) := ⟨rfl, rfl, rfl, by decide +kernel, rfl, by decide +kernel, by decide +kernel⟩
theorem cal__law_drum (T : Fx mg) {f : Addr} {fd : FuncData} (F : FnP K "_law_drum" s__law_drum f fd) (hm : mg "_law_drum" = some (.ref f)) (c__law_draw : Cal P w K mg base "_law_draw" 1 F__law_draw) : Cal P w K mg base "_law_drum" 2 F__law_drum :=
  cal_mk (ps := ["script", "town", "low", "high"]) (n := 3) (z := z__law_drum) hm F.kp (F.bindsN fun _ _ _ _ _ _ us hl => match us, hl with | [_, _, _, _], _ => rfl)
    (fn_ok F sc__law_drum rfl fun cdv A outer s H E hr => pzs_cons (pzs_set 4 (pz_op opz_add (pz_v 2) (pz_call c__law_draw (hr.mono (by decide)) (pza_cons (pz_v 0) (pza_cons (pz_v 1) (pza_cons (pz_op opz_add (pz_op opz_sub (pz_v 3) (pz_v 2)) (pz_int)) (pza_nil)))))) sc__law_drum.nd) (pzs_cons (pzs_setF 5 (pzf_dnew) sc__law_drum.nd) (pzs_cons (pzs_for (pzi_R1 (pza_cons (pz_op opz_add (pz_int) (pz_call c__law_draw (hr.mono (by decide)) (pza_cons (pz_v 0) (pza_cons (pz_v 1) (pza_cons (pz_int) (pza_nil)))))) (pza_nil)) T.m_range) (pzg_n 6 sc__law_drum.nd) (pzs_one (pzs_dput (hu1 hr) (pz_v 5) (pz_call c__law_draw (hr.mono (by decide)) (pza_cons (pz_v 0) (pza_cons (pz_v 1) (pza_cons (pz_v 4) (pza_nil))))) (pz_int)))) (pzs_one (pzs_ret (pz_tup (pza_cons (pz_v 4) (pza_cons (pz_cty cz_tuple T.m_tuple bt_tuple (pza_cons (pz_f (pzf_cb cz_sorted T.m_sorted bt_sorted (pza_cons (pz_v 5) (pza_nil)))) (pza_nil))) (pza_nil)))))))))
theorem sc__law_rest : FnScope ["number", "by"] ["number", "by"] (defScope s__law_rest) := ⟨rfl, rfl, rfl, by decide +kernel, rfl, by decide +kernel, by decide +kernel⟩
theorem cal__law_rest (T : Fx mg) {f : Addr} {fd : FuncData} (F : FnP K "_law_rest" s__law_rest f fd) (hm : mg "_law_rest" = some (.ref f))  : Cal P w K mg base "_law_rest" 1 F__law_rest :=
  cal_mk (ps := ["number", "by"]) (n := 0) (z := z__law_rest) hm F.kp (F.bindsN fun _ _ _ _ _ _ us hl => match us, hl with | [_, _], _ => rfl)
    (fn_ok F sc__law_rest rfl fun cdv A outer s H E hr => pzs_one (pzs_ret (pz_op opz_sub (pz_v 0) (pz_op opz_mul (pz_op opz_div (pz_v 0) (pz_v 1)) (pz_v 1)))))
theorem sc__law_read_holds : FnScope ["drum", "spot", "time", "spots", "heads", "came", "by", "further", "beat", "head"] ["drum", "spot", "time"] (defScope s__law_read_holds) := ⟨rfl, rfl, rfl, by decide +kernel, rfl, by decide +kernel, by decide +kernel⟩
theorem cal__law_read_holds (T : Fx mg) {f : Addr} {fd : FuncData} (F : FnP K "_law_read_holds" s__law_read_holds f fd) (hm : mg "_law_read_holds" = some (.ref f)) (c__law_rest : Cal P w K mg base "_law_rest" 1 F__law_rest) (c_is_drum : Cal P w K mg base "is_drum" 2 F_is_drum) (c_read_time : Cal P w K mg base "read_time" 1 F_read_time) (c_spots_under : Cal P w K mg base "spots_under" 1 F_spots_under) : Cal P w K mg base "_law_read_holds" 3 F__law_read_holds :=
  cal_mk (ps := ["drum", "spot", "time"]) (n := 7) (z := z__law_read_holds) hm F.kp (F.bindsN fun _ _ _ _ _ _ us hl => match us, hl with | [_, _, _], _ => rfl)
    (fn_ok F sc__law_read_holds rfl fun cdv A outer s H E hr => pzs_cons (pzs_asg (pz_v 0) (pzg_t2 (pzg_n 3 sc__law_read_holds.nd) (pzg_n 4 sc__law_read_holds.nd))) (pzs_cons (pzs_set 5 (pz_call c_read_time (hr.mono (by decide)) (pza_cons (pz_v 0) (pza_cons (pz_v 1) (pza_cons (pz_v 2) (pza_nil))))) sc__law_read_holds.nd) (pzs_cons (pzs_if (pzt_w (pzw_or (pzt_cmp opz_lt (pz_v 5) (pz_v 2)) (pzw_or1 (pzt_cmp (opz_notIn (hu65 hr)) (pz_v 1) (pz_call c_spots_under (hr.mono (by decide)) (pza_cons (pz_v 0) (pza_cons (pz_v 5) (pza_nil)))))))) (pzs_one (pzs_ret (pz_bl))) (pzs_nil)) (pzs_cons (pzs_if (pzt_tru (pz_cb cz_any T.m_any bt_any (pza_cons (pz_f (pzf_lc (own := [("beat", 8)]) (pzi_R2 (pza_cons (pz_v 2) (pza_cons (pz_v 5) (pza_nil))) T.m_range) sc__law_read_holds.nd (blkOk_by (by kernel_rfl)) (fun _ _ _ _ _ => pzg_n 8 sc__law_read_holds.nd) (fun _ _ _ _ _ => pzt_nil) (fun _ _ _ _ _ => pz_cmp (opz_in (hu65 hr)) (pz_v 1) (pz_call c_spots_under (hr.mono (by decide)) (pza_cons (pz_v 0) (pza_cons (pz_v 8) (pza_nil))))))) (pza_nil)))) (pzs_one (pzs_ret (pz_bl))) (pzs_nil)) (pzs_cons (pzs_set 6 (pz_op opz_add (pz_int) (pz_call c__law_rest (hr.mono (by decide)) (pza_cons (pz_v 2) (pza_cons (pz_int) (pza_nil))))) sc__law_read_holds.nd) (pzs_cons (pzs_set 7 (pz_tup (pza_cons (pz_v 3) (pza_cons (pz_cty cz_tuple T.m_tuple bt_tuple (pza_cons (pz_f (pzf_cb cz_sorted T.m_sorted bt_sorted (pza_cons (pz_f (pzf_lc (own := [("head", 9)]) (pzi_Q (pz_v 4)) sc__law_read_holds.nd (blkOk_by (by kernel_rfl)) (fun _ _ _ _ _ => pzg_n 9 sc__law_read_holds.nd) (fun _ _ _ _ _ => pzt_nil) (fun _ _ _ _ _ => pz_call c__law_rest (hr.mono (by decide)) (pza_cons (pz_op opz_add (pz_v 9) (pz_v 6)) (pza_cons (pz_v 3) (pza_nil)))))) (pza_nil)))) (pza_nil))) (pza_nil)))) sc__law_read_holds.nd) (pzs_cons (pzs_if (pzt_w (pzw_or (pzt_cmp (opz_ne hr.units) (pz_call c_read_time (hr.mono (by decide)) (pza_cons (pz_v 7) (pza_cons (pz_call c__law_rest (hr.mono (by decide)) (pza_cons (pz_op opz_add (pz_v 1) (pz_v 6)) (pza_cons (pz_v 3) (pza_nil)))) (pza_cons (pz_v 2) (pza_nil))))) (pz_v 5)) (pzw_or1 (pzt_not (pzt_tru (pz_call c_is_drum (hr.mono (by decide)) (pza_cons (pz_v 7) (pza_nil)))))))) (pzs_one (pzs_ret (pz_bl))) (pzs_nil)) (pzs_cons (pzs_if (pzt_cmp (opz_ne hr.units) (pz_call c_read_time (hr.mono (by decide)) (pza_cons (pz_v 0) (pza_cons (pz_call c__law_rest (hr.mono (by decide)) (pza_cons (pz_op opz_add (pz_v 1) (pz_v 6)) (pza_cons (pz_v 3) (pza_nil)))) (pza_cons (pz_op opz_add (pz_v 2) (pz_v 6)) (pza_nil))))) (pz_op opz_add (pz_v 5) (pz_v 6))) (pzs_one (pzs_ret (pz_bl))) (pzs_nil)) (pzs_one (pzs_ret (pz_cmp (opz_eq hr.units) (pz_call c_read_time (hr.mono (by decide)) (pza_cons (pz_v 0) (pza_cons (pz_v 1) (pza_cons (pz_op opz_add (pz_v 2) (pz_v 3)) (pza_nil))))) (pz_op opz_add (pz_v 5) (pz_v 3)))))))))))))
theorem sc_law : FnScope ["script", "town", "k", "drum", "spots", "heads", "time", "spot", "due", "other", "first", "middle", "head"] ["script"] (defScope s_law) := ⟨rfl, rfl, rfl, by decide +kernel, rfl, by decide +kernel, by decide +kernel⟩
theorem ok_law (T : Fx mg) {f : Addr} {fd : FuncData} (F : FnP K "law" s_law f fd) (c__law_draw : Cal P w K mg base "_law_draw" 1 F__law_draw) (c__law_drum : Cal P w K mg base "_law_drum" 2 F__law_drum) (c__law_pick : Cal P w K mg base "_law_pick" 2 F__law_pick) (c__law_read_holds : Cal P w K mg base "_law_read_holds" 3 F__law_read_holds) (c__law_rest : Cal P w K mg base "_law_rest" 1 F__law_rest) (c_spots_under : Cal P w K mg base "spots_under" 1 F_spots_under) (c_times_of : Cal P w K mg base "times_of" 2 F_times_of) : FnOk P w K mg base (L2.CX P w) 4 f fd ["script"] (spOf K 1 F_law) :=
  fn_ok F sc_law rfl fun cdv A outer s H E hr => pzs_cons (pzs_setF 1 (pzf_lst (pza_nil)) sc_law.nd) (pzs_cons (pzs_for (pzi_R1 (pza_cons (pz_int) (pza_nil)) T.m_range) (pzg_n 2 sc_law.nd) (pzs_cons (pzs_set 3 (pz_call c__law_drum (hr.mono (by decide)) (pza_cons (pz_v 0) (pza_cons (pz_v 1) (pza_cons (pz_int) (pza_cons (pz_int) (pza_nil)))))) sc_law.nd) (pzs_cons (pzs_asg (pz_v 3) (pzg_t2 (pzg_n 4 sc_law.nd) (pzg_n 5 sc_law.nd))) (pzs_cons (pzs_asg (pz_tup (pza_cons (pz_call c__law_draw (hr.mono (by decide)) (pza_cons (pz_v 0) (pza_cons (pz_v 1) (pza_cons (pz_call c__law_pick (hr.mono (by decide)) (pza_cons (pz_v 0) (pza_cons (pz_v 1) (pza_cons (pz_f (pzf_lst (pza_cons (pz_int) (pza_cons (pz_int) (pza_nil))))) (pza_nil))))) (pza_nil))))) (pza_cons (pz_call c__law_draw (hr.mono (by decide)) (pza_cons (pz_v 0) (pza_cons (pz_v 1) (pza_cons (pz_v 4) (pza_nil))))) (pza_nil)))) (pzg_t2 (pzg_n 6 sc_law.nd) (pzg_n 7 sc_law.nd))) (pzs_cons (pzs_set 8 (pz_cty cz_tuple T.m_tuple bt_tuple (pza_cons (pz_f (pzf_lc (own := [("head", 12)]) (pzi_Q (pz_v 5)) sc_law.nd (blkOk_by (by kernel_rfl)) (fun _ _ _ _ _ => pzg_n 12 sc_law.nd) (fun _ _ _ _ _ => pzt_nil) (fun _ _ _ _ _ => pz_call c__law_rest (hr.mono (by decide)) (pza_cons (pz_op opz_add (pz_v 6) (pz_v 12)) (pza_cons (pz_v 4) (pza_nil)))))) (pza_nil))) sc_law.nd) (pzs_cons (pzs_if (pzt_w (pzw_or (pzt_cmp (opz_ne hr.units) (pz_call c_spots_under (hr.mono (by decide)) (pza_cons (pz_v 3) (pza_cons (pz_v 6) (pza_nil)))) (pz_v 8)) (pzw_or1 (pzt_cmp (opz_ne hr.units) (pz_call c_spots_under (hr.mono (by decide)) (pza_cons (pz_v 3) (pza_cons (pz_op opz_add (pz_v 6) (pz_v 4)) (pza_nil)))) (pz_v 8))))) (pzs_one (pzs_ret (pz_bl))) (pzs_nil)) (pzs_cons (pzs_if (pzt_cmp (opz_ne hr.units) (pz_call c_spots_under (hr.mono (by decide)) (pza_cons (pz_v 3) (pza_cons (pz_int) (pza_nil)))) (pz_v 5)) (pzs_one (pzs_ret (pz_bl))) (pzs_nil)) (pzs_cons (pzs_for (pzi_R1 (pza_cons (pz_v 4) (pza_nil)) T.m_range) (pzg_n 9 sc_law.nd) (pzs_one (pzs_if (pzt_not (pzt_tru (pz_call c__law_read_holds (hr.mono (by decide)) (pza_cons (pz_v 3) (pza_cons (pz_v 9) (pza_cons (pz_v 6) (pza_nil))))))) (pzs_one (pzs_ret (pz_bl))) (pzs_nil)))) (pzs_cons (pzs_set 10 (pz_call c_times_of (hr.mono (by decide)) (pza_cons (pz_v 3) (pza_cons (pz_v 7) (pza_cons (pz_v 6) (pza_cons (pz_op opz_add (pz_v 6) (pz_op opz_mul (pz_int) (pz_v 4))) (pza_nil)))))) sc_law.nd) (pzs_cons (pzs_set 11 (pz_op opz_add (pz_v 6) (pz_call c__law_draw (hr.mono (by decide)) (pza_cons (pz_v 0) (pza_cons (pz_v 1) (pza_cons (pz_op opz_mul (pz_int) (pz_v 4)) (pza_nil)))))) sc_law.nd) (pzs_cons (pzs_if (pzt_cmp (opz_ne hr.units) (pz_op opz_add (pz_call c_times_of (hr.mono (by decide)) (pza_cons (pz_v 3) (pza_cons (pz_v 7) (pza_cons (pz_v 6) (pza_cons (pz_v 11) (pza_nil)))))) (pz_call c_times_of (hr.mono (by decide)) (pza_cons (pz_v 3) (pza_cons (pz_v 7) (pza_cons (pz_v 11) (pza_cons (pz_op opz_add (pz_v 6) (pz_op opz_mul (pz_int) (pz_v 4))) (pza_nil))))))) (pz_v 10)) (pzs_one (pzs_ret (pz_bl))) (pzs_nil)) (pzs_cons (pzs_if (pzt_w (pzw_or (pzt_cmp (opz_ne hr.units) (pz_cb cz_len T.m_len bt_len (pza_cons (pz_v 10) (pza_nil))) (pz_op opz_mul (pz_int) (pz_cb cz_len T.m_len bt_len (pza_cons (pz_v 5) (pza_nil))))) (pzw_or1 (pzt_cmp (opz_ne hr.units) (pz_cb cz_len T.m_len bt_len (pza_cons (pz_call c_times_of (hr.mono (by decide)) (pza_cons (pz_v 3) (pza_cons (pz_v 7) (pza_cons (pz_v 6) (pza_cons (pz_op opz_add (pz_v 6) (pz_v 4)) (pza_nil)))))) (pza_nil))) (pz_cb cz_len T.m_len bt_len (pza_cons (pz_v 5) (pza_nil))))))) (pzs_one (pzs_ret (pz_bl))) (pzs_nil)) (pzs_one (pzs_if (pzt_w (pzw_or (pzt_cmp (opz_ne hr.units) (pz_call c_times_of (hr.mono (by decide)) (pza_cons (pz_v 3) (pza_cons (pz_v 7) (pza_cons (pz_v 6) (pza_cons (pz_v 6) (pza_nil)))))) (pz_tup (pza_nil))) (pzw_or1 (pzt_cmp (opz_ne hr.units) (pz_f (pzf_cty cz_list T.m_list bt_list (pza_cons (pz_v 10) (pza_nil)))) (pz_f (pzf_cb cz_sorted T.m_sorted bt_sorted (pza_cons (pz_v 10) (pza_nil)))))))) (pzs_one (pzs_ret (pz_bl))) (pzs_nil))))))))))))))) (pzs_one (pzs_ret (pz_bl))))
end
end Q_drumwords_k13_whole_spots_go_round
end
section
set_option Elab.async false
set_option linter.all false
set_option maxRecDepth 100000
set_option autoImplicit false
set_option maxHeartbeats 2000000
namespace Q_drumwords_k13_whole_spots_go_round
open Z Zc PySem
theorem rest_ok {x b : Int} {S : Sto} (hb : 0 < b ∧ b < 1000000) : F__law_rest [.d (.int x), .d (.int b)] S = .val (.d (.int (x % b))) S := by
  refine OkE.val (ok_def rfl ?_)
  unfold z__law_rest
  have e : x - x / b * b = x % b := by rw [Int.emod_def, Int.mul_comm]
  simp (disch := omega) only [wipeZ, forget, okE_val, okE_exc, okE_bind, okS_st, okS_seq, okS_nx, okS_rt, okS_bk, okS_ct, okS_ex, okE_ofOpt, zseq, zdrop, zapp, zset, zsetF, zifS, ztru, ztst, zop, zcb, zcf, zacons, zanil, zc, zv, znil, zret, zcall, zfz, znew, zneg, zos, zon, zsl, zslF, ztup, zlst, zand, zor, znot, zif, zpar, zpar3, zasg, gN, gT2, gT3, zdnew, zdput, zmt1, zcnt1, zandV, zorV, znotV, zchain, zfrz, zbrk, zcnt, zopF, zpop0, zlput, zdget, zdin, zdnin, zdget2, zisi, ziA, ziQ, itemsQ, ziL, ziT, itemsL, itemsT, rng1_ok, rng2_ok, izs_len, izr_len, zipOf, enumOf, ofOpt, bind_val, bind_exc, st_val, st_exc, seq_nx, seq_rt, seq_ex, seq_bk, seq_ct, List.map_cons, List.map_nil, List.cons_append, List.nil_append, List.replicate, List.length_cons, List.length_nil, List.length_append, List.length_map, List.length_set, List.getElem?_cons_zero, List.getElem?_cons_succ, List.getElem?_nil, List.set_cons_zero, List.set_cons_succ, lstAt, res, resD, truS, truth, app2, on1, on2, lstOnly, lenS, allD_nil, allD_cons, Option.map_some, Option.map_none, Option.bind_some, Option.bind_none, dAdd, dSub, dMul_ok, dMod_ok, dDiv_ok, dLt, dLe, dGt, dGe, dEq_i, dEq_s, dEq_b, dNe_i, dNe_s, dNe_b, dEq_ti, dNe_ti, dEq_li, dNe_li, dIs, dIsNot, nonD, dIn, dNotIn, dIx, atI_0, atI_1, atI_2, dTup, dInt, dMin, dMax, dSum, dAll, dAny, intsOf_map, bolsOf_map, intsOf_nil, intsOf_cons, dMin2, dMax2, dAbs, keySl, Z.keyOf, putS, lim, retN_d, getLast0, setLast0, takeLast0, takeLast1, List.take_succ_cons, List.take_zero, List.take_length, List.take_nil, decide_eq_true_eq, beq_iff_eq, if_true, if_false, Bool.not_true, Bool.not_false, Bool.not_eq_true', Bool.false_eq_true, Bool.true_eq_false, reduceIte, if_pos, if_neg, Nat.add_eq, List.isEmpty_cons, List.isEmpty_nil, Option.some.injEq, decide_true, decide_false, decide_eq_true, decide_eq_false, beq_self_eq_true, BEq.rfl, beq_eq_false_iff_ne, Nat.zero_add, Nat.reduceAdd, Int.toNat_natCast, Bool.not_eq_true, decide_eq_false_iff_not, bne_iff_ne, ne_eq, not_true_eq_false, not_false_eq_true, e, and_self]
theorem read_holds_ok {n : Int} {hs : List Int} {s t : Int} {S : Sto} (hd : IsDrum n hs) (hl : hs.length ≤ 3) (h4 : 4 ≤ n) (h24 : n ≤ 24) (hs0 : 0 ≤ s) (hs1 : s < n) (ht : 0 ≤ t ∧ t < 90000) :
    F__law_read_holds [.d (dDrum n hs), .d (.int s), .d (.int t)] S = .val (.d (.bool true)) S := by
  have hne := hd.ne
  have hn : 0 < n := by omega
  have bd := rt_bounds (s := s) (t := t) hn hne
  have rdt : ∀ a b, F_read_time [.d (dDrum n hs), .d (.int a), .d (.int b)] S = .val (.d (.int (rt n hs a b))) S := fun a b => read_time_ok hn hne (by omega)
  have su : ∀ a, F_spots_under [.d (dDrum n hs), .d (.int a)] S = .val (.d (.tuple ((hs.map fun h => (a + h) % n).map .int))) S := fun a => spots_under_ok hn (by omega)
  have um : ∀ a, decide (s ∈ hs.map fun h => (a + h) % n) = under n hs s a := fun a => by
    apply Bool.eq_iff_iff.mpr
    rw [decide_eq_true_eq, under_iff, List.mem_map]
  refine OkE.val (ok_def rfl ?_)
  unfold z__law_read_holds
  refine ok_seq ?_
  try simp (disch := omega) only [wipeZ, forget, okE_val, okE_exc, okE_bind, okS_st, okS_seq, okS_nx, okS_rt, okS_bk, okS_ct, okS_ex, okE_ofOpt, zdrop, zapp, zset, zsetF, zifS, ztru, ztst, zop, zcb, zcf, zacons, zanil, zc, zv, znil, zret, zcall, zfz, znew, zneg, zos, zon, zsl, zslF, ztup, zlst, zand, zor, znot, zif, zpar, zpar3, zasg, gN, gT2, gT3, zdnew, zdput, zmt1, zcnt1, zandV, zorV, znotV, zchain, zfrz, zbrk, zcnt, zopF, zpop0, zlput, zdget, zdin, zdnin, zdget2, zisi, ziA, ziQ, itemsQ, ziL, ziT, itemsL, itemsT, rng1_ok, rng2_ok, izs_len, izr_len, zipOf, enumOf, ofOpt, bind_val, bind_exc, st_val, st_exc, seq_nx, seq_rt, seq_ex, seq_bk, seq_ct, List.map_cons, List.map_nil, List.cons_append, List.nil_append, List.replicate, List.length_cons, List.length_nil, List.length_append, List.length_map, List.length_set, List.getElem?_cons_zero, List.getElem?_cons_succ, List.getElem?_nil, List.set_cons_zero, List.set_cons_succ, lstAt, res, resD, truS, truth, app2, on1, on2, lstOnly, lenS, allD_nil, allD_cons, Option.map_some, Option.map_none, Option.bind_some, Option.bind_none, dAdd, dSub, dMul_ok, dMod_ok, dDiv_ok, dLt, dLe, dGt, dGe, dEq_i, dEq_s, dEq_b, dNe_i, dNe_s, dNe_b, dEq_ti, dNe_ti, dEq_li, dNe_li, dIs, dIsNot, nonD, dIn, dNotIn, dIx, atI_0, atI_1, atI_2, dTup, dInt, dMin, dMax, dSum, dAll, dAny, intsOf_map, bolsOf_map, intsOf_nil, intsOf_cons, dMin2, dMax2, dAbs, keySl, Z.keyOf, putS, lim, retN_d, getLast0, setLast0, takeLast0, takeLast1, List.take_succ_cons, List.take_zero, List.take_length, List.take_nil, decide_eq_true_eq, beq_iff_eq, if_true, if_false, Bool.not_true, Bool.not_false, Bool.not_eq_true', Bool.false_eq_true, Bool.true_eq_false, reduceIte, if_pos, if_neg, Nat.add_eq, List.isEmpty_cons, List.isEmpty_nil, Option.some.injEq, decide_true, decide_false, decide_eq_true, decide_eq_false, beq_self_eq_true, BEq.rfl, beq_eq_false_iff_ne, Nat.zero_add, Nat.reduceAdd, Int.toNat_natCast, Bool.not_eq_true, decide_eq_false_iff_not, bne_iff_ne, ne_eq, not_true_eq_false, not_false_eq_true]
  refine ok_seq ?_
  try simp (disch := omega) only [wipeZ, forget, okE_val, okE_exc, okE_bind, okS_st, okS_seq, okS_nx, okS_rt, okS_bk, okS_ct, okS_ex, okE_ofOpt, zdrop, zapp, zset, zsetF, zifS, ztru, ztst, zop, zcb, zcf, zacons, zanil, zc, zv, znil, zret, zcall, zfz, znew, zneg, zos, zon, zsl, zslF, ztup, zlst, zand, zor, znot, zif, zpar, zpar3, zasg, gN, gT2, gT3, zdnew, zdput, zmt1, zcnt1, zandV, zorV, znotV, zchain, zfrz, zbrk, zcnt, zopF, zpop0, zlput, zdget, zdin, zdnin, zdget2, zisi, ziA, ziQ, itemsQ, ziL, ziT, itemsL, itemsT, rng1_ok, rng2_ok, izs_len, izr_len, zipOf, enumOf, ofOpt, bind_val, bind_exc, st_val, st_exc, seq_nx, seq_rt, seq_ex, seq_bk, seq_ct, List.map_cons, List.map_nil, List.cons_append, List.nil_append, List.replicate, List.length_cons, List.length_nil, List.length_append, List.length_map, List.length_set, List.getElem?_cons_zero, List.getElem?_cons_succ, List.getElem?_nil, List.set_cons_zero, List.set_cons_succ, lstAt, res, resD, truS, truth, app2, on1, on2, lstOnly, lenS, allD_nil, allD_cons, Option.map_some, Option.map_none, Option.bind_some, Option.bind_none, dAdd, dSub, dMul_ok, dMod_ok, dDiv_ok, dLt, dLe, dGt, dGe, dEq_i, dEq_s, dEq_b, dNe_i, dNe_s, dNe_b, dEq_ti, dNe_ti, dEq_li, dNe_li, dIs, dIsNot, nonD, dIn, dNotIn, dIx, atI_0, atI_1, atI_2, dTup, dInt, dMin, dMax, dSum, dAll, dAny, intsOf_map, bolsOf_map, intsOf_nil, intsOf_cons, dMin2, dMax2, dAbs, keySl, Z.keyOf, putS, lim, retN_d, getLast0, setLast0, takeLast0, takeLast1, List.take_succ_cons, List.take_zero, List.take_length, List.take_nil, decide_eq_true_eq, beq_iff_eq, if_true, if_false, Bool.not_true, Bool.not_false, Bool.not_eq_true', Bool.false_eq_true, Bool.true_eq_false, reduceIte, if_pos, if_neg, Nat.add_eq, List.isEmpty_cons, List.isEmpty_nil, Option.some.injEq, decide_true, decide_false, decide_eq_true, decide_eq_false, beq_self_eq_true, BEq.rfl, beq_eq_false_iff_ne, Nat.zero_add, Nat.reduceAdd, Int.toNat_natCast, Bool.not_eq_true, decide_eq_false_iff_not, bne_iff_ne, ne_eq, not_true_eq_false, not_false_eq_true, rdt]
  refine ok_seq ?_
  try simp (disch := omega) only [wipeZ, forget, okE_val, okE_exc, okE_bind, okS_st, okS_seq, okS_nx, okS_rt, okS_bk, okS_ct, okS_ex, okE_ofOpt, zdrop, zapp, zset, zsetF, zifS, ztru, ztst, zop, zcb, zcf, zacons, zanil, zc, zv, znil, zret, zcall, zfz, znew, zneg, zos, zon, zsl, zslF, ztup, zlst, zand, zor, znot, zif, zpar, zpar3, zasg, gN, gT2, gT3, zdnew, zdput, zmt1, zcnt1, zandV, zorV, znotV, zchain, zfrz, zbrk, zcnt, zopF, zpop0, zlput, zdget, zdin, zdnin, zdget2, zisi, ziA, ziQ, itemsQ, ziL, ziT, itemsL, itemsT, rng1_ok, rng2_ok, izs_len, izr_len, zipOf, enumOf, ofOpt, bind_val, bind_exc, st_val, st_exc, seq_nx, seq_rt, seq_ex, seq_bk, seq_ct, List.map_cons, List.map_nil, List.cons_append, List.nil_append, List.replicate, List.length_cons, List.length_nil, List.length_append, List.length_map, List.length_set, List.getElem?_cons_zero, List.getElem?_cons_succ, List.getElem?_nil, List.set_cons_zero, List.set_cons_succ, lstAt, res, resD, truS, truth, app2, on1, on2, lstOnly, lenS, allD_nil, allD_cons, Option.map_some, Option.map_none, Option.bind_some, Option.bind_none, dAdd, dSub, dMul_ok, dMod_ok, dDiv_ok, dLt, dLe, dGt, dGe, dEq_i, dEq_s, dEq_b, dNe_i, dNe_s, dNe_b, dEq_ti, dNe_ti, dEq_li, dNe_li, dIs, dIsNot, nonD, dIn, dNotIn, dIx, atI_0, atI_1, atI_2, dTup, dInt, dMin, dMax, dSum, dAll, dAny, intsOf_map, bolsOf_map, intsOf_nil, intsOf_cons, dMin2, dMax2, dAbs, keySl, Z.keyOf, putS, lim, retN_d, getLast0, setLast0, takeLast0, takeLast1, List.take_succ_cons, List.take_zero, List.take_length, List.take_nil, decide_eq_true_eq, beq_iff_eq, if_true, if_false, Bool.not_true, Bool.not_false, Bool.not_eq_true', Bool.false_eq_true, Bool.true_eq_false, reduceIte, if_pos, if_neg, Nat.add_eq, List.isEmpty_cons, List.isEmpty_nil, Option.some.injEq, decide_true, decide_false, decide_eq_true, decide_eq_false, beq_self_eq_true, BEq.rfl, beq_eq_false_iff_ne, Nat.zero_add, Nat.reduceAdd, Int.toNat_natCast, Bool.not_eq_true, decide_eq_false_iff_not, bne_iff_ne, ne_eq, not_true_eq_false, not_false_eq_true, su, memD_tup, um, rt_under hs0 hs1 hne]
  refine ok_seq ?_
  try simp (disch := omega) only [wipeZ, forget, okE_val, okE_exc, okE_bind, okS_st, okS_seq, okS_nx, okS_rt, okS_bk, okS_ct, okS_ex, okE_ofOpt, zdrop, zapp, zset, zsetF, zifS, ztru, ztst, zop, zcb, zcf, zacons, zanil, zc, zv, znil, zret, zcall, zfz, znew, zneg, zos, zon, zsl, zslF, ztup, zlst, zand, zor, znot, zif, zpar, zpar3, zasg, gN, gT2, gT3, zdnew, zdput, zmt1, zcnt1, zandV, zorV, znotV, zchain, zfrz, zbrk, zcnt, zopF, zpop0, zlput, zdget, zdin, zdnin, zdget2, zisi, ziA, ziQ, itemsQ, ziL, ziT, itemsL, itemsT, rng1_ok, rng2_ok, izs_len, izr_len, zipOf, enumOf, ofOpt, bind_val, bind_exc, st_val, st_exc, seq_nx, seq_rt, seq_ex, seq_bk, seq_ct, List.map_cons, List.map_nil, List.cons_append, List.nil_append, List.replicate, List.length_cons, List.length_nil, List.length_append, List.length_map, List.length_set, List.getElem?_cons_zero, List.getElem?_cons_succ, List.getElem?_nil, List.set_cons_zero, List.set_cons_succ, lstAt, res, resD, truS, truth, app2, on1, on2, lstOnly, lenS, allD_nil, allD_cons, Option.map_some, Option.map_none, Option.bind_some, Option.bind_none, dAdd, dSub, dMul_ok, dMod_ok, dDiv_ok, dLt, dLe, dGt, dGe, dEq_i, dEq_s, dEq_b, dNe_i, dNe_s, dNe_b, dEq_ti, dNe_ti, dEq_li, dNe_li, dIs, dIsNot, nonD, dIn, dNotIn, dIx, atI_0, atI_1, atI_2, dTup, dInt, dMin, dMax, dSum, dAll, dAny, intsOf_map, bolsOf_map, intsOf_nil, intsOf_cons, dMin2, dMax2, dAbs, keySl, Z.keyOf, putS, lim, retN_d, getLast0, setLast0, takeLast0, takeLast1, List.take_succ_cons, List.take_zero, List.take_length, List.take_nil, decide_eq_true_eq, beq_iff_eq, if_true, if_false, Bool.not_true, Bool.not_false, Bool.not_eq_true', Bool.false_eq_true, Bool.true_eq_false, reduceIte, if_pos, if_neg, Nat.add_eq, List.isEmpty_cons, List.isEmpty_nil, Option.some.injEq, decide_true, decide_false, decide_eq_true, decide_eq_false, beq_self_eq_true, BEq.rfl, beq_eq_false_iff_ne, Nat.zero_add, Nat.reduceAdd, Int.toNat_natCast, Bool.not_eq_true, decide_eq_false_iff_not, bne_iff_ne, ne_eq, not_true_eq_false, not_false_eq_true]
  refine ok_zlcM (izr t (rt n hs s t - t).toNat) .int (fun _ => .bool false) (by simp (disch := omega) only [wipeZ, forget, okE_val, okE_exc, okE_bind, okS_st, okS_seq, okS_nx, okS_rt, okS_bk, okS_ct, okS_ex, okE_ofOpt, zseq, zdrop, zapp, zset, zsetF, zifS, ztru, ztst, zop, zcb, zcf, zacons, zanil, zc, zv, znil, zret, zcall, zfz, znew, zneg, zos, zon, zsl, zslF, ztup, zlst, zand, zor, znot, zif, zpar, zpar3, zasg, gN, gT2, gT3, zdnew, zdput, zmt1, zcnt1, zandV, zorV, znotV, zchain, zfrz, zbrk, zcnt, zopF, zpop0, zlput, zdget, zdin, zdnin, zdget2, zisi, ziA, ziQ, itemsQ, ziL, ziT, itemsL, itemsT, rng1_ok, rng2_ok, izs_len, izr_len, zipOf, enumOf, ofOpt, bind_val, bind_exc, st_val, st_exc, seq_nx, seq_rt, seq_ex, seq_bk, seq_ct, List.map_cons, List.map_nil, List.cons_append, List.nil_append, List.replicate, List.length_cons, List.length_nil, List.length_append, List.length_map, List.length_set, List.getElem?_cons_zero, List.getElem?_cons_succ, List.getElem?_nil, List.set_cons_zero, List.set_cons_succ, lstAt, res, resD, truS, truth, app2, on1, on2, lstOnly, lenS, allD_nil, allD_cons, Option.map_some, Option.map_none, Option.bind_some, Option.bind_none, dAdd, dSub, dMul_ok, dMod_ok, dDiv_ok, dLt, dLe, dGt, dGe, dEq_i, dEq_s, dEq_b, dNe_i, dNe_s, dNe_b, dEq_ti, dNe_ti, dEq_li, dNe_li, dIs, dIsNot, nonD, dIn, dNotIn, dIx, atI_0, atI_1, atI_2, dTup, dInt, dMin, dMax, dSum, dAll, dAny, intsOf_map, bolsOf_map, intsOf_nil, intsOf_cons, dMin2, dMax2, dAbs, keySl, Z.keyOf, putS, lim, retN_d, getLast0, setLast0, takeLast0, takeLast1, List.take_succ_cons, List.take_zero, List.take_length, List.take_nil, decide_eq_true_eq, beq_iff_eq, if_true, if_false, Bool.not_true, Bool.not_false, Bool.not_eq_true', Bool.false_eq_true, Bool.true_eq_false, reduceIte, if_pos, if_neg, Nat.add_eq, List.isEmpty_cons, List.isEmpty_nil, Option.some.injEq, decide_true, decide_false, decide_eq_true, decide_eq_false, beq_self_eq_true, BEq.rfl, beq_eq_false_iff_ne, Nat.zero_add, Nat.reduceAdd, Int.toNat_natCast, Bool.not_eq_true, decide_eq_false_iff_not, bne_iff_ne, ne_eq, not_true_eq_false, not_false_eq_true]) (by rw [izr_len]; omega) (fun x hx => ⟨_, rfl, by
    have := izr_mem.mp hx
    simp (disch := omega) only [wipeZ, forget, okE_val, okE_exc, okE_bind, okS_st, okS_seq, okS_nx, okS_rt, okS_bk, okS_ct, okS_ex, okE_ofOpt, zseq, zdrop, zapp, zset, zsetF, zifS, ztru, ztst, zop, zcb, zcf, zacons, zanil, zc, zv, znil, zret, zcall, zfz, znew, zneg, zos, zon, zsl, zslF, ztup, zlst, zand, zor, znot, zif, zpar, zpar3, zasg, gN, gT2, gT3, zdnew, zdput, zmt1, zcnt1, zandV, zorV, znotV, zchain, zfrz, zbrk, zcnt, zopF, zpop0, zlput, zdget, zdin, zdnin, zdget2, zisi, ziA, ziQ, itemsQ, ziL, ziT, itemsL, itemsT, rng1_ok, rng2_ok, izs_len, izr_len, zipOf, enumOf, ofOpt, bind_val, bind_exc, st_val, st_exc, seq_nx, seq_rt, seq_ex, seq_bk, seq_ct, List.map_cons, List.map_nil, List.cons_append, List.nil_append, List.replicate, List.length_cons, List.length_nil, List.length_append, List.length_map, List.length_set, List.getElem?_cons_zero, List.getElem?_cons_succ, List.getElem?_nil, List.set_cons_zero, List.set_cons_succ, lstAt, res, resD, truS, truth, app2, on1, on2, lstOnly, lenS, allD_nil, allD_cons, Option.map_some, Option.map_none, Option.bind_some, Option.bind_none, dAdd, dSub, dMul_ok, dMod_ok, dDiv_ok, dLt, dLe, dGt, dGe, dEq_i, dEq_s, dEq_b, dNe_i, dNe_s, dNe_b, dEq_ti, dNe_ti, dEq_li, dNe_li, dIs, dIsNot, nonD, dIn, dNotIn, dIx, atI_0, atI_1, atI_2, dTup, dInt, dMin, dMax, dSum, dAll, dAny, intsOf_map, bolsOf_map, intsOf_nil, intsOf_cons, dMin2, dMax2, dAbs, keySl, Z.keyOf, putS, lim, retN_d, getLast0, setLast0, takeLast0, takeLast1, List.take_succ_cons, List.take_zero, List.take_length, List.take_nil, decide_eq_true_eq, beq_iff_eq, if_true, if_false, Bool.not_true, Bool.not_false, Bool.not_eq_true', Bool.false_eq_true, Bool.true_eq_false, reduceIte, if_pos, if_neg, Nat.add_eq, List.isEmpty_cons, List.isEmpty_nil, Option.some.injEq, decide_true, decide_false, decide_eq_true, decide_eq_false, beq_self_eq_true, BEq.rfl, beq_eq_false_iff_ne, Nat.zero_add, Nat.reduceAdd, Int.toNat_natCast, Bool.not_eq_true, decide_eq_false_iff_not, bne_iff_ne, ne_eq, not_true_eq_false, not_false_eq_true, su, memD_tup, um, rt_first (n := n) (hs := hs) (s := s) (t := t) (u := x) hn (by omega) (by omega)]⟩) ?_
  have eb : ((izr t (rt n hs s t - t).toNat).map fun x => PyData.bool false) = ((izr t (rt n hs s t - t).toNat).map fun _ => false).map .bool := by simp
  have ea : (((izr t (rt n hs s t - t).toNat).map fun _ => false).any id) = false := by simp
  rw [eb]
  try simp (disch := omega) only [wipeZ, forget, okE_val, okE_exc, okE_bind, okS_st, okS_seq, okS_nx, okS_rt, okS_bk, okS_ct, okS_ex, okE_ofOpt, zdrop, zapp, zset, zsetF, zifS, ztru, ztst, zop, zcb, zcf, zacons, zanil, zc, zv, znil, zret, zcall, zfz, znew, zneg, zos, zon, zsl, zslF, ztup, zlst, zand, zor, znot, zif, zpar, zpar3, zasg, gN, gT2, gT3, zdnew, zdput, zmt1, zcnt1, zandV, zorV, znotV, zchain, zfrz, zbrk, zcnt, zopF, zpop0, zlput, zdget, zdin, zdnin, zdget2, zisi, ziA, ziQ, itemsQ, ziL, ziT, itemsL, itemsT, rng1_ok, rng2_ok, izs_len, izr_len, zipOf, enumOf, ofOpt, bind_val, bind_exc, st_val, st_exc, seq_nx, seq_rt, seq_ex, seq_bk, seq_ct, List.map_cons, List.map_nil, List.cons_append, List.nil_append, List.replicate, List.length_cons, List.length_nil, List.length_append, List.length_map, List.length_set, List.getElem?_cons_zero, List.getElem?_cons_succ, List.getElem?_nil, List.set_cons_zero, List.set_cons_succ, lstAt, res, resD, truS, truth, app2, on1, on2, lstOnly, lenS, allD_nil, allD_cons, Option.map_some, Option.map_none, Option.bind_some, Option.bind_none, dAdd, dSub, dMul_ok, dMod_ok, dDiv_ok, dLt, dLe, dGt, dGe, dEq_i, dEq_s, dEq_b, dNe_i, dNe_s, dNe_b, dEq_ti, dNe_ti, dEq_li, dNe_li, dIs, dIsNot, nonD, dIn, dNotIn, dIx, atI_0, atI_1, atI_2, dTup, dInt, dMin, dMax, dSum, dAll, dAny, intsOf_map, bolsOf_map, intsOf_nil, intsOf_cons, dMin2, dMax2, dAbs, keySl, Z.keyOf, putS, lim, retN_d, getLast0, setLast0, takeLast0, takeLast1, List.take_succ_cons, List.take_zero, List.take_length, List.take_nil, decide_eq_true_eq, beq_iff_eq, if_true, if_false, Bool.not_true, Bool.not_false, Bool.not_eq_true', Bool.false_eq_true, Bool.true_eq_false, reduceIte, if_pos, if_neg, Nat.add_eq, List.isEmpty_cons, List.isEmpty_nil, Option.some.injEq, decide_true, decide_false, decide_eq_true, decide_eq_false, beq_self_eq_true, BEq.rfl, beq_eq_false_iff_ne, Nat.zero_add, Nat.reduceAdd, Int.toNat_natCast, Bool.not_eq_true, decide_eq_false_iff_not, bne_iff_ne, ne_eq, not_true_eq_false, not_false_eq_true, ea]
  refine ok_seq ?_
  try simp (disch := omega) only [wipeZ, forget, okE_val, okE_exc, okE_bind, okS_st, okS_seq, okS_nx, okS_rt, okS_bk, okS_ct, okS_ex, okE_ofOpt, zdrop, zapp, zset, zsetF, zifS, ztru, ztst, zop, zcb, zcf, zacons, zanil, zc, zv, znil, zret, zcall, zfz, znew, zneg, zos, zon, zsl, zslF, ztup, zlst, zand, zor, znot, zif, zpar, zpar3, zasg, gN, gT2, gT3, zdnew, zdput, zmt1, zcnt1, zandV, zorV, znotV, zchain, zfrz, zbrk, zcnt, zopF, zpop0, zlput, zdget, zdin, zdnin, zdget2, zisi, ziA, ziQ, itemsQ, ziL, ziT, itemsL, itemsT, rng1_ok, rng2_ok, izs_len, izr_len, zipOf, enumOf, ofOpt, bind_val, bind_exc, st_val, st_exc, seq_nx, seq_rt, seq_ex, seq_bk, seq_ct, List.map_cons, List.map_nil, List.cons_append, List.nil_append, List.replicate, List.length_cons, List.length_nil, List.length_append, List.length_map, List.length_set, List.getElem?_cons_zero, List.getElem?_cons_succ, List.getElem?_nil, List.set_cons_zero, List.set_cons_succ, lstAt, res, resD, truS, truth, app2, on1, on2, lstOnly, lenS, allD_nil, allD_cons, Option.map_some, Option.map_none, Option.bind_some, Option.bind_none, dAdd, dSub, dMul_ok, dMod_ok, dDiv_ok, dLt, dLe, dGt, dGe, dEq_i, dEq_s, dEq_b, dNe_i, dNe_s, dNe_b, dEq_ti, dNe_ti, dEq_li, dNe_li, dIs, dIsNot, nonD, dIn, dNotIn, dIx, atI_0, atI_1, atI_2, dTup, dInt, dMin, dMax, dSum, dAll, dAny, intsOf_map, bolsOf_map, intsOf_nil, intsOf_cons, dMin2, dMax2, dAbs, keySl, Z.keyOf, putS, lim, retN_d, getLast0, setLast0, takeLast0, takeLast1, List.take_succ_cons, List.take_zero, List.take_length, List.take_nil, decide_eq_true_eq, beq_iff_eq, if_true, if_false, Bool.not_true, Bool.not_false, Bool.not_eq_true', Bool.false_eq_true, Bool.true_eq_false, reduceIte, if_pos, if_neg, Nat.add_eq, List.isEmpty_cons, List.isEmpty_nil, Option.some.injEq, decide_true, decide_false, decide_eq_true, decide_eq_false, beq_self_eq_true, BEq.rfl, beq_eq_false_iff_ne, Nat.zero_add, Nat.reduceAdd, Int.toNat_natCast, Bool.not_eq_true, decide_eq_false_iff_not, bne_iff_ne, ne_eq, not_true_eq_false, not_false_eq_true, rest_ok (x := t) (b := 5) (by omega)]
  have hb := mod_le (a := t) (b := 5) (by omega)
  generalize hby : 1 + t % 5 = by_
  refine ok_seq ?_
  try simp (disch := omega) only [wipeZ, forget, okE_val, okE_exc, okE_bind, okS_st, okS_seq, okS_nx, okS_rt, okS_bk, okS_ct, okS_ex, okE_ofOpt, zdrop, zapp, zset, zsetF, zifS, ztru, ztst, zop, zcb, zcf, zacons, zanil, zc, zv, znil, zret, zcall, zfz, znew, zneg, zos, zon, zsl, zslF, ztup, zlst, zand, zor, znot, zif, zpar, zpar3, zasg, gN, gT2, gT3, zdnew, zdput, zmt1, zcnt1, zandV, zorV, znotV, zchain, zfrz, zbrk, zcnt, zopF, zpop0, zlput, zdget, zdin, zdnin, zdget2, zisi, ziA, ziQ, itemsQ, ziL, ziT, itemsL, itemsT, rng1_ok, rng2_ok, izs_len, izr_len, zipOf, enumOf, ofOpt, bind_val, bind_exc, st_val, st_exc, seq_nx, seq_rt, seq_ex, seq_bk, seq_ct, List.map_cons, List.map_nil, List.cons_append, List.nil_append, List.replicate, List.length_cons, List.length_nil, List.length_append, List.length_map, List.length_set, List.getElem?_cons_zero, List.getElem?_cons_succ, List.getElem?_nil, List.set_cons_zero, List.set_cons_succ, lstAt, res, resD, truS, truth, app2, on1, on2, lstOnly, lenS, allD_nil, allD_cons, Option.map_some, Option.map_none, Option.bind_some, Option.bind_none, dAdd, dSub, dMul_ok, dMod_ok, dDiv_ok, dLt, dLe, dGt, dGe, dEq_i, dEq_s, dEq_b, dNe_i, dNe_s, dNe_b, dEq_ti, dNe_ti, dEq_li, dNe_li, dIs, dIsNot, nonD, dIn, dNotIn, dIx, atI_0, atI_1, atI_2, dTup, dInt, dMin, dMax, dSum, dAll, dAny, intsOf_map, bolsOf_map, intsOf_nil, intsOf_cons, dMin2, dMax2, dAbs, keySl, Z.keyOf, putS, lim, retN_d, getLast0, setLast0, takeLast0, takeLast1, List.take_succ_cons, List.take_zero, List.take_length, List.take_nil, decide_eq_true_eq, beq_iff_eq, if_true, if_false, Bool.not_true, Bool.not_false, Bool.not_eq_true', Bool.false_eq_true, Bool.true_eq_false, reduceIte, if_pos, if_neg, Nat.add_eq, List.isEmpty_cons, List.isEmpty_nil, Option.some.injEq, decide_true, decide_false, decide_eq_true, decide_eq_false, beq_self_eq_true, BEq.rfl, beq_eq_false_iff_ne, Nat.zero_add, Nat.reduceAdd, Int.toNat_natCast, Bool.not_eq_true, decide_eq_false_iff_not, bne_iff_ne, ne_eq, not_true_eq_false, not_false_eq_true]
  refine ok_zlc hs (fun h => (h + by_) % n) (by simp (disch := omega) only [wipeZ, forget, okE_val, okE_exc, okE_bind, okS_st, okS_seq, okS_nx, okS_rt, okS_bk, okS_ct, okS_ex, okE_ofOpt, zseq, zdrop, zapp, zset, zsetF, zifS, ztru, ztst, zop, zcb, zcf, zacons, zanil, zc, zv, znil, zret, zcall, zfz, znew, zneg, zos, zon, zsl, zslF, ztup, zlst, zand, zor, znot, zif, zpar, zpar3, zasg, gN, gT2, gT3, zdnew, zdput, zmt1, zcnt1, zandV, zorV, znotV, zchain, zfrz, zbrk, zcnt, zopF, zpop0, zlput, zdget, zdin, zdnin, zdget2, zisi, ziA, ziQ, itemsQ, ziL, ziT, itemsL, itemsT, rng1_ok, rng2_ok, izs_len, izr_len, zipOf, enumOf, ofOpt, bind_val, bind_exc, st_val, st_exc, seq_nx, seq_rt, seq_ex, seq_bk, seq_ct, List.map_cons, List.map_nil, List.cons_append, List.nil_append, List.replicate, List.length_cons, List.length_nil, List.length_append, List.length_map, List.length_set, List.getElem?_cons_zero, List.getElem?_cons_succ, List.getElem?_nil, List.set_cons_zero, List.set_cons_succ, lstAt, res, resD, truS, truth, app2, on1, on2, lstOnly, lenS, allD_nil, allD_cons, Option.map_some, Option.map_none, Option.bind_some, Option.bind_none, dAdd, dSub, dMul_ok, dMod_ok, dDiv_ok, dLt, dLe, dGt, dGe, dEq_i, dEq_s, dEq_b, dNe_i, dNe_s, dNe_b, dEq_ti, dNe_ti, dEq_li, dNe_li, dIs, dIsNot, nonD, dIn, dNotIn, dIx, atI_0, atI_1, atI_2, dTup, dInt, dMin, dMax, dSum, dAll, dAny, intsOf_map, bolsOf_map, intsOf_nil, intsOf_cons, dMin2, dMax2, dAbs, keySl, Z.keyOf, putS, lim, retN_d, getLast0, setLast0, takeLast0, takeLast1, List.take_succ_cons, List.take_zero, List.take_length, List.take_nil, decide_eq_true_eq, beq_iff_eq, if_true, if_false, Bool.not_true, Bool.not_false, Bool.not_eq_true', Bool.false_eq_true, Bool.true_eq_false, reduceIte, if_pos, if_neg, Nat.add_eq, List.isEmpty_cons, List.isEmpty_nil, Option.some.injEq, decide_true, decide_false, decide_eq_true, decide_eq_false, beq_self_eq_true, BEq.rfl, beq_eq_false_iff_ne, Nat.zero_add, Nat.reduceAdd, Int.toNat_natCast, Bool.not_eq_true, decide_eq_false_iff_not, bne_iff_ne, ne_eq, not_true_eq_false, not_false_eq_true]) (by omega) (fun x hx => by simp (disch := omega) only [wipeZ, forget, okE_val, okE_exc, okE_bind, okS_st, okS_seq, okS_nx, okS_rt, okS_bk, okS_ct, okS_ex, okE_ofOpt, zseq, zdrop, zapp, zset, zsetF, zifS, ztru, ztst, zop, zcb, zcf, zacons, zanil, zc, zv, znil, zret, zcall, zfz, znew, zneg, zos, zon, zsl, zslF, ztup, zlst, zand, zor, znot, zif, zpar, zpar3, zasg, gN, gT2, gT3, zdnew, zdput, zmt1, zcnt1, zandV, zorV, znotV, zchain, zfrz, zbrk, zcnt, zopF, zpop0, zlput, zdget, zdin, zdnin, zdget2, zisi, ziA, ziQ, itemsQ, ziL, ziT, itemsL, itemsT, rng1_ok, rng2_ok, izs_len, izr_len, zipOf, enumOf, ofOpt, bind_val, bind_exc, st_val, st_exc, seq_nx, seq_rt, seq_ex, seq_bk, seq_ct, List.map_cons, List.map_nil, List.cons_append, List.nil_append, List.replicate, List.length_cons, List.length_nil, List.length_append, List.length_map, List.length_set, List.getElem?_cons_zero, List.getElem?_cons_succ, List.getElem?_nil, List.set_cons_zero, List.set_cons_succ, lstAt, res, resD, truS, truth, app2, on1, on2, lstOnly, lenS, allD_nil, allD_cons, Option.map_some, Option.map_none, Option.bind_some, Option.bind_none, dAdd, dSub, dMul_ok, dMod_ok, dDiv_ok, dLt, dLe, dGt, dGe, dEq_i, dEq_s, dEq_b, dNe_i, dNe_s, dNe_b, dEq_ti, dNe_ti, dEq_li, dNe_li, dIs, dIsNot, nonD, dIn, dNotIn, dIx, atI_0, atI_1, atI_2, dTup, dInt, dMin, dMax, dSum, dAll, dAny, intsOf_map, bolsOf_map, intsOf_nil, intsOf_cons, dMin2, dMax2, dAbs, keySl, Z.keyOf, putS, lim, retN_d, getLast0, setLast0, takeLast0, takeLast1, List.take_succ_cons, List.take_zero, List.take_length, List.take_nil, decide_eq_true_eq, beq_iff_eq, if_true, if_false, Bool.not_true, Bool.not_false, Bool.not_eq_true', Bool.false_eq_true, Bool.true_eq_false, reduceIte, if_pos, if_neg, Nat.add_eq, List.isEmpty_cons, List.isEmpty_nil, Option.some.injEq, decide_true, decide_false, decide_eq_true, decide_eq_false, beq_self_eq_true, BEq.rfl, beq_eq_false_iff_ne, Nat.zero_add, Nat.reduceAdd, Int.toNat_natCast, Bool.not_eq_true, decide_eq_false_iff_not, bne_iff_ne, ne_eq, not_true_eq_false, not_false_eq_true, rest_ok (show 0 < n ∧ n < 1000000 by omega)]) ?_
  have td := turned_drum (by_ := by_) hd
  have tl : (isort (hs.map fun h => (h + by_) % n)).length ≤ 3 := by
    rw [isort_len, List.length_map]
    omega
  have r1 : rt n (isort (hs.map fun h => (h + by_) % n)) ((s + by_) % n) t = rt n hs s t := by
    rw [rt_perm (isort_perm _), rt_map (s := s) (t := t) (fun h => (h + by_) % n) hne fun x _ => ?_]
    · omega
    · have e1 : (s + by_) % n - (x + by_) % n - t = (s + by_) % n - ((x + by_) % n + t) := by omega
      have e2 : s + by_ - ((x + by_) % n + t) = (s + by_ - t) - (x + by_) % n := by omega
      rw [e1, Int.emod_sub_emod, e2, Int.sub_emod_emod]
      congr 1
      omega
  have r2 : rt n hs ((s + by_) % n) (t + by_) = rt n hs s t + by_ := by
    rw [rt_same (s := s) (t := t) hne fun x _ => ?_]
    · omega
    · have e1 : (s + by_) % n - x - (t + by_) = (s + by_) % n - (x + (t + by_)) := by omega
      rw [e1, Int.emod_sub_emod]
      congr 1
      omega
  have r3 : rt n hs s (t + n) = rt n hs s t + n := by
    rw [rt_same (s := s) (t := t) hne fun x _ => ?_]
    · omega
    · have e1 : s - x - (t + n) = (s - x - t) - n := by omega
      rw [e1, Int.sub_emod_right]
  try simp (disch := omega) only [wipeZ, forget, okE_val, okE_exc, okE_bind, okS_st, okS_seq, okS_nx, okS_rt, okS_bk, okS_ct, okS_ex, okE_ofOpt, zdrop, zapp, zset, zsetF, zifS, ztru, ztst, zop, zcb, zcf, zacons, zanil, zc, zv, znil, zret, zcall, zfz, znew, zneg, zos, zon, zsl, zslF, ztup, zlst, zand, zor, znot, zif, zpar, zpar3, zasg, gN, gT2, gT3, zdnew, zdput, zmt1, zcnt1, zandV, zorV, znotV, zchain, zfrz, zbrk, zcnt, zopF, zpop0, zlput, zdget, zdin, zdnin, zdget2, zisi, ziA, ziQ, itemsQ, ziL, ziT, itemsL, itemsT, rng1_ok, rng2_ok, izs_len, izr_len, zipOf, enumOf, ofOpt, bind_val, bind_exc, st_val, st_exc, seq_nx, seq_rt, seq_ex, seq_bk, seq_ct, List.map_cons, List.map_nil, List.cons_append, List.nil_append, List.replicate, List.length_cons, List.length_nil, List.length_append, List.length_map, List.length_set, List.getElem?_cons_zero, List.getElem?_cons_succ, List.getElem?_nil, List.set_cons_zero, List.set_cons_succ, lstAt, res, resD, truS, truth, app2, on1, on2, lstOnly, lenS, allD_nil, allD_cons, Option.map_some, Option.map_none, Option.bind_some, Option.bind_none, dAdd, dSub, dMul_ok, dMod_ok, dDiv_ok, dLt, dLe, dGt, dGe, dEq_i, dEq_s, dEq_b, dNe_i, dNe_s, dNe_b, dEq_ti, dNe_ti, dEq_li, dNe_li, dIs, dIsNot, nonD, dIn, dNotIn, dIx, atI_0, atI_1, atI_2, dTup, dInt, dMin, dMax, dSum, dAll, dAny, intsOf_map, bolsOf_map, intsOf_nil, intsOf_cons, dMin2, dMax2, dAbs, keySl, Z.keyOf, putS, lim, retN_d, getLast0, setLast0, takeLast0, takeLast1, List.take_succ_cons, List.take_zero, List.take_length, List.take_nil, decide_eq_true_eq, beq_iff_eq, if_true, if_false, Bool.not_true, Bool.not_false, Bool.not_eq_true', Bool.false_eq_true, Bool.true_eq_false, reduceIte, if_pos, if_neg, Nat.add_eq, List.isEmpty_cons, List.isEmpty_nil, Option.some.injEq, decide_true, decide_false, decide_eq_true, decide_eq_false, beq_self_eq_true, BEq.rfl, beq_eq_false_iff_ne, Nat.zero_add, Nat.reduceAdd, Int.toNat_natCast, Bool.not_eq_true, decide_eq_false_iff_not, bne_iff_ne, ne_eq, not_true_eq_false, not_false_eq_true, srtS]
  refine ok_seq ?_
  have rk := fun a b => read_time_ok (n := n) (hs := isort (hs.map fun h => (h + by_) % n)) (spot := a) (t := b) (S := S) hn td.ne (by omega)
  have rr := fun x => rest_ok (x := x) (b := n) (S := S) (by omega)
  have dk := is_drum_ok (S := S) td tl h4 h24
  try simp (disch := omega) only [wipeZ, forget, okE_val, okE_exc, okE_bind, okS_st, okS_seq, okS_nx, okS_rt, okS_bk, okS_ct, okS_ex, okE_ofOpt, zdrop, zapp, zset, zsetF, zifS, ztru, ztst, zop, zcb, zcf, zacons, zanil, zc, zv, znil, zret, zcall, zfz, znew, zneg, zos, zon, zsl, zslF, ztup, zlst, zand, zor, znot, zif, zpar, zpar3, zasg, gN, gT2, gT3, zdnew, zdput, zmt1, zcnt1, zandV, zorV, znotV, zchain, zfrz, zbrk, zcnt, zopF, zpop0, zlput, zdget, zdin, zdnin, zdget2, zisi, ziA, ziQ, itemsQ, ziL, ziT, itemsL, itemsT, rng1_ok, rng2_ok, izs_len, izr_len, zipOf, enumOf, ofOpt, bind_val, bind_exc, st_val, st_exc, seq_nx, seq_rt, seq_ex, seq_bk, seq_ct, List.map_cons, List.map_nil, List.cons_append, List.nil_append, List.replicate, List.length_cons, List.length_nil, List.length_append, List.length_map, List.length_set, List.getElem?_cons_zero, List.getElem?_cons_succ, List.getElem?_nil, List.set_cons_zero, List.set_cons_succ, lstAt, res, resD, truS, truth, app2, on1, on2, lstOnly, lenS, allD_nil, allD_cons, Option.map_some, Option.map_none, Option.bind_some, Option.bind_none, dAdd, dSub, dMul_ok, dMod_ok, dDiv_ok, dLt, dLe, dGt, dGe, dEq_i, dEq_s, dEq_b, dNe_i, dNe_s, dNe_b, dEq_ti, dNe_ti, dEq_li, dNe_li, dIs, dIsNot, nonD, dIn, dNotIn, dIx, atI_0, atI_1, atI_2, dTup, dInt, dMin, dMax, dSum, dAll, dAny, intsOf_map, bolsOf_map, intsOf_nil, intsOf_cons, dMin2, dMax2, dAbs, keySl, Z.keyOf, putS, lim, retN_d, getLast0, setLast0, takeLast0, takeLast1, List.take_succ_cons, List.take_zero, List.take_length, List.take_nil, decide_eq_true_eq, beq_iff_eq, if_true, if_false, Bool.not_true, Bool.not_false, Bool.not_eq_true', Bool.false_eq_true, Bool.true_eq_false, reduceIte, if_pos, if_neg, Nat.add_eq, List.isEmpty_cons, List.isEmpty_nil, Option.some.injEq, decide_true, decide_false, decide_eq_true, decide_eq_false, beq_self_eq_true, BEq.rfl, beq_eq_false_iff_ne, Nat.zero_add, Nat.reduceAdd, Int.toNat_natCast, Bool.not_eq_true, decide_eq_false_iff_not, bne_iff_ne, ne_eq, not_true_eq_false, not_false_eq_true, rr, rk, r1, dk]
  refine ok_seq ?_
  try simp (disch := omega) only [wipeZ, forget, okE_val, okE_exc, okE_bind, okS_st, okS_seq, okS_nx, okS_rt, okS_bk, okS_ct, okS_ex, okE_ofOpt, zdrop, zapp, zset, zsetF, zifS, ztru, ztst, zop, zcb, zcf, zacons, zanil, zc, zv, znil, zret, zcall, zfz, znew, zneg, zos, zon, zsl, zslF, ztup, zlst, zand, zor, znot, zif, zpar, zpar3, zasg, gN, gT2, gT3, zdnew, zdput, zmt1, zcnt1, zandV, zorV, znotV, zchain, zfrz, zbrk, zcnt, zopF, zpop0, zlput, zdget, zdin, zdnin, zdget2, zisi, ziA, ziQ, itemsQ, ziL, ziT, itemsL, itemsT, rng1_ok, rng2_ok, izs_len, izr_len, zipOf, enumOf, ofOpt, bind_val, bind_exc, st_val, st_exc, seq_nx, seq_rt, seq_ex, seq_bk, seq_ct, List.map_cons, List.map_nil, List.cons_append, List.nil_append, List.replicate, List.length_cons, List.length_nil, List.length_append, List.length_map, List.length_set, List.getElem?_cons_zero, List.getElem?_cons_succ, List.getElem?_nil, List.set_cons_zero, List.set_cons_succ, lstAt, res, resD, truS, truth, app2, on1, on2, lstOnly, lenS, allD_nil, allD_cons, Option.map_some, Option.map_none, Option.bind_some, Option.bind_none, dAdd, dSub, dMul_ok, dMod_ok, dDiv_ok, dLt, dLe, dGt, dGe, dEq_i, dEq_s, dEq_b, dNe_i, dNe_s, dNe_b, dEq_ti, dNe_ti, dEq_li, dNe_li, dIs, dIsNot, nonD, dIn, dNotIn, dIx, atI_0, atI_1, atI_2, dTup, dInt, dMin, dMax, dSum, dAll, dAny, intsOf_map, bolsOf_map, intsOf_nil, intsOf_cons, dMin2, dMax2, dAbs, keySl, Z.keyOf, putS, lim, retN_d, getLast0, setLast0, takeLast0, takeLast1, List.take_succ_cons, List.take_zero, List.take_length, List.take_nil, decide_eq_true_eq, beq_iff_eq, if_true, if_false, Bool.not_true, Bool.not_false, Bool.not_eq_true', Bool.false_eq_true, Bool.true_eq_false, reduceIte, if_pos, if_neg, Nat.add_eq, List.isEmpty_cons, List.isEmpty_nil, Option.some.injEq, decide_true, decide_false, decide_eq_true, decide_eq_false, beq_self_eq_true, BEq.rfl, beq_eq_false_iff_ne, Nat.zero_add, Nat.reduceAdd, Int.toNat_natCast, Bool.not_eq_true, decide_eq_false_iff_not, bne_iff_ne, ne_eq, not_true_eq_false, not_false_eq_true, rdt, rr, r2]
  try simp (disch := omega) only [wipeZ, forget, okE_val, okE_exc, okE_bind, okS_st, okS_seq, okS_nx, okS_rt, okS_bk, okS_ct, okS_ex, okE_ofOpt, zdrop, zapp, zset, zsetF, zifS, ztru, ztst, zop, zcb, zcf, zacons, zanil, zc, zv, znil, zret, zcall, zfz, znew, zneg, zos, zon, zsl, zslF, ztup, zlst, zand, zor, znot, zif, zpar, zpar3, zasg, gN, gT2, gT3, zdnew, zdput, zmt1, zcnt1, zandV, zorV, znotV, zchain, zfrz, zbrk, zcnt, zopF, zpop0, zlput, zdget, zdin, zdnin, zdget2, zisi, ziA, ziQ, itemsQ, ziL, ziT, itemsL, itemsT, rng1_ok, rng2_ok, izs_len, izr_len, zipOf, enumOf, ofOpt, bind_val, bind_exc, st_val, st_exc, seq_nx, seq_rt, seq_ex, seq_bk, seq_ct, List.map_cons, List.map_nil, List.cons_append, List.nil_append, List.replicate, List.length_cons, List.length_nil, List.length_append, List.length_map, List.length_set, List.getElem?_cons_zero, List.getElem?_cons_succ, List.getElem?_nil, List.set_cons_zero, List.set_cons_succ, lstAt, res, resD, truS, truth, app2, on1, on2, lstOnly, lenS, allD_nil, allD_cons, Option.map_some, Option.map_none, Option.bind_some, Option.bind_none, dAdd, dSub, dMul_ok, dMod_ok, dDiv_ok, dLt, dLe, dGt, dGe, dEq_i, dEq_s, dEq_b, dNe_i, dNe_s, dNe_b, dEq_ti, dNe_ti, dEq_li, dNe_li, dIs, dIsNot, nonD, dIn, dNotIn, dIx, atI_0, atI_1, atI_2, dTup, dInt, dMin, dMax, dSum, dAll, dAny, intsOf_map, bolsOf_map, intsOf_nil, intsOf_cons, dMin2, dMax2, dAbs, keySl, Z.keyOf, putS, lim, retN_d, getLast0, setLast0, takeLast0, takeLast1, List.take_succ_cons, List.take_zero, List.take_length, List.take_nil, decide_eq_true_eq, beq_iff_eq, if_true, if_false, Bool.not_true, Bool.not_false, Bool.not_eq_true', Bool.false_eq_true, Bool.true_eq_false, reduceIte, if_pos, if_neg, Nat.add_eq, List.isEmpty_cons, List.isEmpty_nil, Option.some.injEq, decide_true, decide_false, decide_eq_true, decide_eq_false, beq_self_eq_true, BEq.rfl, beq_eq_false_iff_ne, Nat.zero_add, Nat.reduceAdd, Int.toNat_natCast, Bool.not_eq_true, decide_eq_false_iff_not, bne_iff_ne, ne_eq, not_true_eq_false, not_false_eq_true, rdt, r3, and_self]
theorem b1_ok {n : Int} {hs : List Int} {s t : Int} {S : Sto} {g0 g1 g2 g4 g5 g7 g8 g10 g11 g12 : Option Sl} {D : Po} (hd : IsDrum n hs) (hl : hs.length ≤ 3) (h4 : 4 ≤ n) (h24 : n ≤ 24) (hs0 : 0 ≤ s) (hs1 : s < n) (ht : 0 ≤ t ∧ t < 90000)
    (hD : D.nx [g0, g1, g2, some (.d (dDrum n hs)), g4, g5, some (.d (.int t)), g7, g8, some (.d (.int s)), g10, g11, g12] S) :
    OkS (b1_law [g0, g1, g2, some (.d (dDrum n hs)), g4, g5, some (.d (.int t)), g7, g8, some (.d (.int s)), g10, g11, g12] S) D := by
  unfold b1_law
  have e := read_holds_ok (S := S) hd hl h4 h24 hs0 hs1 ht
  try simp (disch := omega) only [wipeZ, forget, okE_val, okE_exc, okE_bind, okS_st, okS_seq, okS_nx, okS_rt, okS_bk, okS_ct, okS_ex, okE_ofOpt, zdrop, zapp, zset, zsetF, zifS, ztru, ztst, zop, zcb, zcf, zacons, zanil, zc, zv, znil, zret, zcall, zfz, znew, zneg, zos, zon, zsl, zslF, ztup, zlst, zand, zor, znot, zif, zpar, zpar3, zasg, gN, gT2, gT3, zdnew, zdput, zmt1, zcnt1, zandV, zorV, znotV, zchain, zfrz, zbrk, zcnt, zopF, zpop0, zlput, zdget, zdin, zdnin, zdget2, zisi, ziA, ziQ, itemsQ, ziL, ziT, itemsL, itemsT, rng1_ok, rng2_ok, izs_len, izr_len, zipOf, enumOf, ofOpt, bind_val, bind_exc, st_val, st_exc, seq_nx, seq_rt, seq_ex, seq_bk, seq_ct, List.map_cons, List.map_nil, List.cons_append, List.nil_append, List.replicate, List.length_cons, List.length_nil, List.length_append, List.length_map, List.length_set, List.getElem?_cons_zero, List.getElem?_cons_succ, List.getElem?_nil, List.set_cons_zero, List.set_cons_succ, lstAt, res, resD, truS, truth, app2, on1, on2, lstOnly, lenS, allD_nil, allD_cons, Option.map_some, Option.map_none, Option.bind_some, Option.bind_none, dAdd, dSub, dMul_ok, dMod_ok, dDiv_ok, dLt, dLe, dGt, dGe, dEq_i, dEq_s, dEq_b, dNe_i, dNe_s, dNe_b, dEq_ti, dNe_ti, dEq_li, dNe_li, dIs, dIsNot, nonD, dIn, dNotIn, dIx, atI_0, atI_1, atI_2, dTup, dInt, dMin, dMax, dSum, dAll, dAny, intsOf_map, bolsOf_map, intsOf_nil, intsOf_cons, dMin2, dMax2, dAbs, keySl, Z.keyOf, putS, lim, retN_d, getLast0, setLast0, takeLast0, takeLast1, List.take_succ_cons, List.take_zero, List.take_length, List.take_nil, decide_eq_true_eq, beq_iff_eq, if_true, if_false, Bool.not_true, Bool.not_false, Bool.not_eq_true', Bool.false_eq_true, Bool.true_eq_false, reduceIte, if_pos, if_neg, Nat.add_eq, List.isEmpty_cons, List.isEmpty_nil, Option.some.injEq, decide_true, decide_false, decide_eq_true, decide_eq_false, beq_self_eq_true, BEq.rfl, beq_eq_false_iff_ne, Nat.zero_add, Nat.reduceAdd, Int.toNat_natCast, Bool.not_eq_true, decide_eq_false_iff_not, bne_iff_ne, ne_eq, not_true_eq_false, not_false_eq_true, e]
  exact hD
theorem body_ok {ns : List Int} {tw : List PyData} {g2 g3 g4 g5 g6 g7 g8 g9 g10 g11 g12 : Option Sl} {D : Po} (ht : tw.length < 1000) (hD : ∀ (tw' : List PyData) (R : Sto) (g2 g3 g4 g5 g6 g7 g8 g9 g10 g11 g12 : Option Sl), tw'.length ≤ tw.length + 9 → D.nx [some (.box 0), some (.box 1), g2, g3, g4, g5, g6, g7, g8, g9, g10, g11, g12] (.scr ns :: .lst tw' :: R)) :
    OkS (b2_law [some (.box 0), some (.box 1), g2, g3, g4, g5, g6, g7, g8, g9, g10, g11, g12] [.scr ns, .lst tw]) D := by
  unfold b2_law
  refine ok_seq ?_
  try simp (disch := omega) only [wipeZ, forget, okE_val, okE_exc, okE_bind, okS_st, okS_seq, okS_nx, okS_rt, okS_bk, okS_ct, okS_ex, okE_ofOpt, zdrop, zapp, zset, zsetF, zifS, ztru, ztst, zop, zcb, zcf, zacons, zanil, zc, zv, znil, zret, zcall, zfz, znew, zneg, zos, zon, zsl, zslF, ztup, zlst, zand, zor, znot, zif, zpar, zpar3, zasg, gN, gT2, gT3, zdnew, zdput, zmt1, zcnt1, zandV, zorV, znotV, zchain, zfrz, zbrk, zcnt, zopF, zpop0, zlput, zdget, zdin, zdnin, zdget2, zisi, ziA, ziQ, itemsQ, ziL, ziT, itemsL, itemsT, rng1_ok, rng2_ok, izs_len, izr_len, zipOf, enumOf, ofOpt, bind_val, bind_exc, st_val, st_exc, seq_nx, seq_rt, seq_ex, seq_bk, seq_ct, List.map_cons, List.map_nil, List.cons_append, List.nil_append, List.replicate, List.length_cons, List.length_nil, List.length_append, List.length_map, List.length_set, List.getElem?_cons_zero, List.getElem?_cons_succ, List.getElem?_nil, List.set_cons_zero, List.set_cons_succ, lstAt, res, resD, truS, truth, app2, on1, on2, lstOnly, lenS, allD_nil, allD_cons, Option.map_some, Option.map_none, Option.bind_some, Option.bind_none, dAdd, dSub, dMul_ok, dMod_ok, dDiv_ok, dLt, dLe, dGt, dGe, dEq_i, dEq_s, dEq_b, dNe_i, dNe_s, dNe_b, dEq_ti, dNe_ti, dEq_li, dNe_li, dIs, dIsNot, nonD, dIn, dNotIn, dIx, atI_0, atI_1, atI_2, dTup, dInt, dMin, dMax, dSum, dAll, dAny, intsOf_map, bolsOf_map, intsOf_nil, intsOf_cons, dMin2, dMax2, dAbs, keySl, Z.keyOf, putS, lim, retN_d, getLast0, setLast0, takeLast0, takeLast1, List.take_succ_cons, List.take_zero, List.take_length, List.take_nil, decide_eq_true_eq, beq_iff_eq, if_true, if_false, Bool.not_true, Bool.not_false, Bool.not_eq_true', Bool.false_eq_true, Bool.true_eq_false, reduceIte, if_pos, if_neg, Nat.add_eq, List.isEmpty_cons, List.isEmpty_nil, Option.some.injEq, decide_true, decide_false, decide_eq_true, decide_eq_false, beq_self_eq_true, BEq.rfl, beq_eq_false_iff_ne, Nat.zero_add, Nat.reduceAdd, Int.toNat_natCast, Bool.not_eq_true, decide_eq_false_iff_not, bne_iff_ne, ne_eq, not_true_eq_false, not_false_eq_true]
  refine drum_ok (by omega) (by omega) (by omega) fun n hs tw1 b1 b2 b3 b4 b5 => ?_
  have hne := b4.ne
  have hn : 0 < n := by omega
  refine ok_seq ?_
  try simp (disch := omega) only [wipeZ, forget, okE_val, okE_exc, okE_bind, okS_st, okS_seq, okS_nx, okS_rt, okS_bk, okS_ct, okS_ex, okE_ofOpt, zdrop, zapp, zset, zsetF, zifS, ztru, ztst, zop, zcb, zcf, zacons, zanil, zc, zv, znil, zret, zcall, zfz, znew, zneg, zos, zon, zsl, zslF, ztup, zlst, zand, zor, znot, zif, zpar, zpar3, zasg, gN, gT2, gT3, zdnew, zdput, zmt1, zcnt1, zandV, zorV, znotV, zchain, zfrz, zbrk, zcnt, zopF, zpop0, zlput, zdget, zdin, zdnin, zdget2, zisi, ziA, ziQ, itemsQ, ziL, ziT, itemsL, itemsT, rng1_ok, rng2_ok, izs_len, izr_len, zipOf, enumOf, ofOpt, bind_val, bind_exc, st_val, st_exc, seq_nx, seq_rt, seq_ex, seq_bk, seq_ct, List.map_cons, List.map_nil, List.cons_append, List.nil_append, List.replicate, List.length_cons, List.length_nil, List.length_append, List.length_map, List.length_set, List.getElem?_cons_zero, List.getElem?_cons_succ, List.getElem?_nil, List.set_cons_zero, List.set_cons_succ, lstAt, res, resD, truS, truth, app2, on1, on2, lstOnly, lenS, allD_nil, allD_cons, Option.map_some, Option.map_none, Option.bind_some, Option.bind_none, dAdd, dSub, dMul_ok, dMod_ok, dDiv_ok, dLt, dLe, dGt, dGe, dEq_i, dEq_s, dEq_b, dNe_i, dNe_s, dNe_b, dEq_ti, dNe_ti, dEq_li, dNe_li, dIs, dIsNot, nonD, dIn, dNotIn, dIx, atI_0, atI_1, atI_2, dTup, dInt, dMin, dMax, dSum, dAll, dAny, intsOf_map, bolsOf_map, intsOf_nil, intsOf_cons, dMin2, dMax2, dAbs, keySl, Z.keyOf, putS, lim, retN_d, getLast0, setLast0, takeLast0, takeLast1, List.take_succ_cons, List.take_zero, List.take_length, List.take_nil, decide_eq_true_eq, beq_iff_eq, if_true, if_false, Bool.not_true, Bool.not_false, Bool.not_eq_true', Bool.false_eq_true, Bool.true_eq_false, reduceIte, if_pos, if_neg, Nat.add_eq, List.isEmpty_cons, List.isEmpty_nil, Option.some.injEq, decide_true, decide_false, decide_eq_true, decide_eq_false, beq_self_eq_true, BEq.rfl, beq_eq_false_iff_ne, Nat.zero_add, Nat.reduceAdd, Int.toNat_natCast, Bool.not_eq_true, decide_eq_false_iff_not, bne_iff_ne, ne_eq, not_true_eq_false, not_false_eq_true]
  refine ok_seq ?_
  try simp (disch := omega) only [wipeZ, forget, okE_val, okE_exc, okE_bind, okS_st, okS_seq, okS_nx, okS_rt, okS_bk, okS_ct, okS_ex, okE_ofOpt, zdrop, zapp, zset, zsetF, zifS, ztru, ztst, zop, zcb, zcf, zacons, zanil, zc, zv, znil, zret, zcall, zfz, znew, zneg, zos, zon, zsl, zslF, ztup, zlst, zand, zor, znot, zif, zpar, zpar3, zasg, gN, gT2, gT3, zdnew, zdput, zmt1, zcnt1, zandV, zorV, znotV, zchain, zfrz, zbrk, zcnt, zopF, zpop0, zlput, zdget, zdin, zdnin, zdget2, zisi, ziA, ziQ, itemsQ, ziL, ziT, itemsL, itemsT, rng1_ok, rng2_ok, izs_len, izr_len, zipOf, enumOf, ofOpt, bind_val, bind_exc, st_val, st_exc, seq_nx, seq_rt, seq_ex, seq_bk, seq_ct, List.map_cons, List.map_nil, List.cons_append, List.nil_append, List.replicate, List.length_cons, List.length_nil, List.length_append, List.length_map, List.length_set, List.getElem?_cons_zero, List.getElem?_cons_succ, List.getElem?_nil, List.set_cons_zero, List.set_cons_succ, lstAt, res, resD, truS, truth, app2, on1, on2, lstOnly, lenS, allD_nil, allD_cons, Option.map_some, Option.map_none, Option.bind_some, Option.bind_none, dAdd, dSub, dMul_ok, dMod_ok, dDiv_ok, dLt, dLe, dGt, dGe, dEq_i, dEq_s, dEq_b, dNe_i, dNe_s, dNe_b, dEq_ti, dNe_ti, dEq_li, dNe_li, dIs, dIsNot, nonD, dIn, dNotIn, dIx, atI_0, atI_1, atI_2, dTup, dInt, dMin, dMax, dSum, dAll, dAny, intsOf_map, bolsOf_map, intsOf_nil, intsOf_cons, dMin2, dMax2, dAbs, keySl, Z.keyOf, putS, lim, retN_d, getLast0, setLast0, takeLast0, takeLast1, List.take_succ_cons, List.take_zero, List.take_length, List.take_nil, decide_eq_true_eq, beq_iff_eq, if_true, if_false, Bool.not_true, Bool.not_false, Bool.not_eq_true', Bool.false_eq_true, Bool.true_eq_false, reduceIte, if_pos, if_neg, Nat.add_eq, List.isEmpty_cons, List.isEmpty_nil, Option.some.injEq, decide_true, decide_false, decide_eq_true, decide_eq_false, beq_self_eq_true, BEq.rfl, beq_eq_false_iff_ne, Nat.zero_add, Nat.reduceAdd, Int.toNat_natCast, Bool.not_eq_true, decide_eq_false_iff_not, bne_iff_ne, ne_eq, not_true_eq_false, not_false_eq_true]
  refine pickL_ok (by omega) (by simp) fun v hv => ?_
  have hv : ∃ m : Int, v = .int m ∧ 0 < m ∧ m ≤ 900 := by
    simp at hv
    rcases hv with rfl | rfl
    · exact ⟨9, rfl, by omega, by omega⟩
    · exact ⟨900, rfl, by omega, by omega⟩
  obtain ⟨m, rfl, m0, m1⟩ := hv
  try simp (disch := omega) only [wipeZ, forget, okE_val, okE_exc, okE_bind, okS_st, okS_seq, okS_nx, okS_rt, okS_bk, okS_ct, okS_ex, okE_ofOpt, zdrop, zapp, zset, zsetF, zifS, ztru, ztst, zop, zcb, zcf, zacons, zanil, zc, zv, znil, zret, zcall, zfz, znew, zneg, zos, zon, zsl, zslF, ztup, zlst, zand, zor, znot, zif, zpar, zpar3, zasg, gN, gT2, gT3, zdnew, zdput, zmt1, zcnt1, zandV, zorV, znotV, zchain, zfrz, zbrk, zcnt, zopF, zpop0, zlput, zdget, zdin, zdnin, zdget2, zisi, ziA, ziQ, itemsQ, ziL, ziT, itemsL, itemsT, rng1_ok, rng2_ok, izs_len, izr_len, zipOf, enumOf, ofOpt, bind_val, bind_exc, st_val, st_exc, seq_nx, seq_rt, seq_ex, seq_bk, seq_ct, List.map_cons, List.map_nil, List.cons_append, List.nil_append, List.replicate, List.length_cons, List.length_nil, List.length_append, List.length_map, List.length_set, List.getElem?_cons_zero, List.getElem?_cons_succ, List.getElem?_nil, List.set_cons_zero, List.set_cons_succ, lstAt, res, resD, truS, truth, app2, on1, on2, lstOnly, lenS, allD_nil, allD_cons, Option.map_some, Option.map_none, Option.bind_some, Option.bind_none, dAdd, dSub, dMul_ok, dMod_ok, dDiv_ok, dLt, dLe, dGt, dGe, dEq_i, dEq_s, dEq_b, dNe_i, dNe_s, dNe_b, dEq_ti, dNe_ti, dEq_li, dNe_li, dIs, dIsNot, nonD, dIn, dNotIn, dIx, atI_0, atI_1, atI_2, dTup, dInt, dMin, dMax, dSum, dAll, dAny, intsOf_map, bolsOf_map, intsOf_nil, intsOf_cons, dMin2, dMax2, dAbs, keySl, Z.keyOf, putS, lim, retN_d, getLast0, setLast0, takeLast0, takeLast1, List.take_succ_cons, List.take_zero, List.take_length, List.take_nil, decide_eq_true_eq, beq_iff_eq, if_true, if_false, Bool.not_true, Bool.not_false, Bool.not_eq_true', Bool.false_eq_true, Bool.true_eq_false, reduceIte, if_pos, if_neg, Nat.add_eq, List.isEmpty_cons, List.isEmpty_nil, Option.some.injEq, decide_true, decide_false, decide_eq_true, decide_eq_false, beq_self_eq_true, BEq.rfl, beq_eq_false_iff_ne, Nat.zero_add, Nat.reduceAdd, Int.toNat_natCast, Bool.not_eq_true, decide_eq_false_iff_not, bne_iff_ne, ne_eq, not_true_eq_false, not_false_eq_true]
  refine draw_ok (by simp; omega) m0 fun t t0 t1 => ?_
  try simp (disch := omega) only [wipeZ, forget, okE_val, okE_exc, okE_bind, okS_st, okS_seq, okS_nx, okS_rt, okS_bk, okS_ct, okS_ex, okE_ofOpt, zdrop, zapp, zset, zsetF, zifS, ztru, ztst, zop, zcb, zcf, zacons, zanil, zc, zv, znil, zret, zcall, zfz, znew, zneg, zos, zon, zsl, zslF, ztup, zlst, zand, zor, znot, zif, zpar, zpar3, zasg, gN, gT2, gT3, zdnew, zdput, zmt1, zcnt1, zandV, zorV, znotV, zchain, zfrz, zbrk, zcnt, zopF, zpop0, zlput, zdget, zdin, zdnin, zdget2, zisi, ziA, ziQ, itemsQ, ziL, ziT, itemsL, itemsT, rng1_ok, rng2_ok, izs_len, izr_len, zipOf, enumOf, ofOpt, bind_val, bind_exc, st_val, st_exc, seq_nx, seq_rt, seq_ex, seq_bk, seq_ct, List.map_cons, List.map_nil, List.cons_append, List.nil_append, List.replicate, List.length_cons, List.length_nil, List.length_append, List.length_map, List.length_set, List.getElem?_cons_zero, List.getElem?_cons_succ, List.getElem?_nil, List.set_cons_zero, List.set_cons_succ, lstAt, res, resD, truS, truth, app2, on1, on2, lstOnly, lenS, allD_nil, allD_cons, Option.map_some, Option.map_none, Option.bind_some, Option.bind_none, dAdd, dSub, dMul_ok, dMod_ok, dDiv_ok, dLt, dLe, dGt, dGe, dEq_i, dEq_s, dEq_b, dNe_i, dNe_s, dNe_b, dEq_ti, dNe_ti, dEq_li, dNe_li, dIs, dIsNot, nonD, dIn, dNotIn, dIx, atI_0, atI_1, atI_2, dTup, dInt, dMin, dMax, dSum, dAll, dAny, intsOf_map, bolsOf_map, intsOf_nil, intsOf_cons, dMin2, dMax2, dAbs, keySl, Z.keyOf, putS, lim, retN_d, getLast0, setLast0, takeLast0, takeLast1, List.take_succ_cons, List.take_zero, List.take_length, List.take_nil, decide_eq_true_eq, beq_iff_eq, if_true, if_false, Bool.not_true, Bool.not_false, Bool.not_eq_true', Bool.false_eq_true, Bool.true_eq_false, reduceIte, if_pos, if_neg, Nat.add_eq, List.isEmpty_cons, List.isEmpty_nil, Option.some.injEq, decide_true, decide_false, decide_eq_true, decide_eq_false, beq_self_eq_true, BEq.rfl, beq_eq_false_iff_ne, Nat.zero_add, Nat.reduceAdd, Int.toNat_natCast, Bool.not_eq_true, decide_eq_false_iff_not, bne_iff_ne, ne_eq, not_true_eq_false, not_false_eq_true]
  refine draw_ok (by simp; omega) hn fun s s0 s1 => ?_
  try simp (disch := omega) only [wipeZ, forget, okE_val, okE_exc, okE_bind, okS_st, okS_seq, okS_nx, okS_rt, okS_bk, okS_ct, okS_ex, okE_ofOpt, zdrop, zapp, zset, zsetF, zifS, ztru, ztst, zop, zcb, zcf, zacons, zanil, zc, zv, znil, zret, zcall, zfz, znew, zneg, zos, zon, zsl, zslF, ztup, zlst, zand, zor, znot, zif, zpar, zpar3, zasg, gN, gT2, gT3, zdnew, zdput, zmt1, zcnt1, zandV, zorV, znotV, zchain, zfrz, zbrk, zcnt, zopF, zpop0, zlput, zdget, zdin, zdnin, zdget2, zisi, ziA, ziQ, itemsQ, ziL, ziT, itemsL, itemsT, rng1_ok, rng2_ok, izs_len, izr_len, zipOf, enumOf, ofOpt, bind_val, bind_exc, st_val, st_exc, seq_nx, seq_rt, seq_ex, seq_bk, seq_ct, List.map_cons, List.map_nil, List.cons_append, List.nil_append, List.replicate, List.length_cons, List.length_nil, List.length_append, List.length_map, List.length_set, List.getElem?_cons_zero, List.getElem?_cons_succ, List.getElem?_nil, List.set_cons_zero, List.set_cons_succ, lstAt, res, resD, truS, truth, app2, on1, on2, lstOnly, lenS, allD_nil, allD_cons, Option.map_some, Option.map_none, Option.bind_some, Option.bind_none, dAdd, dSub, dMul_ok, dMod_ok, dDiv_ok, dLt, dLe, dGt, dGe, dEq_i, dEq_s, dEq_b, dNe_i, dNe_s, dNe_b, dEq_ti, dNe_ti, dEq_li, dNe_li, dIs, dIsNot, nonD, dIn, dNotIn, dIx, atI_0, atI_1, atI_2, dTup, dInt, dMin, dMax, dSum, dAll, dAny, intsOf_map, bolsOf_map, intsOf_nil, intsOf_cons, dMin2, dMax2, dAbs, keySl, Z.keyOf, putS, lim, retN_d, getLast0, setLast0, takeLast0, takeLast1, List.take_succ_cons, List.take_zero, List.take_length, List.take_nil, decide_eq_true_eq, beq_iff_eq, if_true, if_false, Bool.not_true, Bool.not_false, Bool.not_eq_true', Bool.false_eq_true, Bool.true_eq_false, reduceIte, if_pos, if_neg, Nat.add_eq, List.isEmpty_cons, List.isEmpty_nil, Option.some.injEq, decide_true, decide_false, decide_eq_true, decide_eq_false, beq_self_eq_true, BEq.rfl, beq_eq_false_iff_ne, Nat.zero_add, Nat.reduceAdd, Int.toNat_natCast, Bool.not_eq_true, decide_eq_false_iff_not, bne_iff_ne, ne_eq, not_true_eq_false, not_false_eq_true]
  refine ok_seq ?_
  generalize htw : tw1 ++ [PyData.int 0] ++ [PyData.int 0] ++ [PyData.int 0] = tw2
  have tl : tw2.length ≤ tw.length + 8 := by
    rw [← htw]
    simp
    omega
  try simp (disch := omega) only [wipeZ, forget, okE_val, okE_exc, okE_bind, okS_st, okS_seq, okS_nx, okS_rt, okS_bk, okS_ct, okS_ex, okE_ofOpt, zdrop, zapp, zset, zsetF, zifS, ztru, ztst, zop, zcb, zcf, zacons, zanil, zc, zv, znil, zret, zcall, zfz, znew, zneg, zos, zon, zsl, zslF, ztup, zlst, zand, zor, znot, zif, zpar, zpar3, zasg, gN, gT2, gT3, zdnew, zdput, zmt1, zcnt1, zandV, zorV, znotV, zchain, zfrz, zbrk, zcnt, zopF, zpop0, zlput, zdget, zdin, zdnin, zdget2, zisi, ziA, ziQ, itemsQ, ziL, ziT, itemsL, itemsT, rng1_ok, rng2_ok, izs_len, izr_len, zipOf, enumOf, ofOpt, bind_val, bind_exc, st_val, st_exc, seq_nx, seq_rt, seq_ex, seq_bk, seq_ct, List.map_cons, List.map_nil, List.cons_append, List.nil_append, List.replicate, List.length_cons, List.length_nil, List.length_append, List.length_map, List.length_set, List.getElem?_cons_zero, List.getElem?_cons_succ, List.getElem?_nil, List.set_cons_zero, List.set_cons_succ, lstAt, res, resD, truS, truth, app2, on1, on2, lstOnly, lenS, allD_nil, allD_cons, Option.map_some, Option.map_none, Option.bind_some, Option.bind_none, dAdd, dSub, dMul_ok, dMod_ok, dDiv_ok, dLt, dLe, dGt, dGe, dEq_i, dEq_s, dEq_b, dNe_i, dNe_s, dNe_b, dEq_ti, dNe_ti, dEq_li, dNe_li, dIs, dIsNot, nonD, dIn, dNotIn, dIx, atI_0, atI_1, atI_2, dTup, dInt, dMin, dMax, dSum, dAll, dAny, intsOf_map, bolsOf_map, intsOf_nil, intsOf_cons, dMin2, dMax2, dAbs, keySl, Z.keyOf, putS, lim, retN_d, getLast0, setLast0, takeLast0, takeLast1, List.take_succ_cons, List.take_zero, List.take_length, List.take_nil, decide_eq_true_eq, beq_iff_eq, if_true, if_false, Bool.not_true, Bool.not_false, Bool.not_eq_true', Bool.false_eq_true, Bool.true_eq_false, reduceIte, if_pos, if_neg, Nat.add_eq, List.isEmpty_cons, List.isEmpty_nil, Option.some.injEq, decide_true, decide_false, decide_eq_true, decide_eq_false, beq_self_eq_true, BEq.rfl, beq_eq_false_iff_ne, Nat.zero_add, Nat.reduceAdd, Int.toNat_natCast, Bool.not_eq_true, decide_eq_false_iff_not, bne_iff_ne, ne_eq, not_true_eq_false, not_false_eq_true]
  refine ok_zlc hs (fun h => (t + h) % n) (by simp (disch := omega) only [wipeZ, forget, okE_val, okE_exc, okE_bind, okS_st, okS_seq, okS_nx, okS_rt, okS_bk, okS_ct, okS_ex, okE_ofOpt, zseq, zdrop, zapp, zset, zsetF, zifS, ztru, ztst, zop, zcb, zcf, zacons, zanil, zc, zv, znil, zret, zcall, zfz, znew, zneg, zos, zon, zsl, zslF, ztup, zlst, zand, zor, znot, zif, zpar, zpar3, zasg, gN, gT2, gT3, zdnew, zdput, zmt1, zcnt1, zandV, zorV, znotV, zchain, zfrz, zbrk, zcnt, zopF, zpop0, zlput, zdget, zdin, zdnin, zdget2, zisi, ziA, ziQ, itemsQ, ziL, ziT, itemsL, itemsT, rng1_ok, rng2_ok, izs_len, izr_len, zipOf, enumOf, ofOpt, bind_val, bind_exc, st_val, st_exc, seq_nx, seq_rt, seq_ex, seq_bk, seq_ct, List.map_cons, List.map_nil, List.cons_append, List.nil_append, List.replicate, List.length_cons, List.length_nil, List.length_append, List.length_map, List.length_set, List.getElem?_cons_zero, List.getElem?_cons_succ, List.getElem?_nil, List.set_cons_zero, List.set_cons_succ, lstAt, res, resD, truS, truth, app2, on1, on2, lstOnly, lenS, allD_nil, allD_cons, Option.map_some, Option.map_none, Option.bind_some, Option.bind_none, dAdd, dSub, dMul_ok, dMod_ok, dDiv_ok, dLt, dLe, dGt, dGe, dEq_i, dEq_s, dEq_b, dNe_i, dNe_s, dNe_b, dEq_ti, dNe_ti, dEq_li, dNe_li, dIs, dIsNot, nonD, dIn, dNotIn, dIx, atI_0, atI_1, atI_2, dTup, dInt, dMin, dMax, dSum, dAll, dAny, intsOf_map, bolsOf_map, intsOf_nil, intsOf_cons, dMin2, dMax2, dAbs, keySl, Z.keyOf, putS, lim, retN_d, getLast0, setLast0, takeLast0, takeLast1, List.take_succ_cons, List.take_zero, List.take_length, List.take_nil, decide_eq_true_eq, beq_iff_eq, if_true, if_false, Bool.not_true, Bool.not_false, Bool.not_eq_true', Bool.false_eq_true, Bool.true_eq_false, reduceIte, if_pos, if_neg, Nat.add_eq, List.isEmpty_cons, List.isEmpty_nil, Option.some.injEq, decide_true, decide_false, decide_eq_true, decide_eq_false, beq_self_eq_true, BEq.rfl, beq_eq_false_iff_ne, Nat.zero_add, Nat.reduceAdd, Int.toNat_natCast, Bool.not_eq_true, decide_eq_false_iff_not, bne_iff_ne, ne_eq, not_true_eq_false, not_false_eq_true]) (by omega) (fun x hx => by simp (disch := omega) only [wipeZ, forget, okE_val, okE_exc, okE_bind, okS_st, okS_seq, okS_nx, okS_rt, okS_bk, okS_ct, okS_ex, okE_ofOpt, zseq, zdrop, zapp, zset, zsetF, zifS, ztru, ztst, zop, zcb, zcf, zacons, zanil, zc, zv, znil, zret, zcall, zfz, znew, zneg, zos, zon, zsl, zslF, ztup, zlst, zand, zor, znot, zif, zpar, zpar3, zasg, gN, gT2, gT3, zdnew, zdput, zmt1, zcnt1, zandV, zorV, znotV, zchain, zfrz, zbrk, zcnt, zopF, zpop0, zlput, zdget, zdin, zdnin, zdget2, zisi, ziA, ziQ, itemsQ, ziL, ziT, itemsL, itemsT, rng1_ok, rng2_ok, izs_len, izr_len, zipOf, enumOf, ofOpt, bind_val, bind_exc, st_val, st_exc, seq_nx, seq_rt, seq_ex, seq_bk, seq_ct, List.map_cons, List.map_nil, List.cons_append, List.nil_append, List.replicate, List.length_cons, List.length_nil, List.length_append, List.length_map, List.length_set, List.getElem?_cons_zero, List.getElem?_cons_succ, List.getElem?_nil, List.set_cons_zero, List.set_cons_succ, lstAt, res, resD, truS, truth, app2, on1, on2, lstOnly, lenS, allD_nil, allD_cons, Option.map_some, Option.map_none, Option.bind_some, Option.bind_none, dAdd, dSub, dMul_ok, dMod_ok, dDiv_ok, dLt, dLe, dGt, dGe, dEq_i, dEq_s, dEq_b, dNe_i, dNe_s, dNe_b, dEq_ti, dNe_ti, dEq_li, dNe_li, dIs, dIsNot, nonD, dIn, dNotIn, dIx, atI_0, atI_1, atI_2, dTup, dInt, dMin, dMax, dSum, dAll, dAny, intsOf_map, bolsOf_map, intsOf_nil, intsOf_cons, dMin2, dMax2, dAbs, keySl, Z.keyOf, putS, lim, retN_d, getLast0, setLast0, takeLast0, takeLast1, List.take_succ_cons, List.take_zero, List.take_length, List.take_nil, decide_eq_true_eq, beq_iff_eq, if_true, if_false, Bool.not_true, Bool.not_false, Bool.not_eq_true', Bool.false_eq_true, Bool.true_eq_false, reduceIte, if_pos, if_neg, Nat.add_eq, List.isEmpty_cons, List.isEmpty_nil, Option.some.injEq, decide_true, decide_false, decide_eq_true, decide_eq_false, beq_self_eq_true, BEq.rfl, beq_eq_false_iff_ne, Nat.zero_add, Nat.reduceAdd, Int.toNat_natCast, Bool.not_eq_true, decide_eq_false_iff_not, bne_iff_ne, ne_eq, not_true_eq_false, not_false_eq_true, rest_ok (show 0 < n ∧ n < 1000000 by omega)]) ?_
  have su : ∀ (a : Int) (S : Sto), F_spots_under [.d (dDrum n hs), .d (.int a)] S = .val (.d (.tuple ((hs.map fun h => (a + h) % n).map .int))) S := fun a S => spots_under_ok hn (by omega)
  have e1 : (hs.map fun h => (t + n + h) % n) = hs.map fun h => (t + h) % n := List.map_congr_left fun h _ => by
    have e : t + n + h = (t + h) + n := by omega
    rw [e, Int.add_emod_right]
  have e2 : (hs.map fun h => (0 + h) % n) = hs := by
    refine (List.map_congr_left fun h hh => ?_).trans (List.map_id' hs)
    have := b4.rg h hh
    rw [Int.zero_add]
    exact Int.emod_eq_of_lt this.1 this.2
  try simp (disch := omega) only [wipeZ, forget, okE_val, okE_exc, okE_bind, okS_st, okS_seq, okS_nx, okS_rt, okS_bk, okS_ct, okS_ex, okE_ofOpt, zdrop, zapp, zset, zsetF, zifS, ztru, ztst, zop, zcb, zcf, zacons, zanil, zc, zv, znil, zret, zcall, zfz, znew, zneg, zos, zon, zsl, zslF, ztup, zlst, zand, zor, znot, zif, zpar, zpar3, zasg, gN, gT2, gT3, zdnew, zdput, zmt1, zcnt1, zandV, zorV, znotV, zchain, zfrz, zbrk, zcnt, zopF, zpop0, zlput, zdget, zdin, zdnin, zdget2, zisi, ziA, ziQ, itemsQ, ziL, ziT, itemsL, itemsT, rng1_ok, rng2_ok, izs_len, izr_len, zipOf, enumOf, ofOpt, bind_val, bind_exc, st_val, st_exc, seq_nx, seq_rt, seq_ex, seq_bk, seq_ct, List.map_cons, List.map_nil, List.cons_append, List.nil_append, List.replicate, List.length_cons, List.length_nil, List.length_append, List.length_map, List.length_set, List.getElem?_cons_zero, List.getElem?_cons_succ, List.getElem?_nil, List.set_cons_zero, List.set_cons_succ, lstAt, res, resD, truS, truth, app2, on1, on2, lstOnly, lenS, allD_nil, allD_cons, Option.map_some, Option.map_none, Option.bind_some, Option.bind_none, dAdd, dSub, dMul_ok, dMod_ok, dDiv_ok, dLt, dLe, dGt, dGe, dEq_i, dEq_s, dEq_b, dNe_i, dNe_s, dNe_b, dEq_ti, dNe_ti, dEq_li, dNe_li, dIs, dIsNot, nonD, dIn, dNotIn, dIx, atI_0, atI_1, atI_2, dTup, dInt, dMin, dMax, dSum, dAll, dAny, intsOf_map, bolsOf_map, intsOf_nil, intsOf_cons, dMin2, dMax2, dAbs, keySl, Z.keyOf, putS, lim, retN_d, getLast0, setLast0, takeLast0, takeLast1, List.take_succ_cons, List.take_zero, List.take_length, List.take_nil, decide_eq_true_eq, beq_iff_eq, if_true, if_false, Bool.not_true, Bool.not_false, Bool.not_eq_true', Bool.false_eq_true, Bool.true_eq_false, reduceIte, if_pos, if_neg, Nat.add_eq, List.isEmpty_cons, List.isEmpty_nil, Option.some.injEq, decide_true, decide_false, decide_eq_true, decide_eq_false, beq_self_eq_true, BEq.rfl, beq_eq_false_iff_ne, Nat.zero_add, Nat.reduceAdd, Int.toNat_natCast, Bool.not_eq_true, decide_eq_false_iff_not, bne_iff_ne, ne_eq, not_true_eq_false, not_false_eq_true]
  refine ok_seq ?_
  try simp (disch := omega) only [wipeZ, forget, okE_val, okE_exc, okE_bind, okS_st, okS_seq, okS_nx, okS_rt, okS_bk, okS_ct, okS_ex, okE_ofOpt, zdrop, zapp, zset, zsetF, zifS, ztru, ztst, zop, zcb, zcf, zacons, zanil, zc, zv, znil, zret, zcall, zfz, znew, zneg, zos, zon, zsl, zslF, ztup, zlst, zand, zor, znot, zif, zpar, zpar3, zasg, gN, gT2, gT3, zdnew, zdput, zmt1, zcnt1, zandV, zorV, znotV, zchain, zfrz, zbrk, zcnt, zopF, zpop0, zlput, zdget, zdin, zdnin, zdget2, zisi, ziA, ziQ, itemsQ, ziL, ziT, itemsL, itemsT, rng1_ok, rng2_ok, izs_len, izr_len, zipOf, enumOf, ofOpt, bind_val, bind_exc, st_val, st_exc, seq_nx, seq_rt, seq_ex, seq_bk, seq_ct, List.map_cons, List.map_nil, List.cons_append, List.nil_append, List.replicate, List.length_cons, List.length_nil, List.length_append, List.length_map, List.length_set, List.getElem?_cons_zero, List.getElem?_cons_succ, List.getElem?_nil, List.set_cons_zero, List.set_cons_succ, lstAt, res, resD, truS, truth, app2, on1, on2, lstOnly, lenS, allD_nil, allD_cons, Option.map_some, Option.map_none, Option.bind_some, Option.bind_none, dAdd, dSub, dMul_ok, dMod_ok, dDiv_ok, dLt, dLe, dGt, dGe, dEq_i, dEq_s, dEq_b, dNe_i, dNe_s, dNe_b, dEq_ti, dNe_ti, dEq_li, dNe_li, dIs, dIsNot, nonD, dIn, dNotIn, dIx, atI_0, atI_1, atI_2, dTup, dInt, dMin, dMax, dSum, dAll, dAny, intsOf_map, bolsOf_map, intsOf_nil, intsOf_cons, dMin2, dMax2, dAbs, keySl, Z.keyOf, putS, lim, retN_d, getLast0, setLast0, takeLast0, takeLast1, List.take_succ_cons, List.take_zero, List.take_length, List.take_nil, decide_eq_true_eq, beq_iff_eq, if_true, if_false, Bool.not_true, Bool.not_false, Bool.not_eq_true', Bool.false_eq_true, Bool.true_eq_false, reduceIte, if_pos, if_neg, Nat.add_eq, List.isEmpty_cons, List.isEmpty_nil, Option.some.injEq, decide_true, decide_false, decide_eq_true, decide_eq_false, beq_self_eq_true, BEq.rfl, beq_eq_false_iff_ne, Nat.zero_add, Nat.reduceAdd, Int.toNat_natCast, Bool.not_eq_true, decide_eq_false_iff_not, bne_iff_ne, ne_eq, not_true_eq_false, not_false_eq_true, su, e1]
  refine ok_seq ?_
  try simp (disch := omega) only [wipeZ, forget, okE_val, okE_exc, okE_bind, okS_st, okS_seq, okS_nx, okS_rt, okS_bk, okS_ct, okS_ex, okE_ofOpt, zdrop, zapp, zset, zsetF, zifS, ztru, ztst, zop, zcb, zcf, zacons, zanil, zc, zv, znil, zret, zcall, zfz, znew, zneg, zos, zon, zsl, zslF, ztup, zlst, zand, zor, znot, zif, zpar, zpar3, zasg, gN, gT2, gT3, zdnew, zdput, zmt1, zcnt1, zandV, zorV, znotV, zchain, zfrz, zbrk, zcnt, zopF, zpop0, zlput, zdget, zdin, zdnin, zdget2, zisi, ziA, ziQ, itemsQ, ziL, ziT, itemsL, itemsT, rng1_ok, rng2_ok, izs_len, izr_len, zipOf, enumOf, ofOpt, bind_val, bind_exc, st_val, st_exc, seq_nx, seq_rt, seq_ex, seq_bk, seq_ct, List.map_cons, List.map_nil, List.cons_append, List.nil_append, List.replicate, List.length_cons, List.length_nil, List.length_append, List.length_map, List.length_set, List.getElem?_cons_zero, List.getElem?_cons_succ, List.getElem?_nil, List.set_cons_zero, List.set_cons_succ, lstAt, res, resD, truS, truth, app2, on1, on2, lstOnly, lenS, allD_nil, allD_cons, Option.map_some, Option.map_none, Option.bind_some, Option.bind_none, dAdd, dSub, dMul_ok, dMod_ok, dDiv_ok, dLt, dLe, dGt, dGe, dEq_i, dEq_s, dEq_b, dNe_i, dNe_s, dNe_b, dEq_ti, dNe_ti, dEq_li, dNe_li, dIs, dIsNot, nonD, dIn, dNotIn, dIx, atI_0, atI_1, atI_2, dTup, dInt, dMin, dMax, dSum, dAll, dAny, intsOf_map, bolsOf_map, intsOf_nil, intsOf_cons, dMin2, dMax2, dAbs, keySl, Z.keyOf, putS, lim, retN_d, getLast0, setLast0, takeLast0, takeLast1, List.take_succ_cons, List.take_zero, List.take_length, List.take_nil, decide_eq_true_eq, beq_iff_eq, if_true, if_false, Bool.not_true, Bool.not_false, Bool.not_eq_true', Bool.false_eq_true, Bool.true_eq_false, reduceIte, if_pos, if_neg, Nat.add_eq, List.isEmpty_cons, List.isEmpty_nil, Option.some.injEq, decide_true, decide_false, decide_eq_true, decide_eq_false, beq_self_eq_true, BEq.rfl, beq_eq_false_iff_ne, Nat.zero_add, Nat.reduceAdd, Int.toNat_natCast, Bool.not_eq_true, decide_eq_false_iff_not, bne_iff_ne, ne_eq, not_true_eq_false, not_false_eq_true, su, e2]
  refine ok_seq ?_
  try simp (disch := omega) only [wipeZ, forget, okE_val, okE_exc, okE_bind, okS_st, okS_seq, okS_nx, okS_rt, okS_bk, okS_ct, okS_ex, okE_ofOpt, zdrop, zapp, zset, zsetF, zifS, ztru, ztst, zop, zcb, zcf, zacons, zanil, zc, zv, znil, zret, zcall, zfz, znew, zneg, zos, zon, zsl, zslF, ztup, zlst, zand, zor, znot, zif, zpar, zpar3, zasg, gN, gT2, gT3, zdnew, zdput, zmt1, zcnt1, zandV, zorV, znotV, zchain, zfrz, zbrk, zcnt, zopF, zpop0, zlput, zdget, zdin, zdnin, zdget2, zisi, ziA, ziQ, itemsQ, ziL, ziT, itemsL, itemsT, rng1_ok, rng2_ok, izs_len, izr_len, zipOf, enumOf, ofOpt, bind_val, bind_exc, st_val, st_exc, seq_nx, seq_rt, seq_ex, seq_bk, seq_ct, List.map_cons, List.map_nil, List.cons_append, List.nil_append, List.replicate, List.length_cons, List.length_nil, List.length_append, List.length_map, List.length_set, List.getElem?_cons_zero, List.getElem?_cons_succ, List.getElem?_nil, List.set_cons_zero, List.set_cons_succ, lstAt, res, resD, truS, truth, app2, on1, on2, lstOnly, lenS, allD_nil, allD_cons, Option.map_some, Option.map_none, Option.bind_some, Option.bind_none, dAdd, dSub, dMul_ok, dMod_ok, dDiv_ok, dLt, dLe, dGt, dGe, dEq_i, dEq_s, dEq_b, dNe_i, dNe_s, dNe_b, dEq_ti, dNe_ti, dEq_li, dNe_li, dIs, dIsNot, nonD, dIn, dNotIn, dIx, atI_0, atI_1, atI_2, dTup, dInt, dMin, dMax, dSum, dAll, dAny, intsOf_map, bolsOf_map, intsOf_nil, intsOf_cons, dMin2, dMax2, dAbs, keySl, Z.keyOf, putS, lim, retN_d, getLast0, setLast0, takeLast0, takeLast1, List.take_succ_cons, List.take_zero, List.take_length, List.take_nil, decide_eq_true_eq, beq_iff_eq, if_true, if_false, Bool.not_true, Bool.not_false, Bool.not_eq_true', Bool.false_eq_true, Bool.true_eq_false, reduceIte, if_pos, if_neg, Nat.add_eq, List.isEmpty_cons, List.isEmpty_nil, Option.some.injEq, decide_true, decide_false, decide_eq_true, decide_eq_false, beq_self_eq_true, BEq.rfl, beq_eq_false_iff_ne, Nat.zero_add, Nat.reduceAdd, Int.toNat_natCast, Bool.not_eq_true, decide_eq_false_iff_not, bne_iff_ne, ne_eq, not_true_eq_false, not_false_eq_true, zfor]
  refine ok_for (fun _ Γ S1 => S1 = [.scr ns, .lst tw2] ∧ ∃ (g2 g8 g9 g10 g11 g12 : Option Sl), Γ = [some (.box 0), some (.box 1), g2, some (.d (dDrum n hs)), some (.d (.int n)), some (.d (.tuple (hs.map .int))), some (.d (.int t)), some (.d (.int s)), g8, g9, g10, g11, g12]) ?_ ?_ ?_
  · exact ⟨rfl, _, _, _, _, _, _, rfl⟩
  · rintro i d Γ S1 hd ⟨rfl, g2, g8, g9, g10, g11, g12, rfl⟩
    obtain ⟨x, hx, rfl⟩ := List.mem_map.mp (List.mem_of_getElem? hd)
    have := izs_mem.mp hx
    exact ⟨_, rfl, b1_ok b4 b5 b2 b3 (by omega) (by omega) (by omega) ⟨rfl, _, _, _, _, _, _, rfl⟩⟩
  · rintro Γ S1 ⟨rfl, g2, g8, g9, g10, g11, g12, rfl⟩
    have tk : ∀ (a b : Int) (S : Sto), b - a < 90000 → F_times_of [.d (dDrum n hs), .d (.int s), .d (.int a), .d (.int b)] S = .val (.d (.tuple ((times n hs s a b).map .int))) S := fun a b S h => times_of_ok hn s0 s1 hne (by omega) h
    obtain ⟨N, rfl⟩ : ∃ N : Nat, n = N := ⟨n.toNat, by omega⟩
    refine ok_seq ?_
    try simp (disch := omega) only [wipeZ, forget, okE_val, okE_exc, okE_bind, okS_st, okS_seq, okS_nx, okS_rt, okS_bk, okS_ct, okS_ex, okE_ofOpt, zdrop, zapp, zset, zsetF, zifS, ztru, ztst, zop, zcb, zcf, zacons, zanil, zc, zv, znil, zret, zcall, zfz, znew, zneg, zos, zon, zsl, zslF, ztup, zlst, zand, zor, znot, zif, zpar, zpar3, zasg, gN, gT2, gT3, zdnew, zdput, zmt1, zcnt1, zandV, zorV, znotV, zchain, zfrz, zbrk, zcnt, zopF, zpop0, zlput, zdget, zdin, zdnin, zdget2, zisi, ziA, ziQ, itemsQ, ziL, ziT, itemsL, itemsT, rng1_ok, rng2_ok, izs_len, izr_len, zipOf, enumOf, ofOpt, bind_val, bind_exc, st_val, st_exc, seq_nx, seq_rt, seq_ex, seq_bk, seq_ct, List.map_cons, List.map_nil, List.cons_append, List.nil_append, List.replicate, List.length_cons, List.length_nil, List.length_append, List.length_map, List.length_set, List.getElem?_cons_zero, List.getElem?_cons_succ, List.getElem?_nil, List.set_cons_zero, List.set_cons_succ, lstAt, res, resD, truS, truth, app2, on1, on2, lstOnly, lenS, allD_nil, allD_cons, Option.map_some, Option.map_none, Option.bind_some, Option.bind_none, dAdd, dSub, dMul_ok, dMod_ok, dDiv_ok, dLt, dLe, dGt, dGe, dEq_i, dEq_s, dEq_b, dNe_i, dNe_s, dNe_b, dEq_ti, dNe_ti, dEq_li, dNe_li, dIs, dIsNot, nonD, dIn, dNotIn, dIx, atI_0, atI_1, atI_2, dTup, dInt, dMin, dMax, dSum, dAll, dAny, intsOf_map, bolsOf_map, intsOf_nil, intsOf_cons, dMin2, dMax2, dAbs, keySl, Z.keyOf, putS, lim, retN_d, getLast0, setLast0, takeLast0, takeLast1, List.take_succ_cons, List.take_zero, List.take_length, List.take_nil, decide_eq_true_eq, beq_iff_eq, if_true, if_false, Bool.not_true, Bool.not_false, Bool.not_eq_true', Bool.false_eq_true, Bool.true_eq_false, reduceIte, if_pos, if_neg, Nat.add_eq, List.isEmpty_cons, List.isEmpty_nil, Option.some.injEq, decide_true, decide_false, decide_eq_true, decide_eq_false, beq_self_eq_true, BEq.rfl, beq_eq_false_iff_ne, Nat.zero_add, Nat.reduceAdd, Int.toNat_natCast, Bool.not_eq_true, decide_eq_false_iff_not, bne_iff_ne, ne_eq, not_true_eq_false, not_false_eq_true, tk]
    refine ok_seq ?_
    try simp (disch := omega) only [wipeZ, forget, okE_val, okE_exc, okE_bind, okS_st, okS_seq, okS_nx, okS_rt, okS_bk, okS_ct, okS_ex, okE_ofOpt, zdrop, zapp, zset, zsetF, zifS, ztru, ztst, zop, zcb, zcf, zacons, zanil, zc, zv, znil, zret, zcall, zfz, znew, zneg, zos, zon, zsl, zslF, ztup, zlst, zand, zor, znot, zif, zpar, zpar3, zasg, gN, gT2, gT3, zdnew, zdput, zmt1, zcnt1, zandV, zorV, znotV, zchain, zfrz, zbrk, zcnt, zopF, zpop0, zlput, zdget, zdin, zdnin, zdget2, zisi, ziA, ziQ, itemsQ, ziL, ziT, itemsL, itemsT, rng1_ok, rng2_ok, izs_len, izr_len, zipOf, enumOf, ofOpt, bind_val, bind_exc, st_val, st_exc, seq_nx, seq_rt, seq_ex, seq_bk, seq_ct, List.map_cons, List.map_nil, List.cons_append, List.nil_append, List.replicate, List.length_cons, List.length_nil, List.length_append, List.length_map, List.length_set, List.getElem?_cons_zero, List.getElem?_cons_succ, List.getElem?_nil, List.set_cons_zero, List.set_cons_succ, lstAt, res, resD, truS, truth, app2, on1, on2, lstOnly, lenS, allD_nil, allD_cons, Option.map_some, Option.map_none, Option.bind_some, Option.bind_none, dAdd, dSub, dMul_ok, dMod_ok, dDiv_ok, dLt, dLe, dGt, dGe, dEq_i, dEq_s, dEq_b, dNe_i, dNe_s, dNe_b, dEq_ti, dNe_ti, dEq_li, dNe_li, dIs, dIsNot, nonD, dIn, dNotIn, dIx, atI_0, atI_1, atI_2, dTup, dInt, dMin, dMax, dSum, dAll, dAny, intsOf_map, bolsOf_map, intsOf_nil, intsOf_cons, dMin2, dMax2, dAbs, keySl, Z.keyOf, putS, lim, retN_d, getLast0, setLast0, takeLast0, takeLast1, List.take_succ_cons, List.take_zero, List.take_length, List.take_nil, decide_eq_true_eq, beq_iff_eq, if_true, if_false, Bool.not_true, Bool.not_false, Bool.not_eq_true', Bool.false_eq_true, Bool.true_eq_false, reduceIte, if_pos, if_neg, Nat.add_eq, List.isEmpty_cons, List.isEmpty_nil, Option.some.injEq, decide_true, decide_false, decide_eq_true, decide_eq_false, beq_self_eq_true, BEq.rfl, beq_eq_false_iff_ne, Nat.zero_add, Nat.reduceAdd, Int.toNat_natCast, Bool.not_eq_true, decide_eq_false_iff_not, bne_iff_ne, ne_eq, not_true_eq_false, not_false_eq_true]
    refine draw_ok (by omega) (by omega) fun c c0 c1 => ?_
    try simp (disch := omega) only [wipeZ, forget, okE_val, okE_exc, okE_bind, okS_st, okS_seq, okS_nx, okS_rt, okS_bk, okS_ct, okS_ex, okE_ofOpt, zdrop, zapp, zset, zsetF, zifS, ztru, ztst, zop, zcb, zcf, zacons, zanil, zc, zv, znil, zret, zcall, zfz, znew, zneg, zos, zon, zsl, zslF, ztup, zlst, zand, zor, znot, zif, zpar, zpar3, zasg, gN, gT2, gT3, zdnew, zdput, zmt1, zcnt1, zandV, zorV, znotV, zchain, zfrz, zbrk, zcnt, zopF, zpop0, zlput, zdget, zdin, zdnin, zdget2, zisi, ziA, ziQ, itemsQ, ziL, ziT, itemsL, itemsT, rng1_ok, rng2_ok, izs_len, izr_len, zipOf, enumOf, ofOpt, bind_val, bind_exc, st_val, st_exc, seq_nx, seq_rt, seq_ex, seq_bk, seq_ct, List.map_cons, List.map_nil, List.cons_append, List.nil_append, List.replicate, List.length_cons, List.length_nil, List.length_append, List.length_map, List.length_set, List.getElem?_cons_zero, List.getElem?_cons_succ, List.getElem?_nil, List.set_cons_zero, List.set_cons_succ, lstAt, res, resD, truS, truth, app2, on1, on2, lstOnly, lenS, allD_nil, allD_cons, Option.map_some, Option.map_none, Option.bind_some, Option.bind_none, dAdd, dSub, dMul_ok, dMod_ok, dDiv_ok, dLt, dLe, dGt, dGe, dEq_i, dEq_s, dEq_b, dNe_i, dNe_s, dNe_b, dEq_ti, dNe_ti, dEq_li, dNe_li, dIs, dIsNot, nonD, dIn, dNotIn, dIx, atI_0, atI_1, atI_2, dTup, dInt, dMin, dMax, dSum, dAll, dAny, intsOf_map, bolsOf_map, intsOf_nil, intsOf_cons, dMin2, dMax2, dAbs, keySl, Z.keyOf, putS, lim, retN_d, getLast0, setLast0, takeLast0, takeLast1, List.take_succ_cons, List.take_zero, List.take_length, List.take_nil, decide_eq_true_eq, beq_iff_eq, if_true, if_false, Bool.not_true, Bool.not_false, Bool.not_eq_true', Bool.false_eq_true, Bool.true_eq_false, reduceIte, if_pos, if_neg, Nat.add_eq, List.isEmpty_cons, List.isEmpty_nil, Option.some.injEq, decide_true, decide_false, decide_eq_true, decide_eq_false, beq_self_eq_true, BEq.rfl, beq_eq_false_iff_ne, Nat.zero_add, Nat.reduceAdd, Int.toNat_natCast, Bool.not_eq_true, decide_eq_false_iff_not, bne_iff_ne, ne_eq, not_true_eq_false, not_false_eq_true]
    refine ok_seq ?_
    have lens : ∀ a b : Int, (times N hs s a b).length ≤ (b - a).toNat := fun a b => times_len_le
    have l1 := lens t (t + c)
    have l2 := lens (t + c) (t + 3 * N)
    try simp (disch := omega) only [wipeZ, forget, okE_val, okE_exc, okE_bind, okS_st, okS_seq, okS_nx, okS_rt, okS_bk, okS_ct, okS_ex, okE_ofOpt, zdrop, zapp, zset, zsetF, zifS, ztru, ztst, zop, zcb, zcf, zacons, zanil, zc, zv, znil, zret, zcall, zfz, znew, zneg, zos, zon, zsl, zslF, ztup, zlst, zand, zor, znot, zif, zpar, zpar3, zasg, gN, gT2, gT3, zdnew, zdput, zmt1, zcnt1, zandV, zorV, znotV, zchain, zfrz, zbrk, zcnt, zopF, zpop0, zlput, zdget, zdin, zdnin, zdget2, zisi, ziA, ziQ, itemsQ, ziL, ziT, itemsL, itemsT, rng1_ok, rng2_ok, izs_len, izr_len, zipOf, enumOf, ofOpt, bind_val, bind_exc, st_val, st_exc, seq_nx, seq_rt, seq_ex, seq_bk, seq_ct, List.map_cons, List.map_nil, List.cons_append, List.nil_append, List.replicate, List.length_cons, List.length_nil, List.length_append, List.length_map, List.length_set, List.getElem?_cons_zero, List.getElem?_cons_succ, List.getElem?_nil, List.set_cons_zero, List.set_cons_succ, lstAt, res, resD, truS, truth, app2, on1, on2, lstOnly, lenS, allD_nil, allD_cons, Option.map_some, Option.map_none, Option.bind_some, Option.bind_none, dAdd, dSub, dMul_ok, dMod_ok, dDiv_ok, dLt, dLe, dGt, dGe, dEq_i, dEq_s, dEq_b, dNe_i, dNe_s, dNe_b, dEq_ti, dNe_ti, dEq_li, dNe_li, dIs, dIsNot, nonD, dIn, dNotIn, dIx, atI_0, atI_1, atI_2, dTup, dInt, dMin, dMax, dSum, dAll, dAny, intsOf_map, bolsOf_map, intsOf_nil, intsOf_cons, dMin2, dMax2, dAbs, keySl, Z.keyOf, putS, lim, retN_d, getLast0, setLast0, takeLast0, takeLast1, List.take_succ_cons, List.take_zero, List.take_length, List.take_nil, decide_eq_true_eq, beq_iff_eq, if_true, if_false, Bool.not_true, Bool.not_false, Bool.not_eq_true', Bool.false_eq_true, Bool.true_eq_false, reduceIte, if_pos, if_neg, Nat.add_eq, List.isEmpty_cons, List.isEmpty_nil, Option.some.injEq, decide_true, decide_false, decide_eq_true, decide_eq_false, beq_self_eq_true, BEq.rfl, beq_eq_false_iff_ne, Nat.zero_add, Nat.reduceAdd, Int.toNat_natCast, Bool.not_eq_true, decide_eq_false_iff_not, bne_iff_ne, ne_eq, not_true_eq_false, not_false_eq_true, tk, ← List.map_append, times_app (n := N) (hs := hs) (s := s) (a := t) (b := t + c) (c := t + 3 * (N : Int)) (by omega) (by omega)]
    refine ok_seq ?_
    have k1 : ((times N hs s t (t + N)).length : Int) = hs.length := by rw [times_turn b4 s0 s1]
    have k3 : ((times N hs s t (t + 3 * N)).length : Int) = 3 * hs.length := by
      have e : t + 3 * (N : Int) = t + N + N + N := by omega
      rw [e, ← times_app (b := t + N + N) (by omega) (by omega), ← times_app (b := t + N) (by omega) (by omega), List.length_append, List.length_append, times_turn b4 s0 s1, times_turn b4 s0 s1, times_turn b4 s0 s1]
      omega
    try simp (disch := omega) only [wipeZ, forget, okE_val, okE_exc, okE_bind, okS_st, okS_seq, okS_nx, okS_rt, okS_bk, okS_ct, okS_ex, okE_ofOpt, zdrop, zapp, zset, zsetF, zifS, ztru, ztst, zop, zcb, zcf, zacons, zanil, zc, zv, znil, zret, zcall, zfz, znew, zneg, zos, zon, zsl, zslF, ztup, zlst, zand, zor, znot, zif, zpar, zpar3, zasg, gN, gT2, gT3, zdnew, zdput, zmt1, zcnt1, zandV, zorV, znotV, zchain, zfrz, zbrk, zcnt, zopF, zpop0, zlput, zdget, zdin, zdnin, zdget2, zisi, ziA, ziQ, itemsQ, ziL, ziT, itemsL, itemsT, rng1_ok, rng2_ok, izs_len, izr_len, zipOf, enumOf, ofOpt, bind_val, bind_exc, st_val, st_exc, seq_nx, seq_rt, seq_ex, seq_bk, seq_ct, List.map_cons, List.map_nil, List.cons_append, List.nil_append, List.replicate, List.length_cons, List.length_nil, List.length_append, List.length_map, List.length_set, List.getElem?_cons_zero, List.getElem?_cons_succ, List.getElem?_nil, List.set_cons_zero, List.set_cons_succ, lstAt, res, resD, truS, truth, app2, on1, on2, lstOnly, lenS, allD_nil, allD_cons, Option.map_some, Option.map_none, Option.bind_some, Option.bind_none, dAdd, dSub, dMul_ok, dMod_ok, dDiv_ok, dLt, dLe, dGt, dGe, dEq_i, dEq_s, dEq_b, dNe_i, dNe_s, dNe_b, dEq_ti, dNe_ti, dEq_li, dNe_li, dIs, dIsNot, nonD, dIn, dNotIn, dIx, atI_0, atI_1, atI_2, dTup, dInt, dMin, dMax, dSum, dAll, dAny, intsOf_map, bolsOf_map, intsOf_nil, intsOf_cons, dMin2, dMax2, dAbs, keySl, Z.keyOf, putS, lim, retN_d, getLast0, setLast0, takeLast0, takeLast1, List.take_succ_cons, List.take_zero, List.take_length, List.take_nil, decide_eq_true_eq, beq_iff_eq, if_true, if_false, Bool.not_true, Bool.not_false, Bool.not_eq_true', Bool.false_eq_true, Bool.true_eq_false, reduceIte, if_pos, if_neg, Nat.add_eq, List.isEmpty_cons, List.isEmpty_nil, Option.some.injEq, decide_true, decide_false, decide_eq_true, decide_eq_false, beq_self_eq_true, BEq.rfl, beq_eq_false_iff_ne, Nat.zero_add, Nat.reduceAdd, Int.toNat_natCast, Bool.not_eq_true, decide_eq_false_iff_not, bne_iff_ne, ne_eq, not_true_eq_false, not_false_eq_true, tk, k1, k3]
    have e0 : times N hs s t t = [] := times_none fun u h1 h2 => by omega
    have en : dNe (.tuple []) (.tuple []) = some (.bool false) := dNe_ti (xs := []) (ys := [])
    try simp (disch := omega) only [wipeZ, forget, okE_val, okE_exc, okE_bind, okS_st, okS_seq, okS_nx, okS_rt, okS_bk, okS_ct, okS_ex, okE_ofOpt, zdrop, zapp, zset, zsetF, zifS, ztru, ztst, zop, zcb, zcf, zacons, zanil, zc, zv, znil, zret, zcall, zfz, znew, zneg, zos, zon, zsl, zslF, ztup, zlst, zand, zor, znot, zif, zpar, zpar3, zasg, gN, gT2, gT3, zdnew, zdput, zmt1, zcnt1, zandV, zorV, znotV, zchain, zfrz, zbrk, zcnt, zopF, zpop0, zlput, zdget, zdin, zdnin, zdget2, zisi, ziA, ziQ, itemsQ, ziL, ziT, itemsL, itemsT, rng1_ok, rng2_ok, izs_len, izr_len, zipOf, enumOf, ofOpt, bind_val, bind_exc, st_val, st_exc, seq_nx, seq_rt, seq_ex, seq_bk, seq_ct, List.map_cons, List.map_nil, List.cons_append, List.nil_append, List.replicate, List.length_cons, List.length_nil, List.length_append, List.length_map, List.length_set, List.getElem?_cons_zero, List.getElem?_cons_succ, List.getElem?_nil, List.set_cons_zero, List.set_cons_succ, lstAt, res, resD, truS, truth, app2, on1, on2, lstOnly, lenS, allD_nil, allD_cons, Option.map_some, Option.map_none, Option.bind_some, Option.bind_none, dAdd, dSub, dMul_ok, dMod_ok, dDiv_ok, dLt, dLe, dGt, dGe, dEq_i, dEq_s, dEq_b, dNe_i, dNe_s, dNe_b, dEq_ti, dNe_ti, dEq_li, dNe_li, dIs, dIsNot, nonD, dIn, dNotIn, dIx, atI_0, atI_1, atI_2, dTup, dInt, dMin, dMax, dSum, dAll, dAny, intsOf_map, bolsOf_map, intsOf_nil, intsOf_cons, dMin2, dMax2, dAbs, keySl, Z.keyOf, putS, lim, retN_d, getLast0, setLast0, takeLast0, takeLast1, List.take_succ_cons, List.take_zero, List.take_length, List.take_nil, decide_eq_true_eq, beq_iff_eq, if_true, if_false, Bool.not_true, Bool.not_false, Bool.not_eq_true', Bool.false_eq_true, Bool.true_eq_false, reduceIte, if_pos, if_neg, Nat.add_eq, List.isEmpty_cons, List.isEmpty_nil, Option.some.injEq, decide_true, decide_false, decide_eq_true, decide_eq_false, beq_self_eq_true, BEq.rfl, beq_eq_false_iff_ne, Nat.zero_add, Nat.reduceAdd, Int.toNat_natCast, Bool.not_eq_true, decide_eq_false_iff_not, bne_iff_ne, ne_eq, not_true_eq_false, not_false_eq_true, tk, e0, en, bLst, srtS, times_srt]
    exact hD _ _ _ _ _ _ _ _ _ _ _ _ _ (by simp; omega)
theorem law_true (ns : List Int) (h : ns.length ≤ 63) : ∃ S', F_law [.box 0] [.scr ns] = .val (.d (.bool true)) S' := by
  suffices hz : OkE (F_law [.box 0] [.scr ns]) noX fun x _ => x = .d (.bool true) by
    obtain ⟨a, S, e, rfl⟩ := hz.eq
    exact ⟨S, e⟩
  refine ok_def rfl ?_
  unfold z_law
  refine ok_seq ?_
  try simp (disch := omega) only [wipeZ, forget, okE_val, okE_exc, okE_bind, okS_st, okS_seq, okS_nx, okS_rt, okS_bk, okS_ct, okS_ex, okE_ofOpt, zdrop, zapp, zset, zsetF, zifS, ztru, ztst, zop, zcb, zcf, zacons, zanil, zc, zv, znil, zret, zcall, zfz, znew, zneg, zos, zon, zsl, zslF, ztup, zlst, zand, zor, znot, zif, zpar, zpar3, zasg, gN, gT2, gT3, zdnew, zdput, zmt1, zcnt1, zandV, zorV, znotV, zchain, zfrz, zbrk, zcnt, zopF, zpop0, zlput, zdget, zdin, zdnin, zdget2, zisi, ziA, ziQ, itemsQ, ziL, ziT, itemsL, itemsT, rng1_ok, rng2_ok, izs_len, izr_len, zipOf, enumOf, ofOpt, bind_val, bind_exc, st_val, st_exc, seq_nx, seq_rt, seq_ex, seq_bk, seq_ct, List.map_cons, List.map_nil, List.cons_append, List.nil_append, List.replicate, List.length_cons, List.length_nil, List.length_append, List.length_map, List.length_set, List.getElem?_cons_zero, List.getElem?_cons_succ, List.getElem?_nil, List.set_cons_zero, List.set_cons_succ, lstAt, res, resD, truS, truth, app2, on1, on2, lstOnly, lenS, allD_nil, allD_cons, Option.map_some, Option.map_none, Option.bind_some, Option.bind_none, dAdd, dSub, dMul_ok, dMod_ok, dDiv_ok, dLt, dLe, dGt, dGe, dEq_i, dEq_s, dEq_b, dNe_i, dNe_s, dNe_b, dEq_ti, dNe_ti, dEq_li, dNe_li, dIs, dIsNot, nonD, dIn, dNotIn, dIx, atI_0, atI_1, atI_2, dTup, dInt, dMin, dMax, dSum, dAll, dAny, intsOf_map, bolsOf_map, intsOf_nil, intsOf_cons, dMin2, dMax2, dAbs, keySl, Z.keyOf, putS, lim, retN_d, getLast0, setLast0, takeLast0, takeLast1, List.take_succ_cons, List.take_zero, List.take_length, List.take_nil, decide_eq_true_eq, beq_iff_eq, if_true, if_false, Bool.not_true, Bool.not_false, Bool.not_eq_true', Bool.false_eq_true, Bool.true_eq_false, reduceIte, if_pos, if_neg, Nat.add_eq, List.isEmpty_cons, List.isEmpty_nil, Option.some.injEq, decide_true, decide_false, decide_eq_true, decide_eq_false, beq_self_eq_true, BEq.rfl, beq_eq_false_iff_ne, Nat.zero_add, Nat.reduceAdd, Int.toNat_natCast, Bool.not_eq_true, decide_eq_false_iff_not, bne_iff_ne, ne_eq, not_true_eq_false, not_false_eq_true]
  refine ok_seq ?_
  try simp (disch := omega) only [wipeZ, forget, okE_val, okE_exc, okE_bind, okS_st, okS_seq, okS_nx, okS_rt, okS_bk, okS_ct, okS_ex, okE_ofOpt, zdrop, zapp, zset, zsetF, zifS, ztru, ztst, zop, zcb, zcf, zacons, zanil, zc, zv, znil, zret, zcall, zfz, znew, zneg, zos, zon, zsl, zslF, ztup, zlst, zand, zor, znot, zif, zpar, zpar3, zasg, gN, gT2, gT3, zdnew, zdput, zmt1, zcnt1, zandV, zorV, znotV, zchain, zfrz, zbrk, zcnt, zopF, zpop0, zlput, zdget, zdin, zdnin, zdget2, zisi, ziA, ziQ, itemsQ, ziL, ziT, itemsL, itemsT, rng1_ok, rng2_ok, izs_len, izr_len, zipOf, enumOf, ofOpt, bind_val, bind_exc, st_val, st_exc, seq_nx, seq_rt, seq_ex, seq_bk, seq_ct, List.map_cons, List.map_nil, List.cons_append, List.nil_append, List.replicate, List.length_cons, List.length_nil, List.length_append, List.length_map, List.length_set, List.getElem?_cons_zero, List.getElem?_cons_succ, List.getElem?_nil, List.set_cons_zero, List.set_cons_succ, lstAt, res, resD, truS, truth, app2, on1, on2, lstOnly, lenS, allD_nil, allD_cons, Option.map_some, Option.map_none, Option.bind_some, Option.bind_none, dAdd, dSub, dMul_ok, dMod_ok, dDiv_ok, dLt, dLe, dGt, dGe, dEq_i, dEq_s, dEq_b, dNe_i, dNe_s, dNe_b, dEq_ti, dNe_ti, dEq_li, dNe_li, dIs, dIsNot, nonD, dIn, dNotIn, dIx, atI_0, atI_1, atI_2, dTup, dInt, dMin, dMax, dSum, dAll, dAny, intsOf_map, bolsOf_map, intsOf_nil, intsOf_cons, dMin2, dMax2, dAbs, keySl, Z.keyOf, putS, lim, retN_d, getLast0, setLast0, takeLast0, takeLast1, List.take_succ_cons, List.take_zero, List.take_length, List.take_nil, decide_eq_true_eq, beq_iff_eq, if_true, if_false, Bool.not_true, Bool.not_false, Bool.not_eq_true', Bool.false_eq_true, Bool.true_eq_false, reduceIte, if_pos, if_neg, Nat.add_eq, List.isEmpty_cons, List.isEmpty_nil, Option.some.injEq, decide_true, decide_false, decide_eq_true, decide_eq_false, beq_self_eq_true, BEq.rfl, beq_eq_false_iff_ne, Nat.zero_add, Nat.reduceAdd, Int.toNat_natCast, Bool.not_eq_true, decide_eq_false_iff_not, bne_iff_ne, ne_eq, not_true_eq_false, not_false_eq_true, zfor]
  refine ok_for (fun i Γ S => ∃ (tw : List PyData) (g2 g3 g4 g5 g6 g7 g8 g9 g10 g11 g12 : Option Sl), tw.length ≤ 9 * i ∧ Γ = [some (.box 0), some (.box 1), g2, g3, g4, g5, g6, g7, g8, g9, g10, g11, g12] ∧ S = [.scr ns, .lst tw]) ?_ ?_ ?_
  · exact ⟨[], _, _, _, _, _, _, _, _, _, _, _, by simp, rfl, rfl⟩
  · rintro i d Γ S hd ⟨tw, g2, g3, g4, g5, g6, g7, g8, g9, g10, g11, g12, a1, rfl, rfl⟩
    have hi : i < 10 := by
      have := (List.getElem?_eq_some_iff.mp hd).1
      simpa [izs] using this
    exact ⟨_, rfl, body_ok (by omega) fun tw' R g2 g3 g4 g5 g6 g7 g8 g9 g10 g11 g12 hl => ⟨tw', _, _, _, _, _, _, _, _, _, _, _, by omega, rfl, rfl⟩⟩
  · rintro Γ S ⟨tw, g2, g3, g4, g5, g6, g7, g8, g9, g10, g11, g12, a1, rfl, rfl⟩
    try simp (disch := omega) only [wipeZ, forget, okE_val, okE_exc, okE_bind, okS_st, okS_seq, okS_nx, okS_rt, okS_bk, okS_ct, okS_ex, okE_ofOpt, zdrop, zapp, zset, zsetF, zifS, ztru, ztst, zop, zcb, zcf, zacons, zanil, zc, zv, znil, zret, zcall, zfz, znew, zneg, zos, zon, zsl, zslF, ztup, zlst, zand, zor, znot, zif, zpar, zpar3, zasg, gN, gT2, gT3, zdnew, zdput, zmt1, zcnt1, zandV, zorV, znotV, zchain, zfrz, zbrk, zcnt, zopF, zpop0, zlput, zdget, zdin, zdnin, zdget2, zisi, ziA, ziQ, itemsQ, ziL, ziT, itemsL, itemsT, rng1_ok, rng2_ok, izs_len, izr_len, zipOf, enumOf, ofOpt, bind_val, bind_exc, st_val, st_exc, seq_nx, seq_rt, seq_ex, seq_bk, seq_ct, List.map_cons, List.map_nil, List.cons_append, List.nil_append, List.replicate, List.length_cons, List.length_nil, List.length_append, List.length_map, List.length_set, List.getElem?_cons_zero, List.getElem?_cons_succ, List.getElem?_nil, List.set_cons_zero, List.set_cons_succ, lstAt, res, resD, truS, truth, app2, on1, on2, lstOnly, lenS, allD_nil, allD_cons, Option.map_some, Option.map_none, Option.bind_some, Option.bind_none, dAdd, dSub, dMul_ok, dMod_ok, dDiv_ok, dLt, dLe, dGt, dGe, dEq_i, dEq_s, dEq_b, dNe_i, dNe_s, dNe_b, dEq_ti, dNe_ti, dEq_li, dNe_li, dIs, dIsNot, nonD, dIn, dNotIn, dIx, atI_0, atI_1, atI_2, dTup, dInt, dMin, dMax, dSum, dAll, dAny, intsOf_map, bolsOf_map, intsOf_nil, intsOf_cons, dMin2, dMax2, dAbs, keySl, Z.keyOf, putS, lim, retN_d, getLast0, setLast0, takeLast0, takeLast1, List.take_succ_cons, List.take_zero, List.take_length, List.take_nil, decide_eq_true_eq, beq_iff_eq, if_true, if_false, Bool.not_true, Bool.not_false, Bool.not_eq_true', Bool.false_eq_true, Bool.true_eq_false, reduceIte, if_pos, if_neg, Nat.add_eq, List.isEmpty_cons, List.isEmpty_nil, Option.some.injEq, decide_true, decide_false, decide_eq_true, decide_eq_false, beq_self_eq_true, BEq.rfl, beq_eq_false_iff_ne, Nat.zero_add, Nat.reduceAdd, Int.toNat_natCast, Bool.not_eq_true, decide_eq_false_iff_not, bne_iff_ne, ne_eq, not_true_eq_false, not_false_eq_true]
end Q_drumwords_k13_whole_spots_go_round
end
section
set_option Elab.async false
set_option linter.all false
set_option maxRecDepth 100000
set_option maxHeartbeats 0
namespace Q_drumwords_k13_whole_spots_go_round
open PySem PySem.Spec PyProof.Rows L2 Z Zc
def d_is_whole : He.DefD := ⟨("is_whole", none), "is_whole", "is_whole", defArgs s_is_whole, defBody s_is_whole, defScope s_is_whole, [], []⟩
def d_is_drum : He.DefD := ⟨("is_drum", none), "is_drum", "is_drum", defArgs s_is_drum, defBody s_is_drum, defScope s_is_drum, [], []⟩
def d_spots_under : He.DefD := ⟨("spots_under", none), "spots_under", "spots_under", defArgs s_spots_under, defBody s_spots_under, defScope s_spots_under, [], []⟩
def d_read_time : He.DefD := ⟨("read_time", none), "read_time", "read_time", defArgs s_read_time, defBody s_read_time, defScope s_read_time, [], []⟩
def d_times_of : He.DefD := ⟨("times_of", none), "times_of", "times_of", defArgs s_times_of, defBody s_times_of, defScope s_times_of, [], []⟩
def d__law_draw : He.DefD := ⟨("_law_draw", none), "_law_draw", "_law_draw", defArgs s__law_draw, defBody s__law_draw, defScope s__law_draw, [], []⟩
def d__law_pick : He.DefD := ⟨("_law_pick", none), "_law_pick", "_law_pick", defArgs s__law_pick, defBody s__law_pick, defScope s__law_pick, [], []⟩
def d__law_drum : He.DefD := ⟨("_law_drum", none), "_law_drum", "_law_drum", defArgs s__law_drum, defBody s__law_drum, defScope s__law_drum, [], []⟩
def d__law_rest : He.DefD := ⟨("_law_rest", none), "_law_rest", "_law_rest", defArgs s__law_rest, defBody s__law_rest, defScope s__law_rest, [], []⟩
def d__law_read_holds : He.DefD := ⟨("_law_read_holds", none), "_law_read_holds", "_law_read_holds", defArgs s__law_read_holds, defBody s__law_read_holds, defScope s__law_read_holds, [], []⟩
def d_law : He.DefD := ⟨("law", none), "law", "law", defArgs s_law, defBody s_law, defScope s_law, [], []⟩
def fn : List He.DefD := [d_is_whole, d_is_drum, d_spots_under, d_read_time, d_times_of, d__law_draw, d__law_pick, d__law_drum, d__law_rest, d__law_read_holds, d_law]
def fa : List He.Fa := [.glo "is_whole", .glo "is_drum", .glo "spots_under", .glo "read_time", .glo "times_of", .glo "_law_draw", .glo "_law_pick", .glo "_law_drum", .glo "_law_rest", .glo "_law_read_holds", .glo "law", .free "all", .free "any", .free "bool", .free "int", .free "isinstance", .free "len", .free "list", .free "min", .free "range", .free "sorted", .free "tuple", .free "zip", .int "HEADS_MOST" 3, .int "SPOTS_LEAST" 4, .int "SPOTS_MOST" 24]
abbrev R : PySem.W.OpenRow := PySem.W.OpenLaw.row PySem.Challenge.rw_drumwords_k13_whole_spots_go_round
abbrev hk : PySem.W.Hook := He.hookX 4 fa fn [] [] noList
def ob (s : PySem.W.SharedT) : He.AlX := He.obsX 4 fa fn [] [] noList (HandSHeadRun.getT s)
theorem ob_eq (s : PySem.W.SharedT) : ob s = hk.obs s.abs := He.obsX_eq (HandSHeadRun.getT_eq s)
def loose : List PySem.Str := ["is_whole", "is_drum", "spots_under", "read_time", "times_of", "_law_draw", "_law_pick", "_law_drum", "_law_rest", "_law_read_holds", "SPOTS_LEAST", "SPOTS_MOST", "HEADS_MOST"]
theorem run (w : World) : HandSHeadRun.RunEq R (PySem.W.view R.prog [15]) hk ob 2000 loose w := by
  intro os
  kernel_rfl
theorem facts {P : Program} {w : World} {K : PySem.W.Frag} {h : Heap} {mg : Str → Option Value} {f : Addr} (X : K.In h) (G : h.Ns mainGlobals mg) (hfa : mg ("law" : Str) = some (.ref f)) (c : He.SaysD fa fn K) :
    ∃ fd : FuncData, (∀ (s : Shared) (v : Value), BindsTo s fd ⟨[v], []⟩ [("script", v)]) ∧ ∀ base : Heap, K.In base → base.Ns mainGlobals mg → FnOk P w K mg base (L2.CX P w) 4 f fd ["script"] (spOf K 1 F_law) := by
  obtain ⟨fd_is_whole, D_is_whole⟩ := c.def_ 0 (d := d_is_whole) rfl
  obtain ⟨fd_is_drum, D_is_drum⟩ := c.def_ 1 (d := d_is_drum) rfl
  obtain ⟨fd_spots_under, D_spots_under⟩ := c.def_ 2 (d := d_spots_under) rfl
  obtain ⟨fd_read_time, D_read_time⟩ := c.def_ 3 (d := d_read_time) rfl
  obtain ⟨fd_times_of, D_times_of⟩ := c.def_ 4 (d := d_times_of) rfl
  obtain ⟨fd__law_draw, D__law_draw⟩ := c.def_ 5 (d := d__law_draw) rfl
  obtain ⟨fd__law_pick, D__law_pick⟩ := c.def_ 6 (d := d__law_pick) rfl
  obtain ⟨fd__law_drum, D__law_drum⟩ := c.def_ 7 (d := d__law_drum) rfl
  obtain ⟨fd__law_rest, D__law_rest⟩ := c.def_ 8 (d := d__law_rest) rfl
  obtain ⟨fd__law_read_holds, D__law_read_holds⟩ := c.def_ 9 (d := d__law_read_holds) rfl
  obtain ⟨fd_law, D_law⟩ := c.def_ 10 (d := d_law) rfl
  have g_is_whole := He.glo_ok X G (c.fact 0 (f := .glo "is_whole") rfl)
  have g_is_drum := He.glo_ok X G (c.fact 1 (f := .glo "is_drum") rfl)
  have g_spots_under := He.glo_ok X G (c.fact 2 (f := .glo "spots_under") rfl)
  have g_read_time := He.glo_ok X G (c.fact 3 (f := .glo "read_time") rfl)
  have g_times_of := He.glo_ok X G (c.fact 4 (f := .glo "times_of") rfl)
  have g__law_draw := He.glo_ok X G (c.fact 5 (f := .glo "_law_draw") rfl)
  have g__law_pick := He.glo_ok X G (c.fact 6 (f := .glo "_law_pick") rfl)
  have g__law_drum := He.glo_ok X G (c.fact 7 (f := .glo "_law_drum") rfl)
  have g__law_rest := He.glo_ok X G (c.fact 8 (f := .glo "_law_rest") rfl)
  have g__law_read_holds := He.glo_ok X G (c.fact 9 (f := .glo "_law_read_holds") rfl)
  have g_law := He.glo_ok X G (c.fact 10 (f := .glo "law") rfl)
  have T : Fx mg := ⟨He.free_ok X G (c.fact 11 (f := .free "all") rfl), He.free_ok X G (c.fact 12 (f := .free "any") rfl), He.free_ok X G (c.fact 13 (f := .free "bool") rfl), He.free_ok X G (c.fact 14 (f := .free "int") rfl), He.free_ok X G (c.fact 15 (f := .free "isinstance") rfl), He.free_ok X G (c.fact 16 (f := .free "len") rfl), He.free_ok X G (c.fact 17 (f := .free "list") rfl), He.free_ok X G (c.fact 18 (f := .free "min") rfl), He.free_ok X G (c.fact 19 (f := .free "range") rfl), He.free_ok X G (c.fact 20 (f := .free "sorted") rfl), He.free_ok X G (c.fact 21 (f := .free "tuple") rfl), He.free_ok X G (c.fact 22 (f := .free "zip") rfl), He.int_ok X G (c.fact 23 (f := .int "HEADS_MOST" 3) rfl), He.int_ok X G (c.fact 24 (f := .int "SPOTS_LEAST" 4) rfl), He.int_ok X G (c.fact 25 (f := .int "SPOTS_MOST" 24) rfl)⟩
  have e := hfa.symm.trans g_law
  cases e
  have b := FunD.bindsA (ps := ["script"]) D_law fun _ _ _ _ _ _ us hl => match us, hl with | [_], _ => rfl
  refine ⟨fd_law, fun s v => b s [v] rfl, fun base _ _ => ?_⟩
  have c_is_whole : Cal P w K mg base "is_whole" 1 F_is_whole := cal_is_whole T D_is_whole g_is_whole 
  have c_is_drum : Cal P w K mg base "is_drum" 2 F_is_drum := cal_is_drum T D_is_drum g_is_drum c_is_whole
  have c_spots_under : Cal P w K mg base "spots_under" 1 F_spots_under := cal_spots_under T D_spots_under g_spots_under 
  have c_read_time : Cal P w K mg base "read_time" 1 F_read_time := cal_read_time T D_read_time g_read_time 
  have c_times_of : Cal P w K mg base "times_of" 2 F_times_of := cal_times_of T D_times_of g_times_of c_read_time
  have c__law_draw : Cal P w K mg base "_law_draw" 1 F__law_draw := cal__law_draw T D__law_draw g__law_draw 
  have c__law_pick : Cal P w K mg base "_law_pick" 2 F__law_pick := cal__law_pick T D__law_pick g__law_pick c__law_draw
  have c__law_drum : Cal P w K mg base "_law_drum" 2 F__law_drum := cal__law_drum T D__law_drum g__law_drum c__law_draw
  have c__law_rest : Cal P w K mg base "_law_rest" 1 F__law_rest := cal__law_rest T D__law_rest g__law_rest 
  have c__law_read_holds : Cal P w K mg base "_law_read_holds" 3 F__law_read_holds := cal__law_read_holds T D__law_read_holds g__law_read_holds c__law_rest c_is_drum c_read_time c_spots_under
  exact ok_law T D_law c__law_draw c__law_drum c__law_pick c__law_read_holds c__law_rest c_spots_under c_times_of
end Q_drumwords_k13_whole_spots_go_round
open PySem PySem.W PySem.Calls PyProof.Rows
theorem PySem.Challenge.cw_drumwords_k13_whole_spots_go_round_holds : PySem.Challenge.rw_drumwords_k13_whole_spots_go_round.Holds := by
  w_on; o_law
  refine HandSHeadRun.head_any (r := OpenLaw.row PySem.Challenge.rw_drumwords_k13_whole_spots_go_round) (q := view (OpenLaw.row PySem.Challenge.rw_drumwords_k13_whole_spots_go_round).prog [15]) (H := Q_drumwords_k13_whole_spots_go_round.hk) (ob := Q_drumwords_k13_whole_spots_go_round.ob) (M := 2000) (loose := Q_drumwords_k13_whole_spots_go_round.loose) (d := HandSHeadRun.topDef (OpenLaw.row PySem.Challenge.rw_drumwords_k13_whole_spots_go_round).prog 15) (kwd := []) Q_drumwords_k13_whole_spots_go_round.ob_eq
    (by kernel_rfl) (fun s => by kernel_rfl) Q_drumwords_k13_whole_spots_go_round.run (by kernel_rfl) (by kernel_rfl) (by kernel_rfl) (by rfl) (by first | assumption | decide +kernel) (by decide +kernel) ⟨rfl, rfl, rfl, rfl, rfl, by decide +kernel⟩ ?hw ?hc
  case hw => w_witness2
  case hc =>
    refine Z.walk_z (l := PySem.Challenge.rw_drumwords_k13_whole_spots_go_round) (n := 63) (k := 4) (x := "script") (F := Q_drumwords_k13_whole_spots_go_round.F_law) rfl (by decide) (by kernel_rfl) ⟨rfl, by decide, by decide⟩ Q_drumwords_k13_whole_spots_go_round.law_true ?F
    intro w mg fa h Y G hmg0
    obtain ⟨K, KX, c⟩ := Y
    have hmg : mg ("law" : PySem.Str) = some (.ref fa) := by
      have e : (HandSHeadRun.topDef (OpenLaw.row PySem.Challenge.rw_drumwords_k13_whole_spots_go_round).prog 15).name = ("law" : PySem.Str) := by kernel_rfl
      rw [← e]
      exact hmg0
    obtain ⟨fd, hb, hF⟩ := Q_drumwords_k13_whole_spots_go_round.facts (P := (PySem.Challenge.rw_drumwords_k13_whole_spots_go_round).prog) (w := w) KX G hmg c.t.d
    exact ⟨K, fd, c.more, KX, hb, hF⟩
end
