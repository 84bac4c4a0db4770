import PyProof.Rows.All
import Wide.All
import OpenK.AllK
import Wide.FinOn
import HandS.ForMost
import HandS.ForExc
import HandS.CallSlots
import HandS.HeadHook1
import HandS.HeadHook4
import HandS.Lambda
import HandS.TupAny
import HandS.Conv
import KE.GoesMore
import PyProof.EnumMake
import HandS.Iter
import HandS.Flow
import HandS.Style
import HandS.TupLe
import HandS.Deep
import HandS.Zip
import HandS.SortInts
import KE.LtData
import HandS.IsInst
import HandS.More
import HandS.Defaults
import HandS.SetFor
import HandS.Nested
import KE.KDictPairs
import HandS.TryMany
import HandS.ExcOwn
import KE.KStateDown
import Lean
import HandS.Ends
import HandS.Words
import HandS.WordsExc
import HandS.Head0
import HandS.Head1
import HandS.Head2
import HandS.HeadEnd
import HandS.HeadHook2
import HandS.HeadHook3
import HandS.HeadWalk
import PySem.Challenge.RW_drumwords_k32_whole_bounds_of_sums
section
set_option Elab.async false
set_option linter.all false
set_option maxRecDepth 100000
set_option autoImplicit false
set_option maxHeartbeats 1000000
namespace Z
open PySem L2

/-! ### data: values, boxes, outcomes -/
inductive Sl where
  | d (x : PyData)
  | box (n : Nat)
  | sub (n : Nat)
  | pr (x : PyData) (n : Nat)
  | fn
inductive Box where
  | lst (ds : List PyData)
  | dic (kvs : List (Key × PyData))
  | dit (kvs : List (List Key × PyData))
  | ins (C : Str) (fs : List (Str × PyData)) (g : Str) (kvs : List (Key × PyData))
  | inz (C : Str) (fs : List (Str × PyData))
  | scr (ns : List Int)
  | dead
abbrev Sto := List Box
abbrev Env1 := List (Option Sl)
inductive Out (α : Type) where
  | val (a : α) (S : Sto)
  | exc (c : Str) (S : Sto)
  | bad
def Out.bind {α β : Type} (o : Out α) (f : α → Sto → Out β) : Out β := match o with
  | .val a S => f a S
  | .exc c S => .exc c S
  | .bad => .bad
theorem bind_val {α β : Type} {a : α} {S : Sto} {f : α → Sto → Out β} : (Out.val a S).bind f = f a S := rfl
theorem bind_exc {α β : Type} {c : Str} {S : Sto} {f : α → Sto → Out β} : (Out.exc c S : Out α).bind f = .exc c S := rfl
theorem bind_bad {α β : Type} {f : α → Sto → Out β} : (Out.bad : Out α).bind f = .bad := rfl
def ofOpt {α : Type} (o : Option α) (S : Sto) : Out α := match o with
  | some a => .val a S
  | none => .bad
theorem ofOpt_some {α : Type} {a : α} {S : Sto} : ofOpt (some a) S = .val a S := rfl
theorem ofOpt_none {α : Type} {S : Sto} : (ofOpt (none : Option α) S) = .bad := rfl
abbrev ZE := Env1 → Sto → Out Sl
abbrev ZT := Env1 → Sto → Out Bool
abbrev ZA := Env1 → Sto → Out (List Sl)
abbrev ZI := Env1 → Sto → Out (List PyData)
/-- a new mutable object -/
abbrev ZF := Env1 → Sto → Out Box
abbrev Fn := List Sl → Sto → Out Sl

/-! ### what stands for what -/
section
variable {K : PySem.W.Frag}
theorem same_t {H H' : Hp} {a : Addr} {xs : List V} (e : Same H H') (h : SqT K H a xs) : SqT K H' a xs := by
  rcases h with (h | ⟨o, h⟩) | h
  · exact .inl (.inl (e _ _ h))
  · exact .inl (.inr ⟨o, e _ _ h⟩)
  · exact .inr h
theorem same_upd {H : Hp} {p : Addr} {o : HO} (h : H p = none) : Same H (upd H p o) := fun b x e => by
  rw [upd_ne (ne_of_none e h)]
  exact e
end
mutual
theorem dp_mono {K : PySem.W.Frag} {H H' : Hp} (e : Same H H') : ∀ {v : V} {d : PyData}, Dp K H v d → Dp K H' v d
  | _, _, .non => .non
  | _, _, .bl b => .bl b
  | _, _, .int i => .int i
  | _, _, .str x => .str x
  | _, _, .lst s a => .lst (e.seq s) (dpAll_mono e a)
  | _, _, .tup s a => .tup (same_t e s) (dpAll_mono e a)
theorem dpAll_mono {K : PySem.W.Frag} {H H' : Hp} (e : Same H H') : ∀ {vs : List V} {ds : List PyData}, DpAll K H vs ds → DpAll K H' vs ds
  | _, _, .nil => .nil
  | _, _, .cons a b => .cons (dp_mono e a) (dpAll_mono e b)
end
abbrev KvOk {κ : Type} (K : PySem.W.Frag) (Hd : Hp) : List (κ × V) → List (κ × PyData) → Prop := Paired fun p q => p.1 = q.1 ∧ Dp K Hd p.2 q.2
theorem kv_mono {κ : Type} {K : PySem.W.Frag} {H H' : Hp} (e : Same H H') : ∀ {a : List (κ × V)} {b : List (κ × PyData)}, KvOk K H a b → KvOk K H' a b
  | _, _, .nil => .nil
  | _, _, .cons h t => .cons ⟨h.1, dp_mono e h.2⟩ (kv_mono e t)
abbrev Ads := List (List Addr)
structure Grow (ρ : Ads) (Hd : Hp) (ρ' : Ads) (Hd' : Hp) : Prop where
  h : Same Hd Hd'
  r : ∃ t, ρ' = ρ ++ t
theorem Grow.refl {ρ : Ads} {Hd : Hp} : Grow ρ Hd ρ Hd := ⟨Same.refl _, [], by simp⟩
theorem Grow.trans {ρ ρ1 ρ2 : Ads} {Hd H1 H2 : Hp} (a : Grow ρ Hd ρ1 H1) (b : Grow ρ1 H1 ρ2 H2) : Grow ρ Hd ρ2 H2 := by
  obtain ⟨a1, t1, rfl⟩ := a
  obtain ⟨b1, t2, rfl⟩ := b
  exact ⟨a1.trans b1, t1 ++ t2, by simp⟩
theorem Grow.hd {ρ : Ads} {Hd Hd' : Hp} (h : Same Hd Hd') : Grow ρ Hd ρ Hd' := ⟨h, [], by simp⟩
theorem Grow.get {ρ ρ' : Ads} {Hd Hd' : Hp} (g : Grow ρ Hd ρ' Hd') {n : Nat} {x : List Addr} (h : ρ[n]? = some x) : ρ'[n]? = some x := by
  obtain ⟨_, t, rfl⟩ := g
  obtain ⟨hl, _⟩ := List.getElem?_eq_some_iff.mp h
  rw [List.getElem?_append_left hl]
  exact h
/-- a closure that a def has got, and from where on -/
structure Fi where
  f : Addr
  ρ0 : Ads
  Hd0 : Hp
structure KF where
  K : PySem.W.Frag
  φ : Fi
instance : CoeOut KF PySem.W.Frag := ⟨KF.K⟩
structure CxF where
  X : Cx
  φ : Fi
instance : CoeOut CxF Cx := ⟨CxF.X⟩
abbrev CxF.K (X : CxF) : KF := ⟨X.X.K, X.φ⟩
abbrev CxF.prog (X : CxF) : Program := X.X.prog
abbrev CxF.w (X : CxF) : World := X.X.w
abbrev CxF.mg (X : CxF) : Str → Option Value := X.X.mg
abbrev CxF.base (X : CxF) : Heap := X.X.base
abbrev CxF.A (X : CxF) : Around := X.X.A
abbrev CxF.N (X : CxF) : List Str := X.X.N
abbrev CxF.env (X : CxF) : Env := X.X.env
abbrev CxF.calm (X : CxF) : Bool := X.X.calm
abbrev CxF.fn (X : CxF) : Str → Bool := X.X.fn
abbrev CxF.xe (X : CxF) : Value → Shared → Prop := X.X.xe
abbrev CxF.stack (X : CxF) : List Env := X.X.stack
def fi0 : Fi := ⟨0, [], fun _ => none⟩
theorem grow0 {ρ : Ads} {Hd : Hp} : Grow [] (fun _ => none) ρ Hd := ⟨fun _ _ z => (nomatch z), ρ, rfl⟩
/-! ### tables of code objects -/
def lamDefs : List (Str × Option Str) := [("run", none), ("path", none), ("work", none), ("as_wanted", none), ("_law_due", none)]
def tabbed (K : PySem.W.Frag) (p : Str × Option Str) : Bool := PySem.W.codeHdIn K (He.cT K p).1 (He.cT K p).2 && (K.lookup (He.cT K p).2).isNone
def tfOf (K : PySem.W.Frag) : List (Str × Option Str) := lamDefs.filter (tabbed K)
def lamQ (p : Str × Option Str) : Str := p.1 ++ ".<locals>." ++ "<lambda>"
def TabOk (Hd H : Hp) (P : Addr) (q : Str) : Prop := ∃ ps : Array Value, H P = some (.tbl ps) ∧ TriplesOk ps.toList ∧ ∀ (pos : Pos) (cv : Value), codeAmong pos ps.toList = some cv → ∃ c, cv = .ref c ∧ Hd c = some (LamX.CodeO c q)
theorem TabOk.congr {Hd Hd' H H' : Hp} {P : Addr} {q : Str} (e : Same Hd Hd') (h : H' P = H P) : TabOk Hd H P q → TabOk Hd' H' P q := fun ⟨ps, a, b, c⟩ =>
  ⟨ps, h.trans a, b, fun pos cv z => let ⟨d, e1, e2⟩ := c pos cv z; ⟨d, e1, e _ _ e2⟩⟩
def SlIs (K : KF) (ρ : Ads) (Hd : Hp) (v : V) : Sl → Prop
  | .d x => Dp K Hd v x
  | .box n => ∃ a r, v = .ref a ∧ ρ[n]? = some (a :: r)
  | .sub n => ∃ a b r, v = .ref b ∧ ρ[n]? = some (a :: b :: r)
  | .pr x n => ∃ t v1 a r, v = .ref t ∧ SqT K Hd t [v1, .ref a] ∧ Dp K Hd v1 x ∧ ρ[n]? = some (a :: r)
  | .fn => v = .ref K.φ.f
def BoxOk (K : PySem.W.Frag) (Hd H : Hp) (as : List Addr) : Box → Prop
  | .lst ds => ∃ a vs, as = [a] ∧ H a = some (.lst vs) ∧ DpAll K Hd vs ds
  | .dic kvs => ∃ a us, as = [a] ∧ H a = some (.dK us) ∧ KvOk K Hd us kvs
  | .dit kvs => ∃ a us, as = [a] ∧ H a = some (.dT us) ∧ KvOk K Hd us kvs
  | .ins C fs g kvs => ∃ a b dx gs us, as = [a, b] ∧ H a = some (.ins (He.ga K C) dx gs) ∧ gs.length ≤ 100 ∧ (∀ f x, fs.lookup f = some x → ∃ v, gs.lookup f = some v ∧ Dp K Hd v x) ∧ gs.lookup g = some (.ref b) ∧ H b = some (.dK us) ∧ KvOk K Hd us kvs ∧ ∀ f, f ≠ g → fs.lookup f = none → gs.lookup f = none
  | .inz C fs => ∃ a dx gs, as = [a] ∧ H a = some (.ins (He.ga K C) dx gs) ∧ gs.length ≤ 100 ∧ (∀ f x, fs.lookup f = some x → ∃ v, gs.lookup f = some v ∧ Dp K Hd v x)
  | .scr ns => ∃ a, as = a :: (tfOf K).map (fun p => (He.cT K p).2) ∧ (H a = some (.lst (ns.map V.int)) ∨ ∃ o, H a = some (.frz o (.lst (ns.map V.int)))) ∧ ∀ p ∈ tfOf K, TabOk Hd H (He.cT K p).2 (lamQ p)
  | .dead => True
def NoFz : HO → Prop
  | .frz o (.tup _) => o.dict = none
  | .frz _ _ => False
  | .tup _ => False
  | _ => True
theorem SlIs.grow {K : KF} {ρ ρ' : Ads} {Hd Hd' : Hp} (g : Grow ρ Hd ρ' Hd') {v : V} : ∀ {x : Sl}, SlIs K ρ Hd v x → SlIs K ρ' Hd' v x
  | .d _, h => dp_mono g.h h
  | .box _, ⟨a, r, e, h⟩ => ⟨a, r, e, g.get h⟩
  | .sub _, ⟨a, b, r, e, h⟩ => ⟨a, b, r, e, g.get h⟩
  | .pr _ _, ⟨t, v1, a, r, e, h1, h2, h3⟩ => ⟨t, v1, a, r, e, same_t g.h h1, dp_mono g.h h2, g.get h3⟩
  | .fn, h => h
abbrev SlAll (K : KF) (ρ : Ads) (Hd : Hp) : List V → List Sl → Prop := Paired (SlIs K ρ Hd)
theorem SlAll.grow {K : KF} {ρ ρ' : Ads} {Hd Hd' : Hp} (g : Grow ρ Hd ρ' Hd') : ∀ {vs : List V} {xs : List Sl}, SlAll K ρ Hd vs xs → SlAll K ρ' Hd' vs xs
  | _, _, .nil => .nil
  | _, _, .cons h t => .cons (h.grow g) (SlAll.grow g t)
structure Rel (K : KF) (F : Hp) (ρ : Ads) (Hd H : Hp) (S : Sto) : Prop where
  gr : Grow K.φ.ρ0 K.φ.Hd0 ρ Hd
  hd : Same Hd H
  fr : Same F H
  dj : ∀ a o, F a = some o → Hd a = none
  nf : ∀ a o, Hd a = some o → NoFz o
  nk : ∀ a o, K.K.lookup a = some o → o.cls ≠ .type "list" ∧ (o.cls = .type "tuple" → o.dict = none)
  len : ρ.length = S.length
  nd : ρ.flatten.Nodup
  trk : ∀ a ∈ ρ.flatten, H a ≠ none
  box : ∀ (i : Nat) (b : Box) (as : List Addr), S[i]? = some b → ρ[i]? = some as → b ≠ .dead → (∀ a ∈ as, F a = none ∧ Hd a = none) ∧ BoxOk K Hd H as b
def Slots (K : KF) (ρ : Ads) (Hd : Hp) (σ : L2.St) (Γ : Env1) : Prop :=
  Γ.length = σ.length ∧ ∀ (i : Nat) (x : Sl), Γ[i]? = some (some x) → ∃ v, σ[i]? = some (some v) ∧ SlIs K ρ Hd v x
theorem Slots.grow {K : KF} {ρ ρ' : Ads} {Hd Hd' : Hp} {σ : L2.St} {Γ : Env1} (g : Grow ρ Hd ρ' Hd') (h : Slots K ρ Hd σ Γ) : Slots K ρ' Hd' σ Γ :=
  ⟨h.1, fun i x e => let ⟨v, a, b⟩ := h.2 i x e; ⟨v, a, b.grow g⟩⟩
theorem Slots.set {K : KF} {ρ : Ads} {Hd : Hp} {σ : L2.St} {Γ : Env1} {i : Nat} {v : V} {x : Sl} (h : Slots K ρ Hd σ Γ) (hv : SlIs K ρ Hd v x) : Slots K ρ Hd (σ.set i (some v)) (Γ.set i (some x)) := by
  refine ⟨by rw [List.length_set, List.length_set]; exact h.1, fun j y e => ?_⟩
  by_cases hj : i = j
  · subst hj
    by_cases hi : i < Γ.length
    · rw [List.getElem?_set_self hi] at e
      cases e
      exact ⟨v, List.getElem?_set_self (by rw [← h.1]; exact hi), hv⟩
    · rw [List.getElem?_eq_none (by rw [List.length_set]; omega)] at e
      cases e
  · rw [List.getElem?_set_ne hj] at e
    rw [List.getElem?_set_ne hj]
    exact h.2 j y e
theorem Slots.none {K : KF} {ρ : Ads} {Hd : Hp} {σ : L2.St} {Γ : Env1} {i : Nat} (h : Slots K ρ Hd σ Γ) : Slots K ρ Hd (σ.set i none) (Γ.set i none) := by
  refine ⟨by rw [List.length_set, List.length_set]; exact h.1, fun j y e => ?_⟩
  by_cases hj : i = j
  · subst hj
    by_cases hi : i < Γ.length
    · rw [List.getElem?_set_self hi] at e
      cases e
    · rw [List.getElem?_eq_none (by rw [List.length_set]; omega)] at e
      cases e
  · rw [List.getElem?_set_ne hj] at e
    rw [List.getElem?_set_ne hj]
    exact h.2 j y e
/-- some slots are forgotten -/
theorem Slots.weak {K : KF} {ρ : Ads} {Hd : Hp} {σ : L2.St} {Γ Γ' : Env1} (h : Slots K ρ Hd σ Γ) (hl : Γ'.length = Γ.length) (w : ∀ (i : Nat) (x : Sl), Γ'[i]? = some (some x) → Γ[i]? = some (some x)) : Slots K ρ Hd σ Γ' :=
  ⟨hl.trans h.1, fun i x e => h.2 i x (w i x e)⟩

/-! ### the store under the heap's changes -/
theorem BoxOk.congr {K : PySem.W.Frag} {Hd Hd' H H' : Hp} {as : List Addr} (e : Same Hd Hd') (h : ∀ a ∈ as, H' a = H a) : ∀ {b : Box}, BoxOk K Hd H as b → BoxOk K Hd' H' as b
  | .lst _, ⟨a, vs, e1, h1, h2⟩ => ⟨a, vs, e1, by rw [h a (by rw [e1]; simp)]; exact h1, dpAll_mono e h2⟩
  | .dic _, ⟨a, us, e1, h1, h2⟩ => ⟨a, us, e1, by rw [h a (by rw [e1]; simp)]; exact h1, kv_mono e h2⟩
  | .dit _, ⟨a, us, e1, h1, h2⟩ => ⟨a, us, e1, by rw [h a (by rw [e1]; simp)]; exact h1, kv_mono e h2⟩
  | .ins _ _ _ _, ⟨a, b, dx, gs, us, e1, h1, hl, h2, h3, h4, h5, h6⟩ => ⟨a, b, dx, gs, us, e1, by rw [h a (by rw [e1]; simp)]; exact h1, hl, fun f x q => let ⟨v, p1, p2⟩ := h2 f x q; ⟨v, p1, dp_mono e p2⟩, h3, by rw [h b (by rw [e1]; simp)]; exact h4, kv_mono e h5, h6⟩
  | .inz _ _, ⟨a, dx, gs, e1, h1, hl, h2⟩ => ⟨a, dx, gs, e1, by rw [h a (by rw [e1]; simp)]; exact h1, hl, fun f x q => let ⟨v, p1, p2⟩ := h2 f x q; ⟨v, p1, dp_mono e p2⟩⟩
  | .scr _, ⟨a, e1, h1, h2⟩ => ⟨a, e1, by rw [h _ (by rw [e1]; simp)]; exact h1, fun p hp => (h2 p hp).congr e (h _ (by rw [e1]; exact List.mem_cons_of_mem _ (List.mem_map.mpr ⟨p, hp, rfl⟩)))⟩
  | .dead, _ => trivial
theorem mem_flat {ρ : Ads} {i : Nat} {as : List Addr} {a : Addr} (h : ρ[i]? = some as) (ha : a ∈ as) : a ∈ ρ.flatten :=
  List.mem_flatten.mpr ⟨as, List.mem_of_getElem? h, ha⟩
theorem flat_ne : ∀ {ρ : Ads} {i j : Nat} {as bs : List Addr} {a b : Addr}, ρ.flatten.Nodup → ρ[i]? = some as → ρ[j]? = some bs → i ≠ j → a ∈ as → b ∈ bs → a ≠ b
  | [], _, _, _, _, _, _, _, h, _, _, _, _ => by simp at h
  | r :: ρ, 0, 0, _, _, _, _, _, _, _, h, _, _ => absurd rfl h
  | r :: ρ, 0, j + 1, as, bs, a, b, nd, h1, h2, _, ha, hb => by
    rw [List.flatten_cons] at nd
    have e : r = as := by simpa using h1
    subst e
    have := (List.nodup_append.mp nd).2.2 a ha b (mem_flat (by simpa using h2) hb)
    exact this
  | r :: ρ, i + 1, 0, as, bs, a, b, nd, h1, h2, _, ha, hb => by
    rw [List.flatten_cons] at nd
    have e : r = bs := by simpa using h2
    subst e
    have := (List.nodup_append.mp nd).2.2 b hb a (mem_flat (by simpa using h1) ha)
    exact this.symm
  | r :: ρ, i + 1, j + 1, as, bs, a, b, nd, h1, h2, h, ha, hb => by
    rw [List.flatten_cons] at nd
    exact flat_ne (List.nodup_append.mp nd).2.1 (by simpa using h1) (by simpa using h2) (fun e => h (by rw [e])) ha hb
section
variable {K : KF} {F : Hp} {ρ : Ads} {Hd H : Hp} {S : Sto}
theorem Rel.ne_new (r : Rel K F ρ Hd H S) {p : Addr} (hp : H p = none) {a : Addr} (ha : a ∈ ρ.flatten) : a ≠ p := fun e => by
  rw [e] at ha
  exact r.trk p ha hp
/-- a new object that nothing is said of -/
theorem Rel.junk (r : Rel K F ρ Hd H S) {p : Addr} {o : HO} (hp : H p = none) : Rel K F ρ Hd (upd H p o) S :=
  ⟨r.gr, r.hd.trans (same_upd hp), r.fr.trans (same_upd hp), r.dj, r.nf, r.nk, r.len, r.nd, fun a ha => by
    rw [upd_ne (r.ne_new hp ha)]
    exact r.trk a ha, fun i b as h1 h2 h3 => ⟨(r.box i b as h1 h2 h3).1, (r.box i b as h1 h2 h3).2.congr (Same.refl _) fun a ha => upd_ne (r.ne_new hp (mem_flat h2 ha))⟩⟩
/-- a new object that is data -/
theorem Rel.newD (r : Rel K F ρ Hd H S) {p : Addr} {o : HO} (hp : H p = none) (ho : NoFz o := by exact True.intro) : Rel K F ρ (upd Hd p o) (upd H p o) S := by
  have hdp : Hd p = none := r.hd.free hp
  refine ⟨r.gr.trans (.hd (same_upd hdp)), fun a u e => ?_, r.fr.trans (same_upd hp), fun a o e => by
    rw [upd_ne (ne_of_none (r.fr _ _ e) hp)]
    exact r.dj a o e, fun a u e => by
    by_cases q : a = p
    · rw [q, upd_same] at e
      cases e
      exact ho
    · rw [upd_ne q] at e
      exact r.nf a u e, r.nk, r.len, r.nd, fun a ha => by
    rw [upd_ne (r.ne_new hp ha)]
    exact r.trk a ha, fun i b as h1 h2 h3 => ⟨fun a ha => ?_, (r.box i b as h1 h2 h3).2.congr (same_upd hdp) fun a ha => upd_ne (r.ne_new hp (mem_flat h2 ha))⟩⟩
  · by_cases q : a = p
    · subst q
      rw [upd_same] at e ⊢
      exact e
    · rw [upd_ne q] at e ⊢
      exact r.hd _ _ e
  · obtain ⟨x, y⟩ := (r.box i b as h1 h2 h3).1 a ha
    exact ⟨x, by rw [upd_ne (r.ne_new hp (mem_flat h2 ha))]; exact y⟩
theorem Rel.grD (r : Rel K F ρ Hd H S) {p : Addr} {o : HO} (hp : H p = none) : Grow ρ Hd ρ (upd Hd p o) := .hd (same_upd (r.hd.free hp))
theorem Rel.fr_free (r : Rel K F ρ Hd H S) {p : Addr} (hp : H p = none) : F p = none := r.fr.free hp
/-- a new object is put into the store -/
theorem Rel.newB (r : Rel K F ρ Hd H S) {p : Addr} {b : Box} (hp : p ∉ ρ.flatten) (hf : F p = none) (hd : Hd p = none) (ht : H p ≠ none) (ok : BoxOk K Hd H [p] b) : Rel K F (ρ ++ [[p]]) Hd H (S ++ [b]) := by
  refine ⟨r.gr.trans ⟨Same.refl _, [[p]], rfl⟩, r.hd, r.fr, r.dj, r.nf, r.nk, by simp [r.len], ?_, fun a ha => ?_, fun i c as h1 h2 h3 => ?_⟩
  · rw [List.flatten_append]
    refine List.nodup_append.mpr ⟨r.nd, by simp, fun a ha b hb => ?_⟩
    have e : b = p := by simpa using hb
    intro q
    exact hp (by rw [← e, ← q]; exact ha)
  · rw [List.flatten_append] at ha
    rcases List.mem_append.mp ha with h | h
    · exact r.trk a h
    · have e : a = p := by simpa using h
      rw [e]
      exact ht
  · by_cases hi : i < S.length
    · rw [List.getElem?_append_left hi] at h1
      rw [List.getElem?_append_left (by rw [r.len]; exact hi)] at h2
      exact r.box i c as h1 h2 h3
    · have e : i = S.length := by
        have := (List.getElem?_eq_some_iff.mp h1).1
        rw [List.length_append, List.length_singleton] at this
        omega
      subst e
      have e1 : b = c := by simpa using h1
      have e2 : [p] = as := by
        rw [← r.len] at h2
        simpa using h2
      subst e1 e2
      refine ⟨fun a ha => ?_, ok⟩
      have e : a = p := by simpa using ha
      rw [e]
      exact ⟨hf, hd⟩
theorem Rel.grB {p : Addr} : Grow ρ Hd (ρ ++ [[p]]) Hd := ⟨Same.refl _, [[p]], rfl⟩
/-- an object of the store is changed -/
theorem Rel.write (r : Rel K F ρ Hd H S) {n : Nat} {b b' : Box} {as : List Addr} {a : Addr} {o : HO} (h1 : S[n]? = some b) (h2 : ρ[n]? = some as) (h3 : b ≠ .dead) (ha : a ∈ as) (ok : BoxOk K Hd (upd H a o) as b') : Rel K F ρ Hd (upd H a o) (S.set n b') := by
  obtain ⟨fr, _⟩ := r.box n b as h1 h2 h3
  obtain ⟨fa, da⟩ := fr a ha
  refine ⟨r.gr, fun c u e => ?_, fun c u e => ?_, r.dj, r.nf, r.nk, by rw [List.length_set]; exact r.len, r.nd, fun c hc => ?_, fun i c cs g1 g2 g3 => ?_⟩
  · rw [upd_ne (ne_of_none e da)]
    exact r.hd _ _ e
  · rw [upd_ne (ne_of_none e fa)]
    exact r.fr _ _ e
  · by_cases q : c = a
    · rw [q, upd_same]
      simp
    · rw [upd_ne q]
      exact r.trk c hc
  · by_cases q : n = i
    · subst q
      rw [List.getElem?_set_self (List.getElem?_eq_some_iff.mp h1).1] at g1
      rw [h2] at g2
      cases g1
      cases g2
      exact ⟨fr, ok⟩
    · rw [List.getElem?_set_ne q] at g1
      obtain ⟨x, y⟩ := r.box i c cs g1 g2 g3
      exact ⟨x, y.congr (Same.refl _) fun d hd => upd_ne (flat_ne r.nd g2 h2 (Ne.symm q) hd ha)⟩
/-- the store is cut off -/
theorem Rel.take (r : Rel K F ρ Hd H S) (n : Nat) (hn : K.φ.ρ0.length ≤ n) : Rel K F (ρ.take n) Hd H (S.take n) := by
  have sub : (ρ.take n).flatten <+: ρ.flatten := ⟨(ρ.drop n).flatten, by rw [← List.flatten_append, List.take_append_drop]⟩
  refine ⟨⟨r.gr.h, ((ρ.drop K.φ.ρ0.length).take (n - K.φ.ρ0.length)), by
    obtain ⟨_, t, e⟩ := r.gr
    rw [e, List.take_append, List.take_of_length_le hn, List.drop_append, List.drop_length]
    simp⟩, r.hd, r.fr, r.dj, r.nf, r.nk, by simp [r.len], r.nd.sublist sub.sublist, fun a ha => r.trk a (sub.subset ha), fun i b as h1 h2 h3 => ?_⟩
  by_cases hi : i < n
  · rw [List.getElem?_take_of_lt hi] at h1 h2
    exact r.box i b as h1 h2 h3
  · rw [List.getElem?_eq_none (by rw [List.length_take]; omega)] at h1
    cases h1
/-- a list of the store becomes data -/
theorem Rel.freeze (r : Rel K F ρ Hd H S) {n : Nat} {ds : List PyData} {a : Addr} {as : List Addr} (h1 : S[n]? = some (.lst ds)) (h2 : ρ[n]? = some (a :: as)) :
    ∃ Hd', Same Hd Hd' ∧ Rel K F ρ Hd' H (S.set n .dead) ∧ Dp K Hd' (.ref a) (.list ds) := by
  obtain ⟨fr, a', vs, e, hv, hds⟩ := r.box n _ _ h1 h2 (by simp)
  have e1 : a = a' := by simpa using (List.cons.inj e).1
  subst e1
  have da : Hd a = none := (fr a (by simp)).2
  refine ⟨upd Hd a (.lst vs), same_upd da, ⟨r.gr.trans (.hd (same_upd da)), fun c u q => ?_, r.fr, fun c o q => by
    rw [upd_ne (ne_of_none q (fr a (by simp)).1)]
    exact r.dj c o q, fun c u q => by
    by_cases z : c = a
    · rw [z, upd_same] at q
      cases q
      exact True.intro
    · rw [upd_ne z] at q
      exact r.nf c u q, r.nk, by rw [List.length_set]; exact r.len, r.nd, r.trk, fun i b bs g1 g2 g3 => ?_⟩, .lst (SqL.of upd_same) (dpAll_mono (same_upd da) hds)⟩
  · by_cases z : c = a
    · subst z
      rw [upd_same] at q
      rw [hv]
      exact q
    · rw [upd_ne z] at q
      exact r.hd _ _ q
  · by_cases q : n = i
    · subst q
      rw [List.getElem?_set_self (List.getElem?_eq_some_iff.mp h1).1] at g1
      cases g1
      exact absurd rfl g3
    · rw [List.getElem?_set_ne q] at g1
      obtain ⟨x, y⟩ := r.box i b bs g1 g2 g3
      refine ⟨fun c hc => ⟨(x c hc).1, ?_⟩, y.congr (same_upd da) fun _ _ => rfl⟩
      rw [upd_ne (flat_ne r.nd g2 h2 (Ne.symm q) hc (by simp))]
      exact (x c hc).2
/-- the frame grows by a new object, shrinks again -/
theorem Rel.frame (r : Rel K F ρ Hd H S) {p : Addr} {o : HO} (hp : H p = some o) (hr : p ∉ ρ.flatten) (hd : Hd p = none) : Rel K (upd F p o) ρ Hd H S := by
  refine ⟨r.gr, r.hd, fun c u e => ?_, fun c u e => ?_, r.nf, r.nk, r.len, r.nd, r.trk, fun i b as h1 h2 h3 => ?_⟩
  · by_cases q : c = p
    · subst q
      rw [upd_same] at e
      rw [hp]
      exact e
    · rw [upd_ne q] at e
      exact r.fr _ _ e
  · by_cases q : c = p
    · rw [q]
      exact hd
    · rw [upd_ne q] at e
      exact r.dj _ _ e
  · obtain ⟨x, y⟩ := r.box i b as h1 h2 h3
    refine ⟨fun c hc => ⟨?_, (x c hc).2⟩, y⟩
    rw [upd_ne (fun q => hr (by rw [← q]; exact mem_flat h2 hc))]
    exact (x c hc).1
theorem Rel.unframe {F' : Hp} (r : Rel K F' ρ Hd H S) (h : Same F F') : Rel K F ρ Hd H S :=
  ⟨r.gr, r.hd, h.trans r.fr, fun a o e => r.dj a o (h _ _ e), r.nf, r.nk, r.len, r.nd, r.trk, fun i b as h1 h2 h3 => ⟨fun c hc => ⟨h.free ((r.box i b as h1 h2 h3).1 c hc).1, ((r.box i b as h1 h2 h3).1 c hc).2⟩, (r.box i b as h1 h2 h3).2⟩⟩
end

theorem Rel.ρle {K : KF} {F : Hp} {ρ : Ads} {Hd H : Hp} {S : Sto} (r : Rel K F ρ Hd H S) : K.φ.ρ0.length ≤ ρ.length := by
  obtain ⟨_, t, e⟩ := r.gr
  rw [e, List.length_append]
  omega
/-- a list that is data is a plain one -/
theorem Rel.plain {K : KF} {F : Hp} {ρ : Ads} {Hd H : Hp} {S : Sto} (r : Rel K F ρ Hd H S) {a : Addr} {vs : List V} (h : SqL K Hd a vs) : Hd a = some (.lst vs) := by
  rcases h with (h | ⟨o, h⟩) | ⟨o, its, n, hk, hc, _⟩
  · exact h
  · exact (r.nf _ _ h).elim
  · exact absurd hc (r.nk _ _ hk).1
/-! ### what is wanted behind, the judgements -/
def Aft {α β : Type} (K : KF) (F : Hp) (W : WX) (σ : L2.St) (rel : Ads → Hp → β → α → Prop) (Q : β → Hp → Prop) (ρ : Ads) (Hd : Hp) : Out α → Prop
  | .val x S => ∀ v H' ρ' Hd', Grow ρ Hd ρ' Hd' → Rel K F ρ' Hd' H' S → rel ρ' Hd' v x → Q v H'
  | .exc c S => ∀ H' ρ' Hd', Grow ρ Hd ρ' Hd' → Rel K F ρ' Hd' H' S → W (.ref (He.ga K c)) none σ H'
  | .bad => False
theorem Aft.grow {α β : Type} {K : KF} {F : Hp} {W : WX} {σ : L2.St} {rel : Ads → Hp → β → α → Prop} {Q : β → Hp → Prop} {ρ ρ' : Ads} {Hd Hd' : Hp} (g : Grow ρ Hd ρ' Hd') : ∀ {o : Out α}, Aft K F W σ rel Q ρ Hd o → Aft K F W σ rel Q ρ' Hd' o
  | .val _ _, h => fun v H' ρ2 Hd2 g2 r x => h v H' ρ2 Hd2 (g.trans g2) r x
  | .exc _ _, h => fun H' ρ2 Hd2 g2 r => h H' ρ2 Hd2 (g.trans g2) r
  | .bad, h => h
/-- THE JOINT -/
theorem aft_bind {α β α' β' : Type} {K : KF} {F : Hp} {W : WX} {σ : L2.St} {rel : Ads → Hp → β → α → Prop} {rel' : Ads → Hp → β' → α' → Prop} {Q' : β' → Hp → Prop} {ρ : Ads} {Hd : Hp} {o : Out α} {f : α → Sto → Out α'}
    (h : Aft K F W σ rel' Q' ρ Hd (o.bind f)) : Aft K F W σ rel (fun v H' => ∃ ρ' Hd' x S', Grow ρ Hd ρ' Hd' ∧ Rel K F ρ' Hd' H' S' ∧ rel ρ' Hd' v x ∧ Aft K F W σ rel' Q' ρ' Hd' (f x S')) ρ Hd o := by
  cases o with
  | val x S => exact fun v H' ρ' Hd' g r hx => ⟨ρ', Hd', x, S, g, r, hx, Aft.grow g h⟩
  | exc c S => exact h
  | bad => exact h
theorem Aft.imp {α β : Type} {K : KF} {F : Hp} {W : WX} {σ : L2.St} {rel : Ads → Hp → β → α → Prop} {Q Q' : β → Hp → Prop} {ρ : Ads} {Hd : Hp} {o : Out α} (h : Aft K F W σ rel Q ρ Hd o) (i : ∀ v H', Q v H' → Q' v H') : Aft K F W σ rel Q' ρ Hd o := by
  cases o with
  | val x S => exact fun v H' ρ' Hd' g r hx => i _ _ (h v H' ρ' Hd' g r hx)
  | exc c S => exact h
  | bad => exact h
/-- a reading is sound for a meaning -/
def Snd {α β : Type} (K : KF) (W : WX) (rel : Ads → Hp → β → α → Prop) (t : L2.St → Hp → (β → Hp → Prop) → Prop) (z : Env1 → Sto → Out α) : Prop :=
  ∀ (F : Hp) (σ : L2.St) (H : Hp) (Q : β → Hp → Prop) (Γ : Env1) (S : Sto) (ρ : Ads) (Hd : Hp), Rel K F ρ Hd H S → Slots K ρ Hd σ Γ → Aft K F W σ rel Q ρ Hd (z Γ S) → t σ H Q
def eqB : Ads → Hp → Bool → Bool → Prop := fun _ _ a b => a = b
/-- a new object, not in the store, not data yet -/
def FrB (K : KF) (F : Hp) (ρ : Ads) (Hd H : Hp) (v : V) (b : Box) : Prop := ∃ p, v = .ref p ∧ p ∉ ρ.flatten ∧ F p = none ∧ Hd p = none ∧ BoxOk K Hd H [p] b
def PZ (X : CxF) (e : Expr) (z : ZE) : Prop := ∀ W, Takes X W → ∃ t : TE, PE X e t ∧ Snd X.K W (SlIs X.K) t z
def PZT (X : CxF) (e : Expr) (z : ZT) : Prop := ∀ W, Takes X W → ∃ t : TT, PT X e t ∧ Snd X.K W eqB t z
def PZA (X : CxF) (es : List Expr) (z : ZA) : Prop := ∀ W, Takes X W → ∃ t : TA, PA X es t ∧ Snd X.K W (SlAll X.K) t z
/-- a new object -/
def AftF (K : KF) (F : Hp) (W : WX) (σ : L2.St) (Q : VK) (ρ : Ads) (Hd : Hp) : Out Box → Prop
  | .val b S => ∀ p H' ρ' Hd', Grow ρ Hd ρ' Hd' → Rel K F ρ' Hd' H' S → p ∉ ρ'.flatten → F p = none → Hd' p = none → H' p ≠ none → BoxOk K Hd' H' [p] b → Q (.ref p) H'
  | .exc c S => ∀ H' ρ' Hd', Grow ρ Hd ρ' Hd' → Rel K F ρ' Hd' H' S → W (.ref (He.ga K c)) none σ H'
  | .bad => False
def SndF (K : KF) (W : WX) (t : TE) (z : ZF) : Prop :=
  ∀ (F : Hp) (σ : L2.St) (H : Hp) (Q : VK) (Γ : Env1) (S : Sto) (ρ : Ads) (Hd : Hp), Rel K F ρ Hd H S → Slots K ρ Hd σ Γ → AftF K F W σ Q ρ Hd (z Γ S) → t σ H Q
def PZF (X : CxF) (e : Expr) (z : ZF) : Prop := ∀ W, Takes X W → ∃ t : TE, PE X e t ∧ SndF X.K W t z
end Z
end
section
set_option Elab.async false
set_option linter.all false
set_option maxRecDepth 100000
set_option autoImplicit false
set_option maxHeartbeats 1000000
namespace Z
open PySem PySem.Spec PyProof.Rows L2
/-! ### tuples that are known to the object: made here, without a dict -/
abbrev FT (o : Obj) (xs : List V) : HO := .frz o (.tup xs)
abbrev NewT (H : Hp) (xs : List V) (Q : VK) : Prop := ∀ (p : Addr) (o : Obj), H p = none → o.dict = none → Q (.ref p) (upd H p (FT o xs))
section
variable {X : Cx} {pins : List (Addr × Obj)} {σ : L2.St} {H : Hp} {s : Shared}
theorem lay_tup {xs : List V} {us : List Value} {h' : Heap} {t' : Nat} {Q : VK} (I : Inv X pins σ H { s with heap := h' }) (r : Vals xs us) (hz : xs.length ≤ sizeLine) (q : NewT H xs Q) :
    EP X pins σ Q (.ref h'.objs.size) { s with heap := h'.push { cls := .type "tuple", data := .seq us.toArray }, toks := t' } := by
  refine ⟨.ref h'.objs.size, _, I.laid (t' := t') (o := FT { cls := .type "tuple", data := .seq us.toArray } xs) (fun b ob e => Heap.get?_push_of_some _ e) (Nat.le_refl _) ?_, rfl, q _ _ (I.hok.fresh (Nat.le_refl _)) rfl⟩
  exact ⟨Heap.get?_push_size _ rfl, hz, us, r, IsTup.new _ _⟩
def rCatF (K : PySem.W.Frag) : R2 := fun x y H Q => ∃ a b xs ys, x = .ref a ∧ y = .ref b ∧ SqT K H a xs ∧ SqT K H b ys ∧ xs.length + ys.length ≤ sizeLine ∧
  (xs = [] → Q (.ref b) H) ∧ (xs ≠ [] → ys = [] → Q (.ref a) H) ∧ (xs ≠ [] → ys ≠ [] → NewT H (xs ++ ys) Q)
theorem op_catF : OpR X (binaryOp .Add) (rCatF X.K) := by
  intro pins s σ H x y v u Q I rx ry hh
  obtain ⟨a, b, xs, ys, rfl, rfl, ta, tb, len, qx, qy, qn⟩ := hh
  cases rx
  cases ry
  obtain ⟨ia, ra, pa, _⟩ := I.tuple ta
  obtain ⟨ib, rb, pb, _⟩ := I.tuple tb
  by_cases ex : xs = []
  · subst ex
    cases ra
    exact cat_tup0 pa pb ⟨.ref b, H, I, rfl, qx rfl⟩
  · refine HT.cat_tup pa pb (fun z => ex (ra.nil_iff.mp z)) (fun z => ⟨.ref a, H, I, rfl, qy ex (rb.nil_iff.mp z)⟩) (fun z => ?_) (by rw [← ra.length, ← rb.length]; exact len)
    exact lay_tup (t' := s.toks) I (ra.append rb) (by rw [List.length_append]; exact len) (qn ex fun e => z (rb.nil_iff.mpr e))
def rSlF (K : PySem.W.Frag) : V → Option Int → Option Int → Hp → VK → Prop := fun x lo hi H Q => ∃ a xs, x = .ref a ∧ SqT K H a xs ∧
  (HT.sIx xs.length 0 lo = 0 ∧ HT.sIx xs.length xs.length hi = xs.length → Q (.ref a) H) ∧ (¬ (HT.sIx xs.length 0 lo = 0 ∧ HT.sIx xs.length xs.length hi = xs.length) → NewT H (cutV xs lo hi) Q)
theorem sl_tupF : SlR X (rSlF X.K) := by
  intro pins s σ H x v vl vu lo hi sl Q I rx hs pl pu hh
  obtain ⟨a, xs, rfl, tx, qw, qn⟩ := hh
  cases rx
  obtain ⟨ia, ra, ta, len⟩ := I.tuple tx
  have el : ia.toArray.size = xs.length := by rw [List.size_toArray]; exact ra.length.symm
  refine ⟨"tuple", _, PyProof.Rows.slot_tuple_getitem.lookup, ta.typeIs, ?_⟩
  by_cases w : HT.sIx xs.length 0 lo = 0 ∧ HT.sIx xs.length xs.length hi = xs.length
  · exact getItem_tuple_whole ta hs pl pu (by rw [el]; exact w) ⟨.ref a, H, I, rfl, qw w⟩
  · refine HT.getItem_tuple_cut ta hs pl pu (by rw [el]; exact w) ?_ (by rw [el]; exact len)
    rw [el]
    exact lay_tup (t' := s.toks) I ((ra.drop (HT.sIx xs.length 0 lo)).take (HT.sIx xs.length xs.length hi - HT.sIx xs.length 0 lo)) (Nat.le_trans (cutV_length xs lo hi) len) (qn w)
theorem call_tupF : CallR X (.type "tuple") (fun xs H Q => ∃ p ys, xs = [.ref p] ∧ ((SqL X.K H p ys ∧ NewT H ys Q) ∨ (SqT X.K H p ys ∧ Q (.ref p) H))) := by
  intro pins s σ H xs us Q I r hh
  obtain ⟨p, ys, rfl, hh⟩ := hh
  obtain ⟨u, rfl, ru⟩ := vals1 r
  cases ru
  rcases hh with ⟨l, q⟩ | ⟨t, q⟩
  · obtain ⟨ip, rp, pl, len⟩ := I.list l
    have el := rp.length
    refine call_tuple_list pl.isList (fun h' keep => ?_) (by simp only [List.size_toArray]; omega)
    have J : Inv X pins σ H { s with heap := h' } := I.kept (t' := s.toks) keep
    exact lay_tup (t' := s.toks) J rp len q
  · obtain ⟨ip, rp, pl, len⟩ := I.tuple t
    exact call_tuple_same pl ⟨.ref p, H, I, rfl, q⟩
def tTupF (t : TA) : TE := fun σ H Q => t σ H fun xs H1 => xs.length ≤ sizeLine ∧ NewT H1 xs Q
theorem pe_tupF {es : List Expr} {t : TA} {k : Nat} {pos : Pos} (h : PA X es t) : PE X (.Tuple es k pos) (tTupF t) := by
  refine ⟨fun pins s σ H Q I hh => ?_⟩
  refine wpAny_Tuple_spliced (thn (h.run pos pins s σ H _ I hh) ?_)
  rintro us s1 ⟨xs, H1, J, r, len, q⟩
  exact ⟨by rw [← r.length]; exact len, lay_tup (t' := s1.toks) J r len q⟩
end
end Z
end
section
set_option Elab.async false
set_option linter.all false
set_option maxRecDepth 100000
namespace Z
open PySem PySem.Spec PyProof.Rows L2
open AutoSeq1 (wpAny_loadPart')
/-! ### enumerate of a tuple -/
theorem enum_newT (l : Addr) (items : Array Value) (n : Nat) (dct : Option Addr) (sl : Array (Option Value)) :
    Meets (Builtin.«enumerate.__new__» ⟨[.type "enumerate", .ref l], []⟩) (fun _ R s => s.heap.get? l = some { cls := .type "tuple", dict := dct, data := .seq items n, slots := sl } ∧ R (.ok (.ret (.ref (s.heap.push { cls := .type "tuple_iterator", data := .fields #[.ref l, .int 0 0] }).objs.size))) { s with heap := (s.heap.push { cls := .type "tuple_iterator", data := .fields #[.ref l, .int 0 0] }).push { cls := .type "enumerate", data := .fields #[.none, .bool false, .ref s.heap.objs.size, rawInt 0, .none, .none] } }) :=
  .of_wp fun prog w A R s ⟨hl, h⟩ => by
    cases s with
    | mk hp g d tk os =>
      have hsub := sub_enumerate
      have hL : Heap.IsTuple (Shared.heap ⟨hp, g, d, tk, os⟩) l items := ⟨_, hl, rfl, n, rfl⟩
      wp_walk using wpAny_loadPart' hl
      refine wpAny_stack_any fun st => (wpAny_pure ?_)
      split
      · rename_i c _ _ _ _ _
        cases (c == Value.type "enumerate") <;> (wp_walk using wpAny_loadPart' hl, wpAny_pyIter_tuple hL; exact ⟨_, rfl, h⟩)
      · wp_walk using wpAny_loadPart' hl, wpAny_pyIter_tuple hL; exact ⟨_, rfl, h⟩
section
variable {prog : Program} {w : World} {A : Around} {E : Value → Shared → Prop} {s : Shared}
theorem call_enumT {l : Addr} {items : Array Value} {Q : Value → Shared → Prop} (hL : IsTup s.heap l items)
    (h : ∀ h', IsEnum h' (s.heap.objs.size + 1) s.heap.objs.size 0 .none → h'.IsTupleIter s.heap.objs.size l 0 → h'.objs.size = s.heap.objs.size + 2 → (∀ b o, s.heap.get? b = some o → h'.get? b = some o) → Q (.ref (s.heap.objs.size + 1)) { s with heap := h' }) :
    wpAny (model prog w) A (call (.type "enumerate") [.ref l]) Q E s := by
  rcases hL with ⟨⟨c, dct, dt, sl⟩, hl, hc, n, hd⟩
  cases (show c = .type "tuple" from hc)
  cases (show dt = .seq items n from hd)
  refine callType_new F.called_enumerate (by decide) (F.typeCall_enumerate_1 _) (F.newCall_enumerate_1 _) (fun obj => F.args_object_init_2 obj _) F.entry_enumerate_new (enum_newT l items n dct sl) ⟨hl, ?_⟩
  have hz : (s.heap.push { cls := .type "tuple_iterator", data := .fields #[.ref l, .int 0 0] }).objs.size = s.heap.objs.size + 1 := Heap.size_push ..
  show _ ∧ _
  rw [hz]
  have he : IsEnum ((s.heap.push { cls := .type "tuple_iterator", data := .fields #[.ref l, .int 0 0] }).push { cls := .type "enumerate", data := .fields #[.none, .bool false, .ref s.heap.objs.size, rawInt 0, .none, .none] }) (s.heap.objs.size + 1) s.heap.objs.size 0 .none := by
    have z := Heap.get?_push_size (s.heap.push { cls := .type "tuple_iterator", data := .fields #[.ref l, .int 0 0] }) (o := { cls := .type "enumerate", data := .fields #[.none, .bool false, .ref s.heap.objs.size, rawInt 0, .none, .none] }) rfl
    rwa [hz] at z
  exact ⟨⟨_, he, rfl⟩, h _ he ⟨_, Heap.get?_push_of_some _ (Heap.get?_push_size _ rfl), rfl, rfl⟩ (by rw [Heap.size_push, hz]) fun b o x => Heap.get?_push_of_some _ (Heap.get?_push_of_some _ x)⟩
theorem next_enumT_end {e it l : Addr} {i : Nat} {items : Array Value} {old : Value} {Q : Option Value → Shared → Prop} (hh : A.handled = none) (he : IsEnum s.heap e it i old) (hit : s.heap.IsTupleIter it l i) (hl : s.heap.IsTuple l items) (hx : items[i]? = none)
    (hQ : ∀ h', Heap.ExtBut it s.heap h' → Q none { s with heap := h' }) : wpAny (model prog w) A (pyNext (.ref e)) Q E s := by
  have hT : s.TypeIs (.ref e) "enumerate" := ⟨_, he, rfl⟩
  unfold pyNext
  refine wpAny_bind (wpAny_attempt (wpAny_callSpecial?_slot (name := Str.ofString "__next__") hT F.slot_enumerate_next (wpAny_call_entry F.slot_enumerate_next hT F.entry_enumerate_next ?_ (F.args_enumerate_next_1 _))))
  show wpAny _ _ ((field (.ref e) 2) >>= _) _ _ _
  refine wpAny_bind (wpAny_field he rfl (x := .ref it) rfl (wpAny_bind (wpAny_nextOf_tuple_end (A := A.in1) hh hit hl hx fun h' x he' ⟨o, ho, hc⟩ => ?_)))
  exact wpAny_bind (wpAny_isInstance (T := "StopIteration") (b := true) ⟨o, ho, hc⟩ isSubtype_stop (wpAny_pure (hQ _ he')))
end
def IteT (K : PySem.W.Frag) (a : Addr) : It :=
  ⟨fun i H => ∃ (xs : List V) (x : V), SqT K H a xs ∧ xs[i]? = some x, fun i H v H' => ∃ T x, v = .ref T ∧ H T = none ∧ H' = upd H T (.tup [.int (i : Nat), x]) ∧ ∀ xs, SqT K H a xs → xs[i]? = some x, fun i H => ∃ xs : List V, SqT K H a xs ∧ xs.length ≤ i⟩
theorem turn_enumT {P : Program} {w : World} {K : PySem.W.Frag} {elts : List Expr} {kk : Nat} {tpos : Pos} (a e it : Addr) :
    Turn P w K (.Tuple elts kk tpos) (IteT K a) [e, it] e (fun i h => (∃ old, IsEnum h e it ((i : Nat) : Int) old) ∧ h.IsTupleIter it a i ∧ e ≠ it ∧ a ≠ it ∧ e ≠ a) where
  mem := by simp
  obj := fun i h st b hb => by
    obtain ⟨⟨old, he⟩, ⟨o, ho, hc, hd⟩, _⟩ := st
    rcases (by simpa using hb : b = e ∨ b = it) with rfl | rfl
    · exact ⟨_, he, fun v q => nomatch q⟩
    · exact ⟨o, ho, fun v q => by rw [hd] at q; cases q⟩
  keep := fun i h h' ⟨⟨old, he⟩, hi, hne⟩ k => ⟨⟨old, k e (by simp) _ he⟩, hi.at fun o q => k it (by simp) o q, hne⟩
  item := by
    intro X hP hw hK hc i pins s σ H E I hf st hg
    subst hP hw hK
    obtain ⟨⟨old, he⟩, hit, hne, hai, hea⟩ := st
    obtain ⟨xs, x, hq, hx⟩ := hg
    obtain ⟨its, rv, p, hz⟩ := I.tuple hq
    obtain ⟨u, hu, ru⟩ := rv.get hx
    have hel : e < s.heap.objs.size := Heap.lt_size he
    have hil : it < s.heap.objs.size := let ⟨_, q, _⟩ := hit; Heap.lt_size q
    have hlt : i < its.toArray.size := by
      have := (List.getElem?_eq_some_iff.mp hu).1
      simpa using this
    refine wpAny_pyNext_enum_itemD (Draws.tuple (A := X.A.in1) (I.ok.hd hc) it a hai its.toArray) he ⟨hit, p⟩ hlt hne (by simp [hne, hea]) fun x' h' tk hx' ho hit' hT hsz hk => ?_
    have hx' : its.toArray[i]? = some x' := hx'
    have ex : x' = u := by
      rw [List.getElem?_toArray, hu] at hx'
      exact (Option.some.inj hx').symm
    subst ex
    refine ⟨_, rfl, wpAny_letOwnedTupleGo_enum (s := { s with heap := h', toks := tk + 1 }) ho fun h'' he' sb => ?_⟩
    have hT2 : h''.get? s.heap.objs.size = some { cls := .type "tuple", data := .seq #[.int i tk, x'] } := (sb.2 _ (Nat.ne_of_gt hel)).trans hT
    have new : ObjOk X.prog X.w (upd H s.heap.objs.size (.tup [.int (i : Nat), x])) h'' s.heap.objs.size (.tup [.int (i : Nat), x]) := ⟨by show 2 ≤ sizeLine; decide, [.int i tk, x'], .cons ⟨_, rfl⟩ (.cons ru .nil), ⟨_, hT2, rfl, _, rfl⟩⟩
    have I1 : Inv X pins σ (upd H s.heap.objs.size (.tup [.int (i : Nat), x])) { s with heap := h'', toks := tk + 1 } := I.turnedNew (ch := [e, it]) (fun b ob hb q => (sb.2 b (fun z => hb (by simp [z]))).trans (hk b ob (fun z => hb (by simp [z])) (fun z => hb (by simp [z])) q)) hf (Nat.le_refl _) new
    have e1 : ((i + 1 : Nat) : Int) = (i : Int) + 1 := by omega
    refine ⟨.ref s.heap.objs.size, _, I1, rfl, ⟨_, x, rfl, I.hok.fresh (Nat.le_refl _), rfl, fun ys hy => by rw [I.tuple_inj hy hq]; exact hx⟩, ⟨⟨x', e1 ▸ he'⟩, hit'.1.at fun o q => (sb.2 it (Ne.symm hne)).trans q, hne, hai, hea⟩, fun b hb => ?_⟩
    have hb' : b < s.heap.objs.size := by
      rcases (by simpa using hb : b = e ∨ b = it) with rfl | rfl
      · exact hel
      · exact hil
    rw [upd_ne (Nat.ne_of_lt hb')]
    exact (hf b hb).1
  done := by
    intro X hP hw hK hc i pins s σ H E I hf st hg
    subst hP hw hK
    obtain ⟨⟨old, he⟩, hit, hne, hai, hea⟩ := st
    obtain ⟨xs, hq, hx⟩ := hg
    obtain ⟨its, rv, p, hz⟩ := I.tuple hq
    have hl := rv.length
    obtain ⟨f0, f1, f2, f3, f4, f5⟩ := hf it (by simp)
    exact next_enumT_end (I.ok.hd hc) he hit p (by simp; omega) fun h' eb => ⟨rfl, I.turned (t' := s.toks) (fun b o hb q => eb b o hb q) f0 f1 f3 f4 f5⟩
  self := fun A i s Q E ⟨⟨_, he⟩, _⟩ h => wpAny_pyIter_enum he h
/-- enumerate of a list or a tuple -/
def iEnumB (K : PySem.W.Frag) (ta : TA) : TI := fun σ H R => ta σ H fun vs H1 => ∃ a xs, vs = [.ref a] ∧ ((SqL K H1 a xs ∧ R (Ite K a) H1) ∨ (SqT K H1 a xs ∧ R (IteT K a) H1))
theorem pi_enumB {X : Cx} {e : Expr} {ta : TA} {p pos tpos : Pos} {elts : List Expr} {kk : Nat} (hg : Gl X "enumerate") (hm : X.mg "enumerate" = none) (ha : PA X [e] ta) (hs : starEach [e] X.env = [(false, eval e X.env)] := by rfl) :
    PI X (.Tuple elts kk tpos) (.Call (.Name "enumerate" p) [e] [] pos) (iEnumB X.K ta) := by
  refine ⟨fun pins s σ H R I h => ?_⟩
  refine Call_ (ld_blt I hg hm boot_enumerate (PyProof.Rows.callWith_type1 (thn (ha.run pos pins s σ H _ I h) fun us s1 ⟨vs, H1, I1, r1, a, xs, ex, q1⟩ => ?_) hs rfl))
  subst ex
  cases r1 with
  | cons r rr =>
    cases rr
    cases r
    have fr : ∀ b ∈ [s1.heap.objs.size + 1, s1.heap.objs.size], FpOk X pins H1 b := fun b hb => by
      have hle : s1.heap.objs.size ≤ b := by
        rcases (by simpa using hb : b = s1.heap.objs.size + 1 ∨ b = s1.heap.objs.size) with rfl | rfl <;> omega
      exact I1.fpOk hle (I1.hok.fresh hle)
    rcases q1 with ⟨hq, q⟩ | ⟨hq, q⟩
    · obtain ⟨its, rv, p', hz⟩ := I1.list hq
      refine call_enumerate_list p'.isList fun h' he hit hsz hk => (wpAny_pyIter_enum he ?_)
      have I2 : Inv X pins σ H1 { s1 with heap := h' } := (I1.kept (t' := s1.toks) hk)
      exact ⟨s1.heap.objs.size + 1, [s1.heap.objs.size + 1, s1.heap.objs.size], _, _, H1, rfl, I2, turn_enum a (s1.heap.objs.size + 1) s1.heap.objs.size, ⟨⟨.none, he⟩, hit, Nat.succ_ne_self _⟩, fr, q⟩
    · obtain ⟨its, rv, p', hz⟩ := I1.tuple hq
      have hlt : a < s1.heap.objs.size := p'.lt
      refine call_enumT p' fun h' he hit hsz hk => (wpAny_pyIter_enum he ?_)
      have I2 : Inv X pins σ H1 { s1 with heap := h' } := (I1.kept (t' := s1.toks) hk)
      exact ⟨s1.heap.objs.size + 1, [s1.heap.objs.size + 1, s1.heap.objs.size], _, _, H1, rfl, I2, turn_enumT a (s1.heap.objs.size + 1) s1.heap.objs.size, ⟨⟨.none, he⟩, hit, Nat.succ_ne_self _, Nat.ne_of_lt hlt, Nat.ne_of_gt (Nat.lt_succ_of_lt hlt)⟩, fr, q⟩
end Z
end
section
set_option Elab.async false
set_option linter.all false
set_option maxRecDepth 100000
set_option autoImplicit false
set_option maxHeartbeats 1000000
namespace Z
open PySem L2
abbrev lim : Nat := 1000000
theorem lim_line {n : Nat} (h : n ≤ lim) : n ≤ sizeLine := Nat.le_trans h (by decide)
theorem lim_lt {n : Nat} (h : n ≤ lim) : n < sizeLine := Nat.lt_of_le_of_lt h (by decide)

/-! ### names, constants -/
def zv (i : Nat) : ZE := fun Γ S => match Γ[i]? with
  | some (some x) => .val x S
  | _ => .bad
def zc (x : PyData) : ZE := fun _ S => .val (.d x) S
section
variable {X : CxF}
theorem pz_v (i : Nat) {x : Str} {pos : Pos} (hN : X.N[i]? = some x := by rfl) (hv : Vis X.env.scope x := by first | exact Or.inl rfl | exact Or.inr (Or.inl rfl) | exact Or.inr (Or.inr rfl)) (hd : (x == ("__debug__" : Str)) = false := by decide)
    (hcd : (x == ("__classdict__" : Str)) = false := by decide) : PZ X (.Name x pos) (zv i) := fun W _ => by
  refine ⟨tVar i, pe_var hN hv hd hcd, fun F σ H Q Γ S ρ Hd r sl a => ?_⟩
  unfold zv at a
  split at a
  · rename_i x e
    obtain ⟨v, e1, e2⟩ := sl.2 i x e
    exact ⟨v, e1, a v H ρ Hd .refl r e2⟩
  · exact a.elim
theorem pz_c {e : Expr} {v : V} {x : PyData} (h : PE X e (tC v)) (hd : ∀ Hd : Hp, Dp X.K Hd v x) : PZ X e (zc x) := fun _ _ =>
  ⟨_, h, fun _ _ H _ _ _ ρ Hd r _ a => a v H ρ Hd .refl r (hd Hd)⟩
theorem pz_int {i : Int} {j : Nat} {pos : Pos} : PZ X (.Constant (.int i) j pos) (zc (.int i)) := pz_c pe_int fun _ => .int i
theorem pz_str {x : Str} {j : Nat} {pos : Pos} : PZ X (.Constant (.str x) j pos) (zc (.str x)) := pz_c pe_str fun _ => .str x
theorem pz_bl {b : Bool} {j : Nat} {pos : Pos} : PZ X (.Constant (.bool b) j pos) (zc (.bool b)) := pz_c pe_bl fun _ => .bl b
theorem pz_non {j : Nat} {pos : Pos} : PZ X (.Constant .none j pos) (zc .none) := pz_c pe_non fun _ => .non
end

/-! ### what a value is seen as -/
def res (S : Sto) : Sl → Option PyData
  | .d x => some x
  | .box n => match S[n]? with
    | some (.lst ds) => some (.list ds)
    | some (.scr ns) => some (.list (ns.map .int))
    | _ => none
  | _ => none
theorem ints_dp0 {K : PySem.W.Frag} {H : Hp} : ∀ ns : List Int, DpAll K H (ns.map .int) (ns.map .int)
  | [] => .nil
  | n :: ns => .cons (.int n) (ints_dp0 ns)
def Vw (K : PySem.W.Frag) (Hd H : Hp) (v : V) : PyData → Prop
  | .list ds => ∃ a vs, v = .ref a ∧ SqL K H a vs ∧ DpAll K Hd vs ds
  | .tuple ds => ∃ a vs, v = .ref a ∧ SqT K Hd a vs ∧ DpAll K Hd vs ds
  | .none => v = .non
  | .bool b => v = .bl b
  | .int i => v = .int i
  | .str x => v = .str x
  | .dict _ => False
theorem dp_vw {K : PySem.W.Frag} {Hd H : Hp} {v : V} {x : PyData} (e : Same Hd H) (h : Dp K Hd v x) : Vw K Hd H v x := by
  cases h with
  | non => rfl
  | bl b => rfl
  | int i => rfl
  | str x => rfl
  | lst s a => exact ⟨_, _, rfl, e.seq s, a⟩
  | tup s a => exact ⟨_, _, rfl, s, a⟩
theorem Vw.dp {K : PySem.W.Frag} {Hd H : Hp} {v : V} {x : PyData} (e : Same Hd H) (h : Vw K Hd H v x) : Dp K H v x := by
  cases x with
  | none => rw [show v = .non from h]; exact .non
  | bool b => rw [show v = .bl b from h]; exact .bl b
  | int i => rw [show v = .int i from h]; exact .int i
  | str s => rw [show v = .str s from h]; exact .str s
  | list ds => obtain ⟨a, vs, rfl, h1, h2⟩ := h; exact .lst h1 (dpAll_mono e h2)
  | tuple ds => obtain ⟨a, vs, rfl, h1, h2⟩ := h; exact .tup (same_t e h1) (dpAll_mono e h2)
  | dict ks => exact h.elim
theorem vw_of {K : KF} {F : Hp} {ρ : Ads} {Hd H : Hp} {S : Sto} {v : V} {x : Sl} {d : PyData} (r : Rel K F ρ Hd H S) (h : SlIs K ρ Hd v x) (e : res S x = some d) : Vw K Hd H v d := by
  cases x with
  | d y =>
    cases e
    exact dp_vw r.hd h
  | box n =>
    obtain ⟨a, as, rfl, h2⟩ := h
    unfold res at e
    dsimp only at e
    split at e
    · rename_i ds h1
      cases e
      obtain ⟨_, a', vs, e1, hv, hds⟩ := r.box n _ _ h1 h2 (by simp)
      have e2 : a = a' := (List.cons.inj e1).1
      subst e2
      exact ⟨a, vs, rfl, SqL.of hv, hds⟩
    · rename_i ns h1
      cases e
      obtain ⟨_, a', e1, hv, _⟩ := r.box n _ _ h1 h2 (by simp)
      have e2 : a = a' := (List.cons.inj e1).1
      subst e2
      exact ⟨a, _, rfl, .inl hv, ints_dp0 ns⟩
    · cases e
  | sub n => cases e
  | pr y n => cases e
  | fn => cases e
/-- an operation's answer is data that it makes -/
def Made (K : KF) (F : Hp) (ρ : Ads) (Hd : Hp) (S : Sto) (c : PyData) (Q : VK) : Prop := ∀ v H' Hd', Same Hd Hd' → Rel K F ρ Hd' H' S → Dp K Hd' v c → Q v H'

/-! ### two operands -/
def OpZ (X : CxF) (f : Value → Value → Sem Value) (r : PyData → PyData → Option PyData) : Prop := ∃ rr : R2, OpR X f rr ∧
  ∀ (F : Hp) (x y : V) (H : Hp) (Q : VK) (a b c : PyData) (S : Sto) (ρ : Ads) (Hd : Hp), Rel X.K F ρ Hd H S → Vw X.K Hd H x a → Vw X.K Hd H y b → r a b = some c → Made X.K F ρ Hd S c Q → rr x y H Q
def app2 (r : PyData → PyData → Option PyData) (S : Sto) (x y : Sl) : Out Sl := match res S x, res S y with
  | some a, some b => (match r a b with
    | some c => .val (.d c) S
    | none => .bad)
  | _, _ => .bad
def zop (r : PyData → PyData → Option PyData) (za zb : ZE) : ZE := fun Γ S => (za Γ S).bind fun x S1 => (zb Γ S1).bind fun y S2 => app2 r S2 x y
theorem app2_some {r : PyData → PyData → Option PyData} {S : Sto} {x y : Sl} {α β : Type} {K : KF} {F : Hp} {W : WX} {σ : L2.St} {rel : Ads → Hp → β → Sl → Prop} {Q : β → Hp → Prop} {ρ : Ads} {Hd : Hp} (h : Aft K F W σ rel Q ρ Hd (app2 r S x y)) : ∃ a b c, res S x = some a ∧ res S y = some b ∧ r a b = some c ∧ Aft K F W σ rel Q ρ Hd (.val (.d c) S) := by
  unfold app2 at h
  split at h
  · rename_i a b e1 e2
    split at h
    · rename_i c e3
      exact ⟨a, b, c, e1, e2, e3, h⟩
    · exact h.elim
  · exact h.elim
section
variable {X : CxF} {a b c : Expr} {za zb zc' : ZE} {pos : Pos}
theorem snd_op {W : WX} {ta tb : TE} {rr : R2} {r : PyData → PyData → Option PyData} (ha : Snd X.K W (SlIs X.K) ta za) (hb : Snd X.K W (SlIs X.K) tb zb)
    (ho : ∀ (F : Hp) (x y : V) (H : Hp) (Q : VK) (a b c : PyData) (S : Sto) (ρ : Ads) (Hd : Hp), Rel X.K F ρ Hd H S → Vw X.K Hd H x a → Vw X.K Hd H y b → r a b = some c → Made X.K F ρ Hd S c Q → rr x y H Q) : Snd X.K W (SlIs X.K) (tOp rr ta tb) (zop r za zb) := by
  intro F σ H Q Γ S ρ Hd rl sl af
  refine ha F σ H _ Γ S ρ Hd rl sl (Aft.imp (aft_bind af) ?_)
  rintro x H1 ⟨ρ1, Hd1, x', S1, g1, r1, hx, af1⟩
  refine hb F σ H1 _ Γ S1 ρ1 Hd1 r1 (sl.grow g1) (Aft.imp (aft_bind af1) ?_)
  rintro y H2 ⟨ρ2, Hd2, y', S2, g2, r2, hy, af2⟩
  obtain ⟨p, q, c, e1, e2, e3, af3⟩ := app2_some (α := Unit) af2
  exact ho F x y H2 Q p q c S2 ρ2 Hd2 r2 (vw_of r2 (hx.grow g2) e1) (vw_of r2 hy e2) e3 fun v H' Hd' s r' d => af3 v H' ρ2 Hd' (.hd s) r' d
theorem pz_op {op : Operator} {r : PyData → PyData → Option PyData} (ho : OpZ X (binaryOp op) r) (ha : PZ X a za) (hb : PZ X b zb) : PZ X (.BinOp a op b pos) (zop r za zb) := fun W tk => by
  obtain ⟨rr, h1, h2⟩ := ho
  obtain ⟨ta, pa, sa⟩ := ha W tk
  obtain ⟨tb, pb, sb⟩ := hb W tk
  exact ⟨_, pe_op h1 pa pb, snd_op sa sb h2⟩
theorem pz_cmp {op : CmpOp} {r : PyData → PyData → Option PyData} (ho : OpZ X (compareOp op) r) (ha : PZ X a za) (hb : PZ X b zb) (hm : behindInMarks op b = false := by first | exact nomark _ | rfl) : PZ X (.Compare a [op] [b] pos) (zop r za zb) := fun W tk => by
  obtain ⟨rr, h1, h2⟩ := ho
  obtain ⟨ta, pa, sa⟩ := ha W tk
  obtain ⟨tb, pb, sb⟩ := hb W tk
  exact ⟨_, pe_cmpR h1 pa pb hm, snd_op sa sb h2⟩
end
/-- a truth as a test -/
def ztst (z : ZE) : ZT := fun Γ S => (z Γ S).bind fun x S1 => match x with
  | .d (.bool b) => .val b S1
  | _ => .bad
section
variable {X : CxF} {a b c : Expr} {za zb zc' : ZE} {pos : Pos}
theorem snd_tst {W : WX} {t : TE} {z : ZE} (h : Snd X.K W (SlIs X.K) t z) : Snd X.K W eqB (tTest t) (ztst z) := by
  intro F σ H Q Γ S ρ Hd rl sl af
  refine h F σ H _ Γ S ρ Hd rl sl (Aft.imp (aft_bind af) ?_)
  rintro x H1 ⟨ρ1, Hd1, x', S1, g1, r1, hx, af1⟩
  cases x' with
  | d y =>
    cases y with
    | bool b =>
      have e : x = .bl b := dp_vw (H := Hd1) (Same.refl _) hx
      exact ⟨b, e, af1 b H1 ρ1 Hd1 .refl r1 rfl⟩
    | _ => exact False.elim af1
  | _ => exact False.elim af1
theorem pzt_cmp {op : CmpOp} {r : PyData → PyData → Option PyData} (ho : OpZ X (compareOp op) r) (ha : PZ X a za) (hb : PZ X b zb) (hm : behindInMarks op b = false := by first | exact nomark _ | rfl) : PZT X (.Compare a [op] [b] pos) (ztst (zop r za zb)) := fun W tk => by
  obtain ⟨rr, h1, h2⟩ := ho
  obtain ⟨ta, pa, sa⟩ := ha W tk
  obtain ⟨tb, pb, sb⟩ := hb W tk
  exact ⟨_, pt_cmpR h1 pa pb hm, snd_tst (snd_op sa sb h2)⟩
/-- a < b < c -/
def zchain (r r' : PyData → PyData → Option PyData) (za zb zd : ZE) : ZE := fun Γ S => (za Γ S).bind fun x S1 => (zb Γ S1).bind fun y S2 => (app2 r S2 x y).bind fun k S3 => match k with
  | .d (.bool true) => (zd Γ S3).bind fun w S4 => app2 r' S4 y w
  | .d (.bool false) => .val (.d (.bool false)) S3
  | _ => .bad
theorem snd_chain {W : WX} {ta tb tc : TE} {rr rr' : R2} {r r' : PyData → PyData → Option PyData} {zd : ZE} (ha : Snd X.K W (SlIs X.K) ta za) (hb : Snd X.K W (SlIs X.K) tb zb) (hc : Snd X.K W (SlIs X.K) tc zd)
    (ho : ∀ (F : Hp) (x y : V) (H : Hp) (Q : VK) (a b c : PyData) (S : Sto) (ρ : Ads) (Hd : Hp), Rel X.K F ρ Hd H S → Vw X.K Hd H x a → Vw X.K Hd H y b → r a b = some c → Made X.K F ρ Hd S c Q → rr x y H Q)
    (ho' : ∀ (F : Hp) (x y : V) (H : Hp) (Q : VK) (a b c : PyData) (S : Sto) (ρ : Ads) (Hd : Hp), Rel X.K F ρ Hd H S → Vw X.K Hd H x a → Vw X.K Hd H y b → r' a b = some c → Made X.K F ρ Hd S c Q → rr' x y H Q) : Snd X.K W (SlIs X.K) (tChain rr rr' ta tb tc) (zchain r r' za zb zd) := by
  intro F σ H Q Γ S ρ Hd rl sl af
  refine ha F σ H _ Γ S ρ Hd rl sl (Aft.imp (aft_bind af) ?_)
  rintro x H1 ⟨ρ1, Hd1, x', S1, g1, r1, hx, af1⟩
  refine hb F σ H1 _ Γ S1 ρ1 Hd1 r1 (sl.grow g1) (Aft.imp (aft_bind af1) ?_)
  rintro y H2 ⟨ρ2, Hd2, y', S2, g2, r2, hy, af2⟩
  obtain ⟨p, q, c, e1, e2, e3, af3⟩ := app2_some (α := Unit) (rel := SlIs X.K) (aft_bind af2)
  refine ho F x y H2 _ p q c S2 ρ2 Hd2 r2 (vw_of r2 (hx.grow g2) e1) (vw_of r2 hy e2) e3 fun v H' Hd' s r' d => ?_
  obtain ⟨ρ3, Hd3, k, S3, g3, r3, hk, af4⟩ := af3 v H' ρ2 Hd' (.hd s) r' d
  cases k with
  | d k =>
    cases k with
    | bool k =>
      have e : v = .bl k := dp_vw (H := Hd3) (Same.refl _) hk
      cases k with
      | true =>
        refine ⟨true, e, ?_⟩
        rw [if_pos rfl]
        refine hc F σ H' _ Γ S3 ρ3 Hd3 r3 ((sl.grow g1).grow (g2.trans g3)) (Aft.imp (aft_bind af4) ?_)
        rintro w H4 ⟨ρ4, Hd4, w', S4, g4, r4, hw, af5⟩
        obtain ⟨p', q', c', f1, f2, f3, af6⟩ := app2_some (α := Unit) af5
        exact ho' F y w H4 Q p' q' c' S4 ρ4 Hd4 r4 (vw_of r4 (hy.grow (g3.trans g4)) f1) (vw_of r4 hw f2) f3 fun v H' Hd' s r' d => af6 v H' ρ4 Hd' (.hd s) r' d
      | false =>
        refine ⟨false, e, ?_⟩
        rw [if_neg Bool.false_ne_true]
        exact af4 (.bl false) H' ρ3 Hd3 .refl r3 (.bl false)
    | _ => exact False.elim af4
  | _ => exact False.elim af4
theorem pz_chain {op op' : CmpOp} {r r' : PyData → PyData → Option PyData} {zd : ZE} (ho : OpZ X (compareOp op) r) (ho' : OpZ X (compareOp op') r') (ha : PZ X a za) (hb : PZ X b zb) (hc : PZ X c zd)
    (hm : lastMarks [op, op'] [b, c] = false := by rfl) : PZ X (.Compare a [op, op'] [b, c] pos) (zchain r r' za zb zd) := fun W tk => by
  obtain ⟨rr, h1, h2⟩ := ho
  obtain ⟨rr', h1', h2'⟩ := ho'
  obtain ⟨ta, pa, sa⟩ := ha W tk
  obtain ⟨tb, pb, sb⟩ := hb W tk
  obtain ⟨tc, pc, sc⟩ := hc W tk
  exact ⟨_, pe_chain h1 h1' pa pb pc hm, snd_chain sa sb sc h2 h2'⟩
theorem pzt_chain {op op' : CmpOp} {r r' : PyData → PyData → Option PyData} {zd : ZE} (ho : OpZ X (compareOp op) r) (ho' : OpZ X (compareOp op') r') (ha : PZ X a za) (hb : PZ X b zb) (hc : PZ X c zd)
    (hm : lastMarks [op, op'] [b, c] = false := by rfl) : PZT X (.Compare a [op, op'] [b, c] pos) (ztst (zchain r r' za zb zd)) := fun W tk => by
  obtain ⟨rr, h1, h2⟩ := ho
  obtain ⟨rr', h1', h2'⟩ := ho'
  obtain ⟨ta, pa, sa⟩ := ha W tk
  obtain ⟨tb, pb, sb⟩ := hb W tk
  obtain ⟨tc, pc, sc⟩ := hc W tk
  exact ⟨_, pt_chain h1 h1' pa pb pc hm, snd_tst (snd_chain sa sb sc h2 h2')⟩
end

/-! ### and, or, not, if .. else; truth -/
def PZW (X : CxF) (e : Expr) (z : ZT) : Prop := ∀ W, Takes X W → ∃ t : TT, PW X e t ∧ Snd X.K W eqB t z
def zand (za zb : ZT) : ZT := fun Γ S => (za Γ S).bind fun k S1 => if k = true then zb Γ S1 else .val false S1
def zor (za zb : ZT) : ZT := fun Γ S => (za Γ S).bind fun k S1 => if k = true then .val true S1 else zb Γ S1
def znot (za : ZT) : ZT := fun Γ S => (za Γ S).bind fun k S1 => .val (!k) S1
def zandV (za zb : ZE) : ZE := fun Γ S => (za Γ S).bind fun x S1 => match x with
  | .d (.bool true) => zb Γ S1
  | .d (.bool false) => .val (.d (.bool false)) S1
  | _ => .bad
def zorV (za zb : ZE) : ZE := fun Γ S => (za Γ S).bind fun x S1 => match x with
  | .d (.bool true) => .val (.d (.bool true)) S1
  | .d (.bool false) => zb Γ S1
  | _ => .bad
def znotV (za : ZT) : ZE := fun Γ S => (za Γ S).bind fun k S1 => .val (.d (.bool !k)) S1
def zif (zt : ZT) (za zb : ZE) : ZE := fun Γ S => (zt Γ S).bind fun k S1 => if k = true then za Γ S1 else zb Γ S1
def truth : PyData → Option Bool
  | .none => some false
  | .bool b => some b
  | .int i => some (i != 0)
  | .str y => if y.length ≤ lim then some ((y.length : Int) != 0) else none
  | .list ds => some !ds.isEmpty
  | .tuple ds => some !ds.isEmpty
  | .dict _ => none
def truS (S : Sto) (x : Sl) : Option Bool := match x with
  | .box n => (match S[n]? with
    | some (.lst ds) => some !ds.isEmpty
    | some (.dic kvs) => some !kvs.isEmpty
    | some (.scr ns) => some !ns.isEmpty
    | _ => none)
  | .d y => truth y
  | _ => none
def ztru (z : ZE) : ZT := fun Γ S => (z Γ S).bind fun x S1 => ofOpt (truS S1 x) S1
theorem dpAll_len {K : PySem.W.Frag} {H : Hp} : ∀ {vs : List V} {ds : List PyData}, DpAll K H vs ds → vs.length = ds.length
  | _, _, .nil => rfl
  | _, _, .cons _ t => by rw [List.length_cons, List.length_cons, dpAll_len t]
theorem dpAll_empty {K : PySem.W.Frag} {H : Hp} {vs : List V} {ds : List PyData} (h : DpAll K H vs ds) : vs.isEmpty = ds.isEmpty := by
  cases h <;> rfl
theorem kv_empty {κ : Type} {K : PySem.W.Frag} {H : Hp} {us : List (κ × V)} {ks : List (κ × PyData)} (h : KvOk K H us ks) : us.isEmpty = ks.isEmpty := by
  cases h <;> rfl
theorem kv_len {κ : Type} {K : PySem.W.Frag} {H : Hp} {us : List (κ × V)} {ks : List (κ × PyData)} (h : KvOk K H us ks) : us.length = ks.length := Paired.length h
theorem tru_of {K : KF} {F : Hp} {ρ : Ads} {Hd H : Hp} {S : Sto} {v : V} {x : Sl} {k : Bool} (r : Rel K F ρ Hd H S) (h : SlIs K ρ Hd v x) (e : truS S x = some k) : TruV K v H k := by
  cases x with
  | d y =>
    have e : truth y = some k := e
    have w := dp_vw r.hd h
    cases y with
    | none => rw [show v = .non from w]; exact (Option.some.inj e).symm
    | bool b => rw [show v = .bl b from w]; exact (Option.some.inj e).symm
    | int i => rw [show v = .int i from w]; exact (Option.some.inj e).symm
    | str s =>
      rw [show v = .str s from w]
      have e : (if s.length ≤ lim then some ((s.length : Int) != 0) else none) = some k := e
      split at e
      · rename_i hl
        exact ⟨lim_line hl, (Option.some.inj e).symm⟩
      · cases e
    | list ds =>
      obtain ⟨a, vs, rfl, h1, h2⟩ := w
      exact .inl ⟨vs, h1, by rw [dpAll_empty h2]; exact (Option.some.inj e).symm⟩
    | tuple ds =>
      obtain ⟨a, vs, rfl, h1, h2⟩ := w
      exact .inr (.inl ⟨vs, same_t r.hd h1, by rw [dpAll_empty h2]; exact (Option.some.inj e).symm⟩)
    | dict ks => cases e
  | box n =>
    obtain ⟨a, as, rfl, h2⟩ := h
    unfold truS at e
    dsimp only at e
    split at e
    · rename_i ds h1
      obtain ⟨_, a', vs, e1, hv, hds⟩ := r.box n _ _ h1 h2 (by simp)
      have e2 : a = a' := (List.cons.inj e1).1
      subst e2
      exact .inl ⟨vs, SqL.of hv, by rw [dpAll_empty hds]; exact (Option.some.inj e).symm⟩
    · rename_i ds h1
      obtain ⟨_, a', us, e1, hv, hds⟩ := r.box n _ _ h1 h2 (by simp)
      have e2 : a = a' := (List.cons.inj e1).1
      subst e2
      exact .inr (.inr ⟨us, hv, by rw [kv_empty hds]; exact (Option.some.inj e).symm⟩)
    · rename_i ns h1
      obtain ⟨_, a', e1, hv, _⟩ := r.box n _ _ h1 h2 (by simp)
      have e2 : a = a' := (List.cons.inj e1).1
      subst e2
      exact .inl ⟨_, .inl hv, by rw [← Option.some.inj e]; cases ns <;> rfl⟩
    · cases e
  | sub n => cases e
  | pr y n => cases e
  | fn => cases e
section
variable {X : CxF} {a b c : Expr} {rest : List Expr} {za zb : ZE} {ta tb : ZT} {pos : Pos}
theorem pzt_w (h : PZW X a ta) : PZT X a ta := fun W tk => let ⟨t, p, s⟩ := h W tk; ⟨t, p.pt, s⟩
theorem snd_and {W : WX} {t u : TT} (h1 : Snd X.K W eqB t ta) (h2 : Snd X.K W eqB u tb) : Snd X.K W eqB (tAnd t u) (zand ta tb) := by
  intro F σ H Q Γ S ρ Hd rl sl af
  refine h1 F σ H _ Γ S ρ Hd rl sl (Aft.imp (aft_bind af) ?_)
  rintro k H1 ⟨ρ1, Hd1, k', S1, g1, r1, hk, af1⟩
  have e : k = k' := hk
  subst e
  cases k with
  | true =>
    rw [if_pos rfl]
    exact h2 F σ H1 Q Γ S1 ρ1 Hd1 r1 (sl.grow g1) af1
  | false =>
    rw [if_neg Bool.false_ne_true]
    exact af1 false H1 ρ1 Hd1 .refl r1 rfl
theorem snd_or {W : WX} {t u : TT} (h1 : Snd X.K W eqB t ta) (h2 : Snd X.K W eqB u tb) : Snd X.K W eqB (tOr t u) (zor ta tb) := by
  intro F σ H Q Γ S ρ Hd rl sl af
  refine h1 F σ H _ Γ S ρ Hd rl sl (Aft.imp (aft_bind af) ?_)
  rintro k H1 ⟨ρ1, Hd1, k', S1, g1, r1, hk, af1⟩
  have e : k = k' := hk
  subst e
  cases k with
  | true =>
    rw [if_pos rfl]
    exact af1 true H1 ρ1 Hd1 .refl r1 rfl
  | false =>
    rw [if_neg Bool.false_ne_true]
    exact h2 F σ H1 Q Γ S1 ρ1 Hd1 r1 (sl.grow g1) af1
theorem pzw_and1 (ha : PZT X a ta) : PZW X (.BoolOp .And [a] pos) ta := fun W tk => let ⟨_, p, s⟩ := ha W tk; ⟨_, pw_and1 p, s⟩
theorem pzw_or1 (ha : PZT X a ta) : PZW X (.BoolOp .Or [a] pos) ta := fun W tk => let ⟨_, p, s⟩ := ha W tk; ⟨_, pw_or1 p, s⟩
theorem pzw_and (ha : PZT X a ta) (hb : PZW X (.BoolOp .And (b :: rest) pos) tb) : PZW X (.BoolOp .And (a :: b :: rest) pos) (zand ta tb) := fun W tk => let ⟨_, p, s⟩ := ha W tk; let ⟨_, p', s'⟩ := hb W tk; ⟨_, pw_and p p', snd_and s s'⟩
theorem pzw_or (ha : PZT X a ta) (hb : PZW X (.BoolOp .Or (b :: rest) pos) tb) : PZW X (.BoolOp .Or (a :: b :: rest) pos) (zor ta tb) := fun W tk => let ⟨_, p, s⟩ := ha W tk; let ⟨_, p', s'⟩ := hb W tk; ⟨_, pw_or p p', snd_or s s'⟩
theorem pzt_not (ha : PZT X a ta) : PZT X (.UnaryOp .Not a pos) (znot ta) := fun W tk => by
  obtain ⟨t, p, s⟩ := ha W tk
  refine ⟨_, pt_not p, fun F σ H Q Γ S ρ Hd rl sl af => ?_⟩
  refine s F σ H _ Γ S ρ Hd rl sl (Aft.imp (aft_bind af) ?_)
  rintro k H1 ⟨ρ1, Hd1, k', S1, g1, r1, hk, af1⟩
  have e : k = k' := hk
  subst e
  exact af1 (!k) H1 ρ1 Hd1 .refl r1 rfl
theorem pzt_tru (ha : PZ X a za) (he : ∀ whole, isTrue a X.env whole = (do let v ← whole; standAt a.pos; holding [v] (truthy v)) := by intro _; rfl) : PZT X a (ztru za) := fun W tk => by
  obtain ⟨t, p, s⟩ := ha W tk
  refine ⟨_, pt_truth p he, fun F σ H Q Γ S ρ Hd rl sl af => ?_⟩
  refine s F σ H _ Γ S ρ Hd rl sl (Aft.imp (aft_bind af) ?_)
  rintro x H1 ⟨ρ1, Hd1, x', S1, g1, r1, hx, af1⟩
  cases e : truS S1 x' with
  | none => rw [e] at af1; exact False.elim af1
  | some k =>
    rw [e] at af1
    exact ⟨k, tru_of r1 hx e, af1 k H1 ρ1 Hd1 .refl r1 rfl⟩
theorem pz_one {op : BoolOp} (h : PZ X a za) : PZ X (.BoolOp op [a] pos) za := fun W tk => let ⟨_, p, s⟩ := h W tk; ⟨_, pe_one p, s⟩
theorem pz_and (ha : PZ X a za) (hb : PZ X (.BoolOp .And (b :: rest) pos) zb) : PZ X (.BoolOp .And (a :: b :: rest) pos) (zandV za zb) := fun W tk => by
  obtain ⟨t, p, s⟩ := ha W tk
  obtain ⟨t', p', s'⟩ := hb W tk
  refine ⟨_, L2.pe_and p p', fun F σ H Q Γ S ρ Hd rl sl af => ?_⟩
  refine s F σ H _ Γ S ρ Hd rl sl (Aft.imp (aft_bind af) ?_)
  rintro x H1 ⟨ρ1, Hd1, x', S1, g1, r1, hx, af1⟩
  cases x' with
  | d y =>
    cases y with
    | bool k =>
      have e : x = .bl k := dp_vw (H := Hd1) (Same.refl _) hx
      refine ⟨k, e, ?_⟩
      cases k with
      | true =>
        rw [if_pos rfl]
        exact s' F σ H1 Q Γ S1 ρ1 Hd1 r1 (sl.grow g1) af1
      | false =>
        rw [if_neg Bool.false_ne_true]
        exact af1 (.bl false) H1 ρ1 Hd1 .refl r1 (.bl false)
    | _ => exact False.elim af1
  | _ => exact False.elim af1
theorem pz_or (ha : PZ X a za) (hb : PZ X (.BoolOp .Or (b :: rest) pos) zb) : PZ X (.BoolOp .Or (a :: b :: rest) pos) (zorV za zb) := fun W tk => by
  obtain ⟨t, p, s⟩ := ha W tk
  obtain ⟨t', p', s'⟩ := hb W tk
  refine ⟨_, L2.pe_or p p', fun F σ H Q Γ S ρ Hd rl sl af => ?_⟩
  refine s F σ H _ Γ S ρ Hd rl sl (Aft.imp (aft_bind af) ?_)
  rintro x H1 ⟨ρ1, Hd1, x', S1, g1, r1, hx, af1⟩
  cases x' with
  | d y =>
    cases y with
    | bool k =>
      have e : x = .bl k := dp_vw (H := Hd1) (Same.refl _) hx
      refine ⟨k, e, ?_⟩
      cases k with
      | true =>
        rw [if_pos rfl]
        exact af1 (.bl true) H1 ρ1 Hd1 .refl r1 (.bl true)
      | false =>
        rw [if_neg Bool.false_ne_true]
        exact s' F σ H1 Q Γ S1 ρ1 Hd1 r1 (sl.grow g1) af1
    | _ => exact False.elim af1
  | _ => exact False.elim af1
/-- not as a value, by truth -/
theorem pz_not (ha : PZ X a za) : PZ X (.UnaryOp .Not a pos) (znotV (ztru za)) := fun W tk => by
  obtain ⟨t, p, s⟩ := ha W tk
  refine ⟨_, pe_notT p, fun F σ H Q Γ S ρ Hd rl sl af => ?_⟩
  have af' : Aft X.K F W σ (SlIs X.K) Q ρ Hd ((za Γ S).bind fun x S1 => (ofOpt (truS S1 x) S1).bind fun k S1 => .val (.d (.bool !k)) S1) := by
    unfold znotV ztru at af
    cases h : za Γ S with
    | val x S1 => rw [h] at af; exact af
    | exc c S1 => rw [h] at af; exact af
    | bad => rw [h] at af; exact af
  refine s F σ H _ Γ S ρ Hd rl sl (Aft.imp (aft_bind af') ?_)
  rintro x H1 ⟨ρ1, Hd1, x', S1, g1, r1, hx, af1⟩
  cases e : truS S1 x' with
  | none => rw [e] at af1; exact False.elim af1
  | some k =>
    rw [e] at af1
    exact ⟨k, tru_of r1 hx e, af1 (.bl !k) H1 ρ1 Hd1 .refl r1 (.bl _)⟩
theorem pz_if (hc : PZT X c ta) (ha : PZ X a za) (hb : PZ X b zb) : PZ X (.IfExp c a b pos) (zif ta za zb) := fun W tk => by
  obtain ⟨t, p, s⟩ := hc W tk
  obtain ⟨t1, p1, s1⟩ := ha W tk
  obtain ⟨t2, p2, s2⟩ := hb W tk
  refine ⟨_, pe_ifExp p p1 p2, fun F σ H Q Γ S ρ Hd rl sl af => ?_⟩
  refine s F σ H _ Γ S ρ Hd rl sl (Aft.imp (aft_bind af) ?_)
  rintro k H1 ⟨ρ1, Hd1, k', S1, g1, r1, hk, af1⟩
  have e : k = k' := hk
  subst e
  cases k with
  | true =>
    rw [if_pos rfl]
    exact s1 F σ H1 Q Γ S1 ρ1 Hd1 r1 (sl.grow g1) af1
  | false =>
    rw [if_neg Bool.false_ne_true]
    exact s2 F σ H1 Q Γ S1 ρ1 Hd1 r1 (sl.grow g1) af1
end
end Z
end
section
set_option Elab.async false
set_option linter.all false
set_option maxRecDepth 100000
set_option autoImplicit false
set_option maxHeartbeats 1000000
namespace Z
open PySem L2
/-! ### operators -/
def dAdd : PyData → PyData → Option PyData
  | .int i, .int j => some (.int (i + j))
  | .str a, .str b => if a.length + b.length ≤ lim then some (.str (a ++ b)) else none
  | .tuple a, .tuple b => if a.length + b.length ≤ lim then some (.tuple (a ++ b)) else none
  | _, _ => none
def dSub : PyData → PyData → Option PyData
  | .int i, .int j => some (.int (i - j))
  | _, _ => none
def dMul : PyData → PyData → Option PyData
  | .int i, .int j => if i.natAbs < 2 ^ 64 ∨ j.natAbs < 2 ^ 64 then some (.int (i * j)) else none
  | _, _ => none
def dMod : PyData → PyData → Option PyData
  | .int i, .int j => if 0 < j then some (.int (i % j)) else none
  | _, _ => none
def dDiv : PyData → PyData → Option PyData
  | .int i, .int j => if 0 < j ∧ j.natAbs < 1073741824 then some (.int (i / j)) else none
  | _, _ => none
def dLt : PyData → PyData → Option PyData
  | .int i, .int j => some (.bool (decide (i < j)))
  | .str a, .str b => some (.bool (decide (a.cps.toList < b.cps.toList)))
  | .tuple a, .tuple b => if PySem.W.alikeAll a b = true ∧ (PyData.tuple a).depth ≤ 64 then some (.bool (PySem.W.dataLt (.tuple a) (.tuple b))) else none
  | _, _ => none
def dLe : PyData → PyData → Option PyData
  | .int i, .int j => some (.bool (decide (i ≤ j)))
  | .str a, .str b => some (.bool (!decide (b.cps.toList < a.cps.toList)))
  | _, _ => none
def dGt : PyData → PyData → Option PyData
  | .int i, .int j => some (.bool (decide (j < i)))
  | .str a, .str b => some (.bool (decide (b.cps.toList < a.cps.toList)))
  | _, _ => none
def dGe : PyData → PyData → Option PyData
  | .int i, .int j => some (.bool (decide (j ≤ i)))
  | .str a, .str b => some (.bool (!decide (a.cps.toList < b.cps.toList)))
  | _, _ => none
def dEq : PyData → PyData → Option PyData
  | .int i, .int j => some (.bool (i == j))
  | .str a, .str b => some (.bool (a == b))
  | .bool a, .bool b => some (.bool (a == b))
  | a, b => if SeqAt.shaped a = true ∧ SeqAt.shaped b = true then some (.bool (PyData.eqv a b)) else none
def dNe : PyData → PyData → Option PyData
  | .int i, .int j => some (.bool (!(i == j)))
  | .str a, .str b => some (.bool (!(a == b)))
  | .bool a, .bool b => some (.bool (!(a == b)))
  | a, b => if SeqAt.shaped a = true ∧ SeqAt.shaped b = true then some (.bool (!PyData.eqv a b)) else none
def nonD : PyData → Bool
  | .none => true
  | _ => false
def dIs : PyData → PyData → Option PyData
  | a, .none => some (.bool (nonD a))
  | .bool a, .bool b => some (.bool (decide (a = b)))
  | _, _ => none
def dIsNot : PyData → PyData → Option PyData
  | a, .none => some (.bool (!nonD a))
  | .bool a, .bool b => some (.bool (!decide (a = b)))
  | _, _ => none
def flatD : PyData → Bool
  | .none | .bool _ | .int _ | .str _ => true
  | _ => false
/-- x in a list or tuple -/
def isIn (x : PyData) (ds : List PyData) : Bool := ds.any fun y => PyData.eqv y x
def one? (x : Str) : Option Nat := match x.cps.toList with
  | [c] => some c
  | _ => none
def memD (x : PyData) : PyData → Option Bool
  | .list ds => if flatD x = true ∧ ds.all flatD = true then some (isIn x ds) else if SeqAt.shaped x = true ∧ SeqAt.shaped (.list ds) = true then some (isIn x ds) else none
  | .tuple ds => if flatD x = true ∧ ds.all flatD = true then some (isIn x ds) else none
  | .str y => (match x with
    | .str z => (one? z).map fun c => decide (c ∈ y.cps.toList)
    | _ => none)
  | _ => none
def dIn : PyData → PyData → Option PyData := fun x y => (memD x y).map .bool
def dNotIn : PyData → PyData → Option PyData := fun x y => (memD x y).map fun b => .bool !b
theorem dpAll_app {K : PySem.W.Frag} {H : Hp} : ∀ {vs us : List V} {ds es : List PyData}, DpAll K H vs ds → DpAll K H us es → DpAll K H (vs ++ us) (ds ++ es)
  | _, _, _, _, .nil, b => b
  | _, _, _, _, .cons h t, b => .cons h (dpAll_app t b)
section
variable {X : CxF}
theorem made0 {K : KF} {F : Hp} {ρ : Ads} {Hd H : Hp} {S : Sto} {c : PyData} {Q : VK} {v : V} (m : Made K F ρ Hd S c Q) (r : Rel K F ρ Hd H S) (d : Dp K Hd v c) : Q v H := m v H Hd (Same.refl _) r d
theorem opz_add : OpZ X (binaryOp .Add) dAdd := by
  refine ⟨_, op_add.or (op_add_str.or op_catF), fun F x y H Q a b c S ρ Hd r hx hy e m => ?_⟩
  cases a with
  | int i =>
    cases b with
    | int j => cases e; exact .inl ⟨i, j, hx, hy, made0 m r (.int _)⟩
    | _ => cases e
  | str i =>
    cases b with
    | str j =>
      have e : (if i.length + j.length ≤ lim then some (PyData.str (i ++ j)) else none) = some c := e
      split at e
      · rename_i hl
        cases e
        exact .inr (.inl ⟨i, j, hx, hy, lim_line hl, made0 m r (.str _)⟩)
      · cases e
    | _ => cases e
  | tuple i =>
    cases b with
    | tuple j =>
      have e : (if i.length + j.length ≤ lim then some (PyData.tuple (i ++ j)) else none) = some c := e
      split at e
      · rename_i hl
        cases e
        obtain ⟨p, vs, rfl, h1, h2⟩ := hx
        obtain ⟨q, us, rfl, h3, h4⟩ := hy
        have l1 := dpAll_len h2
        have l2 := dpAll_len h4
        refine .inr (.inr ⟨p, q, vs, us, rfl, rfl, same_t r.hd h1, same_t r.hd h3, by rw [l1, l2]; exact lim_line hl, fun e => ?_, fun _ e => ?_, fun _ _ p' o' hp ho' => ?_⟩)
        · subst e
          cases h2
          exact made0 m r (.tup h3 h4)
        · subst e
          cases h4
          rw [List.append_nil] at m
          exact made0 m r (.tup h1 h2)
        · have hdp := r.hd.free hp
          refine m _ _ (upd Hd p' (FT o' (vs ++ us))) (same_upd hdp) (r.newD hp ho') (.tup (.inl (.inr ⟨o', upd_same⟩)) ?_)
          have a1 := dpAll_mono (same_upd hdp (o := FT o' (vs ++ us))) h2
          have a2 := dpAll_mono (same_upd hdp (o := FT o' (vs ++ us))) h4
          exact dpAll_app a1 a2
      · cases e
    | _ => cases e
  | _ => cases e
theorem opz_sub : OpZ X (binaryOp .Sub) dSub := by
  refine ⟨_, op_sub, fun F x y H Q a b c S ρ Hd r hx hy e m => ?_⟩
  cases a with
  | int i =>
    cases b with
    | int j => cases e; exact ⟨i, j, hx, hy, made0 m r (.int _)⟩
    | _ => cases e
  | _ => cases e
theorem abs64 {i : Int} (h : i.natAbs < 2 ^ 64) : -(2 ^ 64) < i ∧ i < 2 ^ 64 := by omega
theorem opz_mul : OpZ X (binaryOp .Mult) dMul := by
  refine ⟨_, op_mul, fun F x y H Q a b c S ρ Hd r hx hy e m => ?_⟩
  cases a with
  | int i =>
    cases b with
    | int j =>
      have e : (if i.natAbs < 2 ^ 64 ∨ j.natAbs < 2 ^ 64 then some (PyData.int (i * j)) else none) = some c := e
      split at e
      · rename_i h
        cases e
        exact ⟨i, j, hx, hy, h.imp abs64 abs64, made0 m r (.int _)⟩
      · cases e
    | _ => cases e
  | _ => cases e
theorem opz_mod : OpZ X (binaryOp .Mod) dMod := by
  refine ⟨_, op_mod, fun F x y H Q a b c S ρ Hd r hx hy e m => ?_⟩
  cases a with
  | int i =>
    cases b with
    | int j =>
      have e : (if 0 < j then some (PyData.int (i % j)) else none) = some c := e
      split at e
      · rename_i h
        cases e
        exact ⟨i, j, hx, hy, h, made0 m r (.int _)⟩
      · cases e
    | _ => cases e
  | _ => cases e
theorem opz_div : OpZ X (binaryOp .FloorDiv) dDiv := by
  refine ⟨_, op_fdiv, fun F x y H Q a b c S ρ Hd r hx hy e m => ?_⟩
  cases a with
  | int i =>
    cases b with
    | int j =>
      have e : (if 0 < j ∧ j.natAbs < 1073741824 then some (PyData.int (i / j)) else none) = some c := e
      split at e
      · rename_i h
        cases e
        exact ⟨i, j, hx, hy, ⟨h.1, by omega⟩, made0 m r (.int _)⟩
      · cases e
    | _ => cases e
  | _ => cases e
def rLtD (K : PySem.W.Frag) : R2 := fun x y H Q => ∃ d e, Dp K H x d ∧ Dp K H y e ∧ PySem.W.alike d e = true ∧ d ≠ .none ∧ d.depth ≤ 64 ∧ Q (.bl (PySem.W.dataLt d e)) H
theorem op_ltD {X : Cx} (hu : X.A.units + 64 < cLine) : OpR X (compareOp .Lt) (rLtD X.K) := by
  intro pins s σ H x y v u Q I rx ry h
  obtain ⟨d, e, hd, he, al, nn, dp, q⟩ := h
  obtain ⟨as, r1⟩ := Dp.reads I d x v hd rx
  obtain ⟨bs, r2⟩ := Dp.reads I e y u he ry
  refine PySem.W.rcLt_alike d e _ _ _ _ _ _ r1 r2 al nn ?_ _ _ _ _ ⟨.bl _, H, I, rfl, q⟩
  have := Nat.min_le_left d.depth e.depth
  omega
theorem opz_lt (hu : X.A.units + 64 < cLine) : OpZ X (compareOp .Lt) dLt := by
  refine ⟨_, op_lt.or (op_lt_str.or (op_ltD hu)), fun F x y H Q a b c S ρ Hd r hx hy e m => ?_⟩
  cases a with
  | int i =>
    cases b with
    | int j => cases e; exact .inl ⟨i, j, hx, hy, made0 m r (.bl _)⟩
    | _ => cases e
  | str i =>
    cases b with
    | str j => cases e; exact .inr (.inl ⟨i, j, hx, hy, made0 m r (.bl _)⟩)
    | _ => cases e
  | tuple i =>
    cases b with
    | tuple j =>
      have e : (if PySem.W.alikeAll i j = true ∧ (PyData.tuple i).depth ≤ 64 then some (.bool (PySem.W.dataLt (.tuple i) (.tuple j))) else none) = some c := e
      split at e
      · rename_i h
        cases e
        exact .inr (.inr ⟨.tuple i, .tuple j, hx.dp r.hd, hy.dp r.hd, by rw [PySem.W.alike]; exact h.1, by simp, h.2, made0 m r (.bl _)⟩)
      · cases e
    | _ => cases e
  | _ => cases e
theorem opz_le : OpZ X (compareOp .LtE) dLe := by
  refine ⟨_, op_le.or op_le_str, fun F x y H Q a b c S ρ Hd r hx hy e m => ?_⟩
  cases a with
  | int i =>
    cases b with
    | int j => cases e; exact .inl ⟨i, j, hx, hy, made0 m r (.bl _)⟩
    | _ => cases e
  | str i =>
    cases b with
    | str j => cases e; exact .inr ⟨i, j, hx, hy, made0 m r (.bl _)⟩
    | _ => cases e
  | _ => cases e
theorem opz_gt : OpZ X (compareOp .Gt) dGt := by
  refine ⟨_, op_gt.or op_gt_str, fun F x y H Q a b c S ρ Hd r hx hy e m => ?_⟩
  cases a with
  | int i =>
    cases b with
    | int j => cases e; exact .inl ⟨i, j, hx, hy, made0 m r (.bl _)⟩
    | _ => cases e
  | str i =>
    cases b with
    | str j => cases e; exact .inr ⟨i, j, hx, hy, made0 m r (.bl _)⟩
    | _ => cases e
  | _ => cases e
theorem opz_ge : OpZ X (compareOp .GtE) dGe := by
  refine ⟨_, op_ge.or op_ge_str, fun F x y H Q a b c S ρ Hd r hx hy e m => ?_⟩
  cases a with
  | int i =>
    cases b with
    | int j => cases e; exact .inl ⟨i, j, hx, hy, made0 m r (.bl _)⟩
    | _ => cases e
  | str i =>
    cases b with
    | str j => cases e; exact .inr ⟨i, j, hx, hy, made0 m r (.bl _)⟩
    | _ => cases e
  | _ => cases e
theorem deep_eq {a b c : PyData} {op : Bool → Bool} (h : (if SeqAt.shaped a = true ∧ SeqAt.shaped b = true then some (PyData.bool (op (PyData.eqv a b))) else none) = some c) : SeqAt.shaped a = true ∧ SeqAt.shaped b = true ∧ c = .bool (op (PyData.eqv a b)) := by
  split at h
  · rename_i h1
    exact ⟨h1.1, h1.2, (Option.some.inj h).symm⟩
  · cases h
theorem opz_eq (hu : X.A.units + 64 < cLine) : OpZ X (compareOp .Eq) dEq := by
  refine ⟨_, op_eq.or (op_eqD hu), fun F x y H Q a b c S ρ Hd r hx hy e m => ?_⟩
  unfold dEq at e
  split at e
  · cases e
    refine .inl ?_
    rw [show x = _ from hx, show y = _ from hy]
    refine ⟨rfl, ?_⟩
    rw [dec_int]
    exact made0 m r (.bl _)
  · cases e
    refine .inl ?_
    rw [show x = _ from hx, show y = _ from hy]
    refine ⟨rfl, ?_⟩
    rw [dec_str]
    exact made0 m r (.bl _)
  · cases e
    refine .inl ?_
    rw [show x = _ from hx, show y = _ from hy]
    refine ⟨rfl, ?_⟩
    rw [dec_bl]
    exact made0 m r (.bl _)
  · obtain ⟨h1, h2, rfl⟩ := deep_eq (op := id) e
    exact .inr ⟨a, b, hx.dp r.hd, hy.dp r.hd, h1, h2, made0 m r (.bl _)⟩
theorem opz_ne (hu : X.A.units + 64 < cLine) : OpZ X (compareOp .NotEq) dNe := by
  refine ⟨_, op_ne.or (op_neD hu), fun F x y H Q a b c S ρ Hd r hx hy e m => ?_⟩
  unfold dNe at e
  split at e
  · cases e
    refine .inl ?_
    rw [show x = _ from hx, show y = _ from hy]
    refine ⟨rfl, ?_⟩
    rw [dec_int]
    exact made0 m r (.bl _)
  · cases e
    refine .inl ?_
    rw [show x = _ from hx, show y = _ from hy]
    refine ⟨rfl, ?_⟩
    rw [dec_str]
    exact made0 m r (.bl _)
  · cases e
    refine .inl ?_
    rw [show x = _ from hx, show y = _ from hy]
    refine ⟨rfl, ?_⟩
    rw [dec_bl]
    exact made0 m r (.bl _)
  · obtain ⟨h1, h2, rfl⟩ := deep_eq (op := not) e
    exact .inr ⟨a, b, hx.dp r.hd, hy.dp r.hd, h1, h2, made0 m r (.bl _)⟩
theorem vw_none {K : PySem.W.Frag} {Hd H : Hp} {v : V} {a : PyData} (h : Vw K Hd H v a) : decide (v = .non) = nonD a := by
  cases a with
  | none => rw [show v = _ from h]; rfl
  | bool b => rw [show v = _ from h]; rfl
  | int i => rw [show v = _ from h]; rfl
  | str s => rw [show v = _ from h]; rfl
  | list ds => obtain ⟨p, vs, rfl, _⟩ := h; rfl
  | tuple ds => obtain ⟨p, vs, rfl, _⟩ := h; rfl
  | dict ks => exact h.elim
theorem opz_is : OpZ X (compareOp .Is) dIs := by
  refine ⟨_, op_isN.or op_is_bl, fun F x y H Q a b c S ρ Hd r hx hy e m => ?_⟩
  unfold dIs at e
  split at e
  · cases e
    refine .inl ⟨hy, ?_⟩
    rw [vw_none hx]
    exact made0 m r (.bl _)
  · cases e
    exact .inr ⟨_, _, hx, hy, made0 m r (.bl _)⟩
  · cases e
theorem opz_isNot : OpZ X (compareOp .IsNot) dIsNot := by
  refine ⟨_, op_notN.or op_isnot_bl, fun F x y H Q a b c S ρ Hd r hx hy e m => ?_⟩
  unfold dIsNot at e
  split at e
  · rename_i a
    cases e
    refine .inl ⟨hy, ?_⟩
    rw [vw_none hx]
    exact made0 m r (.bl _)
  · cases e
    exact .inr ⟨_, _, hx, hy, made0 m r (.bl _)⟩
  · cases e
theorem flat_v {K : PySem.W.Frag} {Hd : Hp} {v : V} {a : PyData} (h : Dp K Hd v a) (f : flatD a = true) : flatV v = true := by
  cases h <;> first | rfl | cases f
theorem flat_eq {K K' : PySem.W.Frag} {Hd Hd' : Hp} {v u : V} {a b : PyData} (h : Dp K Hd v a) (h' : Dp K' Hd' u b) (f : flatD a = true) (f' : flatD b = true) : eqV v u = PyData.eqv a b := by
  cases h <;> cases h' <;> first | rfl | cases f | cases f' | simp only [eqV, PyData.eqv]
theorem flat_all {K : PySem.W.Frag} {Hd : Hp} : ∀ {vs : List V} {ds : List PyData}, DpAll K Hd vs ds → ds.all flatD = true → vs.all flatV = true
  | _, _, .nil, _ => rfl
  | _, _, .cons h t, f => by
    rw [List.all_cons, Bool.and_eq_true] at f ⊢
    exact ⟨flat_v h f.1, flat_all t f.2⟩
theorem flat_in {K K' : PySem.W.Frag} {Hd Hd' : Hp} {u : V} {b : PyData} (hb : Dp K' Hd' u b) (f' : flatD b = true) : ∀ {vs : List V} {ds : List PyData}, DpAll K Hd vs ds → ds.all flatD = true → inV u vs = isIn b ds
  | _, _, .nil, _ => rfl
  | _, _, .cons h t, f => by
    rw [List.all_cons, Bool.and_eq_true] at f
    unfold inV isIn
    rw [List.any_cons, List.any_cons, flat_eq h hb f.1 f']
    congr 1
    exact flat_in hb f' t f.2
theorem mem_snd {op : Bool → Bool} {rS rI rD : R2} (hS : rS = fun x y H Q => ∃ (c : Nat) (z : Str), x = .str ⟨#[c]⟩ ∧ y = .str z ∧ Q (.bl (op (decide (c ∈ z.cps.toList)))) H)
    (hI : rI = fun x y H Q => ∃ p xs, y = .ref p ∧ (SqL X.K H p xs ∨ SqT X.K H p xs) ∧ flatV x = true ∧ xs.all flatV = true ∧ Q (.bl (op (inV x xs))) H)
    (hD : rD = fun x y H Q => ∃ d ds, Dp X.K H x d ∧ Dp X.K H y (.list ds) ∧ SeqAt.shaped d = true ∧ SeqAt.shaped (.list ds) = true ∧ Q (.bl (op (ds.any fun z => PyData.eqv z d))) H)
    (F : Hp) (x y : V) (H : Hp) (Q : VK) (a b c : PyData) (S : Sto) (ρ : Ads) (Hd : Hp) (r : Rel X.K F ρ Hd H S) (hx : Vw X.K Hd H x a) (hy : Vw X.K Hd H y b) (e : (memD a b).map (fun k => PyData.bool (op k)) = some c) (m : Made X.K F ρ Hd S c Q) : rS x y H Q ∨ rI x y H Q ∨ rD x y H Q := by
  have dx := hx.dp r.hd
  cases b with
  | str z =>
    cases a with
    | str w =>
      have e : ((one? w).map fun c => decide (c ∈ z.cps.toList)).map (fun k => PyData.bool (op k)) = some c := e
      unfold one? at e
      split at e
      · rename_i c' hc
        cases e
        refine .inl ?_
        rw [hS]
        refine ⟨c', z, ?_, hy, made0 m r (.bl _)⟩
        rw [show x = V.str w from hx]
        obtain ⟨⟨l⟩⟩ := w
        have hl : l = [c'] := hc
        rw [hl]
      · cases e
    | _ => cases e
  | list ds =>
    obtain ⟨p, vs, rfl, h1, h2⟩ := hy
    have e : (if flatD a = true ∧ ds.all flatD = true then some (isIn a ds) else if SeqAt.shaped a = true ∧ SeqAt.shaped (.list ds) = true then some (isIn a ds) else none).map (fun k => PyData.bool (op k)) = some c := e
    split at e
    · rename_i hf
      cases e
      refine .inr (.inl ?_)
      rw [hI]
      refine ⟨p, vs, rfl, .inl h1, flat_v dx hf.1, flat_all h2 hf.2, ?_⟩
      rw [flat_in dx hf.1 h2 hf.2]
      exact made0 m r (.bl _)
    · split at e
      · rename_i hs
        cases e
        refine .inr (.inr ?_)
        rw [hD]
        exact ⟨a, ds, dx, .lst h1 (dpAll_mono r.hd h2), hs.1, hs.2, made0 m r (.bl _)⟩
      · cases e
  | tuple ds =>
    obtain ⟨p, vs, rfl, h1, h2⟩ := hy
    have e : (if flatD a = true ∧ ds.all flatD = true then some (isIn a ds) else none).map (fun k => PyData.bool (op k)) = some c := e
    split at e
    · rename_i hf
      cases e
      refine .inr (.inl ?_)
      rw [hI]
      refine ⟨p, vs, rfl, .inr (same_t r.hd h1), flat_v dx hf.1, flat_all h2 hf.2, ?_⟩
      rw [flat_in dx hf.1 h2 hf.2]
      exact made0 m r (.bl _)
    · cases e
  | _ => cases e
theorem opz_in (hu : X.A.units + 65 < cLine) : OpZ X (compareOp .In) dIn :=
  ⟨_, op_in_sign.or (op_in_seq.or (op_inD hu)), mem_snd (op := id) rfl (by funext x y H Q; simp [rIn]) rfl⟩
theorem opz_notIn (hu : X.A.units + 65 < cLine) : OpZ X (compareOp .NotIn) dNotIn :=
  ⟨_, op_notIn_sign.or (op_notIn_seq.or (op_notInD hu)), mem_snd (op := not) rfl (by funext x y H Q; simp [rIn]) rfl⟩
end
/-! ### - -/
def zneg (za : ZE) : ZE := fun Γ S => (za Γ S).bind fun x S1 => match x with
  | .d (.int i) => .val (.d (.int (-i))) S1
  | _ => .bad
section
variable {X : CxF} {a b c : Expr} {za zb : ZE} {pos : Pos}
theorem pz_neg (ha : PZ X a za) : PZ X (.UnaryOp .USub a pos) (zneg za) := fun W tk => by
  obtain ⟨t, p, s⟩ := ha W tk
  refine ⟨_, pe_un un_neg p, fun F σ H Q Γ S ρ Hd rl sl af => ?_⟩
  refine s F σ H _ Γ S ρ Hd rl sl (Aft.imp (aft_bind af) ?_)
  rintro x H1 ⟨ρ1, Hd1, x', S1, g1, r1, hx, af1⟩
  cases x' with
  | d y =>
    cases y with
    | int i =>
      have e : x = .int i := dp_vw (H := Hd1) (Same.refl _) hx
      exact ⟨i, e, af1 (.int (-i)) H1 ρ1 Hd1 .refl r1 (.int _)⟩
    | _ => exact False.elim af1
  | _ => exact False.elim af1
end
/-! ### arguments, tuples, lists -/
def zanil : ZA := fun _ S => .val [] S
def zacons (za : ZE) (zr : ZA) : ZA := fun Γ S => (za Γ S).bind fun x S1 => (zr Γ S1).bind fun xs S2 => .val (x :: xs) S2
def allD : List Sl → Option (List PyData)
  | [] => some []
  | .d x :: r => (allD r).map (x :: ·)
  | _ :: _ => none
theorem allD_ok {K : KF} {ρ : Ads} {Hd : Hp} : ∀ {vs : List V} {xs : List Sl} {ds : List PyData}, SlAll K ρ Hd vs xs → allD xs = some ds → DpAll K Hd vs ds
  | _, _, _, .nil, e => by cases e; exact .nil
  | _, x :: r, ds, .cons h t, e => by
    cases x with
    | d y =>
      have e : (allD r).map (y :: ·) = some ds := e
      cases q : allD r with
      | none => rw [q] at e; cases e
      | some es =>
        rw [q] at e
        cases e
        exact .cons h (allD_ok t q)
    | _ => cases e
def ztup (za : ZA) : ZE := fun Γ S => (za Γ S).bind fun xs S1 => match allD xs with
  | some ds => if ds.length ≤ lim then .val (.d (.tuple ds)) S1 else .bad
  | none => .bad
def zlst (za : ZA) : ZF := fun Γ S => (za Γ S).bind fun xs S1 => match allD xs with
  | some ds => if ds.length ≤ lim then .val (.lst ds) S1 else .bad
  | none => .bad
theorem aft_bindF {α β : Type} {K : KF} {F : Hp} {W : WX} {σ : L2.St} {rel : Ads → Hp → β → α → Prop} {Q' : VK} {ρ : Ads} {Hd : Hp} {o : Out α} {f : α → Sto → Out Box}
    (h : AftF K F W σ Q' ρ Hd (o.bind f)) : Aft K F W σ rel (fun v H' => ∃ ρ' Hd' x S', Grow ρ Hd ρ' Hd' ∧ Rel K F ρ' Hd' H' S' ∧ rel ρ' Hd' v x ∧ AftF K F W σ Q' ρ' Hd' (f x S')) ρ Hd o := by
  cases o with
  | val x S =>
    refine fun v H' ρ' Hd' g r hx => ⟨ρ', Hd', x, S, g, r, hx, ?_⟩
    have h : AftF K F W σ Q' ρ Hd (f x S) := h
    cases q : f x S with
    | val b S2 =>
      rw [q] at h
      exact fun p H2 ρ2 Hd2 g2 r2 a1 a2 a3 a4 a5 => h p H2 ρ2 Hd2 (g.trans g2) r2 a1 a2 a3 a4 a5
    | exc c S2 =>
      rw [q] at h
      exact fun H2 ρ2 Hd2 g2 r2 => h H2 ρ2 Hd2 (g.trans g2) r2
    | bad => rw [q] at h; exact h
  | exc c S => exact h
  | bad => exact h
/-- a new object that is data from the beginning -/
def zfz (z : ZF) : ZE := fun Γ S => (z Γ S).bind fun b S1 => match b with
  | .lst ds => .val (.d (.list ds)) S1
  | _ => .bad
section
variable {X : CxF} {a b c e : Expr} {es : List Expr} {za zb : ZE} {zs : ZA} {pos : Pos}
theorem pza_nil : PZA X [] zanil := fun _ _ => ⟨_, pa_nil, fun _ _ H _ _ _ ρ Hd r _ a => a [] H ρ Hd .refl r .nil⟩
theorem pza_cons (ha : PZ X e za) (hr : PZA X es zs) (hs : starEach (e :: es) X.env = (false, eval e X.env) :: starEach es X.env := by rfl) : PZA X (e :: es) (zacons za zs) := fun W tk => by
  obtain ⟨t, p, s⟩ := ha W tk
  obtain ⟨t', p', s'⟩ := hr W tk
  refine ⟨_, pa_cons p p' hs, fun F σ H Q Γ S ρ Hd rl sl af => ?_⟩
  refine s F σ H _ Γ S ρ Hd rl sl (Aft.imp (aft_bind af) ?_)
  rintro x H1 ⟨ρ1, Hd1, x', S1, g1, r1, hx, af1⟩
  refine s' F σ H1 _ Γ S1 ρ1 Hd1 r1 (sl.grow g1) (Aft.imp (aft_bind af1) ?_)
  rintro xs H2 ⟨ρ2, Hd2, xs', S2, g2, r2, hxs, af2⟩
  exact af2 (x :: xs) H2 ρ2 Hd2 .refl r2 (.cons (hx.grow g2) hxs)
theorem pz_tup {k : Nat} (h : PZA X es zs) : PZ X (.Tuple es k pos) (ztup zs) := fun W tk => by
  obtain ⟨t, p, s⟩ := h W tk
  refine ⟨_, pe_tupF p, fun F σ H Q Γ S ρ Hd rl sl af => ?_⟩
  refine s F σ H _ Γ S ρ Hd rl sl (Aft.imp (aft_bind af) ?_)
  rintro xs H1 ⟨ρ1, Hd1, xs', S1, g1, r1, hx, af1⟩
  cases q : allD xs' with
  | none => rw [q] at af1; exact False.elim af1
  | some ds =>
    rw [q] at af1
    have h2 := allD_ok hx q
    have l2 := dpAll_len h2
    have af1 : Aft X.K F W σ (SlIs X.K) Q ρ1 Hd1 (if ds.length ≤ lim then .val (.d (.tuple ds)) S1 else .bad) := af1
    split at af1
    · rename_i hl
      refine ⟨by rw [l2]; exact lim_line hl, fun p o hp ho => ?_⟩
      exact af1 (.ref p) _ ρ1 _ (r1.grD hp) (r1.newD hp (o := FT o xs) ho) (.tup (.inl (.inr ⟨o, upd_same⟩)) (dpAll_mono (same_upd (r1.hd.free hp)) h2))
    · exact False.elim af1
theorem pzf_lst (h : PZA X es zs) : PZF X (.List es pos) (zlst zs) := fun W tk => by
  obtain ⟨t, p, s⟩ := h W tk
  refine ⟨_, pe_lst p, fun F σ H Q Γ S ρ Hd rl sl af => ?_⟩
  refine s F σ H _ Γ S ρ Hd rl sl (Aft.imp (aft_bindF af) ?_)
  rintro xs H1 ⟨ρ1, Hd1, xs', S1, g1, r1, hx, af1⟩
  cases q : allD xs' with
  | none => rw [q] at af1; exact False.elim af1
  | some ds =>
    rw [q] at af1
    have h2 := allD_ok hx q
    have l2 := dpAll_len h2
    have af1 : AftF X.K F W σ Q ρ1 Hd1 (if ds.length ≤ lim then .val (.lst ds) S1 else .bad) := af1
    split at af1
    · rename_i hl
      refine ⟨by rw [l2]; exact lim_line hl, fun p hp => ?_⟩
      exact af1 p _ ρ1 Hd1 .refl (r1.junk hp) (fun z => r1.ne_new hp z rfl) (r1.fr_free hp) (r1.hd.free hp) (by rw [upd_same]; simp) ⟨p, xs, rfl, upd_same, h2⟩
    · exact False.elim af1
theorem snd_fz {z : ZF} {W : WX} {t : TE} (s : SndF X.K W t z) : Snd X.K W (SlIs X.K) t (zfz z) := by
  intro F σ H Q Γ S ρ Hd rl sl af
  refine s F σ H Q Γ S ρ Hd rl sl ?_
  unfold zfz at af
  cases q : z Γ S with
  | bad => rw [q] at af; exact af
  | exc c S1 => rw [q] at af; exact af
  | val b S1 =>
    rw [q] at af
    intro p H' ρ' Hd' g r h1 h2 h3 h4 h5
    cases b with
    | lst ds =>
      obtain ⟨a, vs, e1, hv, hds⟩ := h5
      have e2 : p = a := by simpa using e1
      subst e2
      refine af (.ref p) H' ρ' (upd Hd' p (.lst vs)) (g.trans (.hd (same_upd h3))) ⟨r.gr.trans (.hd (same_upd h3)), fun c u z => ?_, r.fr, fun c o z => by
        rw [upd_ne (ne_of_none z h2)]
        exact r.dj c o z, fun c u z => by
        by_cases y : c = p
        · rw [y, upd_same] at z
          cases z
          exact True.intro
        · rw [upd_ne y] at z
          exact r.nf c u z, r.nk, r.len, r.nd, r.trk, fun i b as g1 g2 g3 => ?_⟩ (.lst (SqL.of upd_same) (dpAll_mono (same_upd h3) hds))
      · by_cases y : c = p
        · subst y
          rw [upd_same] at z
          rw [hv]
          exact z
        · rw [upd_ne y] at z
          exact r.hd _ _ z
      · obtain ⟨x, y⟩ := r.box i b as g1 g2 g3
        refine ⟨fun c hc => ⟨(x c hc).1, ?_⟩, y.congr (same_upd h3) fun _ _ => rfl⟩
        rw [upd_ne (fun z => h1 (by rw [← z]; exact mem_flat g2 hc))]
        exact (x c hc).2
    | _ => exact False.elim af
theorem pz_f {z : ZF} (h : PZF X e z) : PZ X e (zfz z) := fun W tk => let ⟨t, p, s⟩ := h W tk; ⟨t, p, snd_fz s⟩
end
end Z
end
section
set_option Elab.async false
set_option linter.all false
set_option maxRecDepth 100000
set_option autoImplicit false
set_option maxHeartbeats 1000000
namespace Z
open PySem L2
/-! ### a[i] of tuples, lists, texts -/
def dIx : PyData → PyData → Option PyData
  | .tuple ds, .int i => atI ds i
  | .list ds, .int i => atI ds i
  | .str z, .int i => if z.length ≤ lim then (atI z.cps.toList i).map fun c => .str ⟨#[c]⟩ else none
  | _, _ => none
theorem dpAll_get {K : PySem.W.Frag} {H : Hp} : ∀ {vs : List V} {ds : List PyData} {i : Nat} {d : PyData}, DpAll K H vs ds → ds[i]? = some d → ∃ v, vs[i]? = some v ∧ Dp K H v d
  | _, _, _, _, .nil, e => by simp at e
  | _, _, 0, _, .cons h _, e => by simp at e; subst e; exact ⟨_, rfl, h⟩
  | _, _, i + 1, d, .cons _ t, e => by
    obtain ⟨v, h1, h2⟩ := dpAll_get (i := i) (d := d) t (by simpa using e)
    exact ⟨v, by simpa using h1, h2⟩
theorem dpAll_at {K : PySem.W.Frag} {H : Hp} {vs : List V} {ds : List PyData} {i : Int} {d : PyData} (h : DpAll K H vs ds) (e : atI ds i = some d) : ∃ v, atI vs i = some v ∧ Dp K H v d := by
  unfold atI at e ⊢
  rw [dpAll_len h]
  cases q : ixN ds.length i with
  | none => rw [q] at e; cases e
  | some j =>
    rw [q] at e
    exact dpAll_get h e
section
variable {X : CxF} {a b c : Expr} {za zb : ZE} {pos : Pos}
theorem pz_ix (ha : PZ X a za) (hb : PZ X b zb) (hs : PlainIx b := by exact fun _ _ => rfl) : PZ X (.Subscript a b pos) (zop dIx za zb) := fun W tk => by
  obtain ⟨ta, pa, sa⟩ := ha W tk
  obtain ⟨tb, pb, sb⟩ := hb W tk
  refine ⟨_, pe_ix ix_seq pa pb hs, snd_op sa sb fun F x y H Q a b c S ρ Hd r hx hy e m => ?_⟩
  unfold dIx at e
  split at e
  · obtain ⟨p, vs, rfl, h1, h2⟩ := hx
    obtain ⟨v, e1, e2⟩ := dpAll_at h2 e
    exact .inr (.inl ⟨p, vs, _, v, rfl, hy, same_t r.hd h1, e1, made0 m r e2⟩)
  · obtain ⟨p, vs, rfl, h1, h2⟩ := hx
    obtain ⟨v, e1, e2⟩ := dpAll_at h2 e
    exact .inl ⟨p, vs, _, v, rfl, hy, h1, e1, made0 m r e2⟩
  · rename_i z i
    split at e
    · rename_i hl
      cases q : atI z.cps.toList i with
      | none => rw [q] at e; cases e
      | some c' =>
        rw [q] at e
        cases e
        exact .inr (.inr ⟨z, i, c', hx, hy, lim_line hl, q, made0 m r (.str _)⟩)
    · cases e
  · cases e
end
/-! ### slices -/
abbrev ZO := Env1 → Sto → Out (Option Int)
def eqO1 : Ads → Hp → Option Int → Option Int → Prop := fun _ _ a b => a = b
def PZO (X : CxF) (e : Option Expr) (z : ZO) : Prop := ∀ W, Takes X W → ∃ t : TO, PO X e t ∧ Snd X.K W eqO1 t z
def zon : ZO := fun _ S => .val none S
def zos (z : ZE) : ZO := fun Γ S => (z Γ S).bind fun x S1 => match x with
  | .d (.int i) => .val (some i) S1
  | _ => .bad
def cutL {α : Type} (xs : List α) (lo hi : Option Int) : List α := (xs.drop (HT.sIx xs.length 0 lo)).take (HT.sIx xs.length xs.length hi - HT.sIx xs.length 0 lo)
def dSl : PyData → Option Int → Option Int → Option PyData
  | .tuple ds, lo, hi => some (.tuple (cutL ds lo hi))
  | .str z, lo, hi => if z.length ≤ lim then some (.str (cutS z lo hi)) else none
  | _, _, _ => none
def zsl (za : ZE) (zl zh : ZO) : ZE := fun Γ S => (za Γ S).bind fun x S1 => (zl Γ S1).bind fun l S2 => (zh Γ S2).bind fun h S3 => match res S3 x with
  | some d => (match dSl d l h with
    | some c => .val (.d c) S3
    | none => .bad)
  | none => .bad
/-- a slice of a list is a new list -/
def zslF (za : ZE) (zl zh : ZO) : ZF := fun Γ S => (za Γ S).bind fun x S1 => (zl Γ S1).bind fun l S2 => (zh Γ S2).bind fun h S3 => match res S3 x with
  | some (.list ds) => .val (.lst (cutL ds l h)) S3
  | _ => .bad
theorem dpAll_drop {K : PySem.W.Frag} {H : Hp} : ∀ {vs : List V} {ds : List PyData} (n : Nat), DpAll K H vs ds → DpAll K H (vs.drop n) (ds.drop n)
  | _, _, 0, h => h
  | _, _, _ + 1, .nil => .nil
  | _, _, n + 1, .cons _ t => dpAll_drop n t
theorem dpAll_take {K : PySem.W.Frag} {H : Hp} : ∀ {vs : List V} {ds : List PyData} (n : Nat), DpAll K H vs ds → DpAll K H (vs.take n) (ds.take n)
  | _, _, 0, _ => .nil
  | _, _, _ + 1, .nil => .nil
  | _, _, n + 1, .cons h t => .cons h (dpAll_take n t)
theorem dpAll_cut {K : PySem.W.Frag} {H : Hp} {vs : List V} {ds : List PyData} (h : DpAll K H vs ds) (lo hi : Option Int) : DpAll K H (cutV vs lo hi) (cutL ds lo hi) := by
  unfold cutV cutL
  rw [dpAll_len h]
  exact dpAll_take _ (dpAll_drop _ h)
theorem cut_whole {α : Type} {xs : List α} {lo hi : Option Int} (h : HT.sIx xs.length 0 lo = 0 ∧ HT.sIx xs.length xs.length hi = xs.length) : cutL xs lo hi = xs := by
  unfold cutL
  rw [h.1, h.2]
  simp
section
variable {X : CxF} {a b c e : Expr} {lo hi : Option Expr} {za zb : ZE} {zl zh : ZO} {pos p2 : Pos}
theorem pzo_none : PZO X none zon := fun _ _ => ⟨_, po_none, fun _ _ H _ _ _ ρ Hd r _ a => a none H ρ Hd .refl r rfl⟩
theorem pzo_some (h : PZ X e za) : PZO X (some e) (zos za) := fun W tk => by
  obtain ⟨t, p, s⟩ := h W tk
  refine ⟨_, po_some p, fun F σ H Q Γ S ρ Hd rl sl af => ?_⟩
  refine s F σ H _ Γ S ρ Hd rl sl (Aft.imp (aft_bind af) ?_)
  rintro x H1 ⟨ρ1, Hd1, x', S1, g1, r1, hx, af1⟩
  cases x' with
  | d y =>
    cases y with
    | int i =>
      have e : x = .int i := dp_vw (H := Hd1) (Same.refl _) hx
      exact ⟨i, e, af1 (some i) H1 ρ1 Hd1 .refl r1 rfl⟩
    | _ => exact False.elim af1
  | _ => exact False.elim af1
theorem pz_sl (he : PZ X e za) (hl : PZO X lo zl) (hh : PZO X hi zh) : PZ X (.Subscript e (.Slice lo hi none p2) pos) (zsl za zl zh) := fun W tk => by
  obtain ⟨t, p, s⟩ := he W tk
  obtain ⟨t1, p1, s1⟩ := hl W tk
  obtain ⟨t2, p2, s2⟩ := hh W tk
  refine ⟨_, pe_slice (sl_tupF.or sl_str) p p1 p2, fun F σ H Q Γ S ρ Hd rl sl af => ?_⟩
  refine s F σ H _ Γ S ρ Hd rl sl (Aft.imp (aft_bind af) ?_)
  rintro x H1 ⟨ρ1, Hd1, x', S1, g1, r1, hx, af1⟩
  refine s1 F σ H1 _ Γ S1 ρ1 Hd1 r1 (sl.grow g1) (Aft.imp (aft_bind af1) ?_)
  rintro l H2 ⟨ρ2, Hd2, l', S2, g2, r2, hl, af2⟩
  refine s2 F σ H2 _ Γ S2 ρ2 Hd2 r2 ((sl.grow g1).grow g2) (Aft.imp (aft_bind af2) ?_)
  rintro h H3 ⟨ρ3, Hd3, h', S3, g3, r3, hh, af3⟩
  have e1 : l = l' := hl
  have e2 : h = h' := hh
  subst e1 e2
  cases q : res S3 x' with
  | none => rw [q] at af3; exact False.elim af3
  | some d =>
    rw [q] at af3
    have w := vw_of r3 ((hx.grow g2).grow g3) q
    cases d with
    | tuple ds =>
      obtain ⟨pa, vs, rfl, h1, h2⟩ := w
      have af3 : Aft X.K F W σ (SlIs X.K) Q ρ3 Hd3 (.val (.d (.tuple (cutL ds l h))) S3) := af3
      refine .inl ⟨pa, vs, rfl, same_t r3.hd h1, fun hw => ?_, fun _ np o' hp ho' => ?_⟩
      · rw [cut_whole (by rw [← dpAll_len h2]; exact hw)] at af3
        exact af3 _ H3 ρ3 Hd3 .refl r3 (.tup h1 h2)
      · exact af3 (.ref np) _ ρ3 _ (r3.grD hp) (r3.newD hp (o := FT o' (cutV vs l h)) ho') (.tup (.inl (.inr ⟨o', upd_same⟩)) (dpAll_mono (same_upd (r3.hd.free hp)) (dpAll_cut h2 l h)))
    | str z =>
      have af3 : Aft X.K F W σ (SlIs X.K) Q ρ3 Hd3 (match (if z.length ≤ lim then some (PyData.str (cutS z l h)) else none) with | some c => .val (.d c) S3 | none => .bad) := af3
      split at af3
      · rename_i c hc
        split at hc
        · rename_i hl
          cases hc
          exact .inr ⟨z, w, lim_line hl, af3 _ H3 ρ3 Hd3 .refl r3 (.str _)⟩
        · cases hc
      · exact False.elim af3
    | _ => exact False.elim af3
theorem pzf_sl (he : PZ X e za) (hl : PZO X lo zl) (hh : PZO X hi zh) : PZF X (.Subscript e (.Slice lo hi none p2) pos) (zslF za zl zh) := fun W tk => by
  obtain ⟨t, p, s⟩ := he W tk
  obtain ⟨t1, p1, s1⟩ := hl W tk
  obtain ⟨t2, p2, s2⟩ := hh W tk
  refine ⟨_, pe_slice sl_list p p1 p2, fun F σ H Q Γ S ρ Hd rl sl af => ?_⟩
  refine s F σ H _ Γ S ρ Hd rl sl (Aft.imp (aft_bindF af) ?_)
  rintro x H1 ⟨ρ1, Hd1, x', S1, g1, r1, hx, af1⟩
  refine s1 F σ H1 _ Γ S1 ρ1 Hd1 r1 (sl.grow g1) (Aft.imp (aft_bindF af1) ?_)
  rintro l H2 ⟨ρ2, Hd2, l', S2, g2, r2, hl, af2⟩
  refine s2 F σ H2 _ Γ S2 ρ2 Hd2 r2 ((sl.grow g1).grow g2) (Aft.imp (aft_bindF af2) ?_)
  rintro h H3 ⟨ρ3, Hd3, h', S3, g3, r3, hh, af3⟩
  have e1 : l = l' := hl
  have e2 : h = h' := hh
  subst e1 e2
  cases q : res S3 x' with
  | none => rw [q] at af3; exact False.elim af3
  | some d =>
    rw [q] at af3
    have w := vw_of r3 ((hx.grow g2).grow g3) q
    cases d with
    | list ds =>
      obtain ⟨pa, vs, rfl, h1, h2⟩ := w
      exact ⟨pa, vs, rfl, h1, fun np hp => af3 np _ ρ3 Hd3 .refl (r3.junk hp) (fun z => r3.ne_new hp z rfl) (r3.fr_free hp) (r3.hd.free hp) (by rw [upd_same]; simp) ⟨np, _, rfl, upd_same, dpAll_cut h2 l h⟩⟩
    | _ => exact False.elim af3
end
/-! ### dicts -/
section
variable {κ : Type} [DecidableEq κ]
def valD (kvs : List (κ × PyData)) (k : κ) : Option PyData := (kvs.find? fun kv => decide (kv.1 = k)).map (·.2)
def putD (kvs : List (κ × PyData)) (k : κ) (v : PyData) : List (κ × PyData) :=
  if (kvs.any fun kv => decide (kv.1 = k)) = true then kvs.map (fun kv => if kv.1 = k then (kv.1, v) else kv) else kvs ++ [(k, v)]
theorem kv_any {K : PySem.W.Frag} {H : Hp} {k : κ} : ∀ {us : List (κ × V)} {ks : List (κ × PyData)}, KvOk K H us ks → (us.any fun kv => decide (kv.1 = k)) = (ks.any fun kv => decide (kv.1 = k))
  | _, _, .nil => rfl
  | _, _, .cons h t => by rw [List.any_cons, List.any_cons, h.1, kv_any t]
theorem kv_val {K : PySem.W.Frag} {H : Hp} {k : κ} : ∀ {us : List (κ × V)} {ks : List (κ × PyData)}, KvOk K H us ks → (∀ d, valD ks k = some d → ∃ v, valV us k = some v ∧ Dp K H v d) ∧ (valD ks k = none → valV us k = none)
  | _, _, .nil => ⟨fun d e => absurd (show (none : Option PyData) = some d from e) (by simp), fun _ => rfl⟩
  | (p :: _), (q :: _), .cons h t => by
    obtain ⟨h1, h2⟩ := kv_val (k := k) t
    unfold valD valV at *
    rw [List.find?_cons, List.find?_cons]
    by_cases e : q.1 = k
    · rw [decide_eq_true e, decide_eq_true (h.1.trans e)]
      exact ⟨fun d z => by cases z; exact ⟨p.2, rfl, h.2⟩, fun z => by cases z⟩
    · rw [decide_eq_false e, decide_eq_false (fun z => e (h.1.symm.trans z))]
      exact ⟨h1, h2⟩
theorem kv_map {K : PySem.W.Frag} {H : Hp} {k : κ} {v : V} {d : PyData} (hv : Dp K H v d) : ∀ {us : List (κ × V)} {ks : List (κ × PyData)}, KvOk K H us ks → KvOk K H (us.map fun kv => if kv.1 = k then (kv.1, v) else kv) (ks.map fun kv => if kv.1 = k then (kv.1, d) else kv)
  | _, _, .nil => .nil
  | (p :: _), (q :: _), .cons h t => by
    rw [List.map_cons, List.map_cons]
    refine .cons ?_ (kv_map hv t)
    by_cases e : q.1 = k
    · rw [if_pos e, if_pos (h.1.trans e)]
      exact ⟨h.1, hv⟩
    · rw [if_neg e, if_neg (fun z => e (h.1.symm.trans z))]
      exact h
theorem kv_app {K : PySem.W.Frag} {H : Hp} : ∀ {us us' : List (κ × V)} {ks ks' : List (κ × PyData)}, KvOk K H us ks → KvOk K H us' ks' → KvOk K H (us ++ us') (ks ++ ks')
  | _, _, _, _, .nil, b => b
  | _, _, _, _, .cons h t, b => .cons h (kv_app t b)
theorem kv_put {K : PySem.W.Frag} {H : Hp} {k : κ} {v : V} {d : PyData} (hv : Dp K H v d) {us : List (κ × V)} {ks : List (κ × PyData)} (h : KvOk K H us ks) : KvOk K H (putK us k v) (putD ks k d) := by
  unfold putK putD
  rw [kv_any h]
  by_cases e : (ks.any fun kv => decide (kv.1 = k)) = true
  · rw [if_pos e, if_pos e]
    exact kv_map hv h
  · rw [if_neg e, if_neg e]
    exact kv_app h (.cons ⟨rfl, hv⟩ .nil)
end
def keyOf : PyData → Option Key
  | .int i => some (.inl i)
  | .str x => some (.inr x)
  | _ => none
def keySl : Sl → Option Key
  | .d x => keyOf x
  | _ => none
theorem key_of {K : KF} {ρ : Ads} {Hd : Hp} {v : V} {x : Sl} {k : Key} (h : SlIs K ρ Hd v x) (e : keySl x = some k) : v = kV k := by
  cases x with
  | d y =>
    have w := dp_vw (H := Hd) (Same.refl _) h
    cases y with
    | int i => cases e; exact w
    | str s => cases e; exact w
    | _ => cases e
  | _ => cases e
def resD (S : Sto) : Sl → Option (List (Key × PyData))
  | .box n => (match S[n]? with
    | some (.dic kvs) => some kvs
    | _ => none)
  | .sub n => (match S[n]? with
    | some (.ins _ _ _ kvs) => some kvs
    | _ => none)
  | _ => none
theorem dic_of {K : KF} {F : Hp} {ρ : Ads} {Hd H : Hp} {S : Sto} {v : V} {x : Sl} {kvs : List (Key × PyData)} (r : Rel K F ρ Hd H S) (h : SlIs K ρ Hd v x) (e : resD S x = some kvs) : ∃ a us, v = .ref a ∧ H a = some (.dK us) ∧ KvOk K Hd us kvs := by
  cases x with
  | box n =>
    obtain ⟨a, as, rfl, h2⟩ := h
    unfold resD at e
    dsimp only at e
    split at e
    · rename_i ks h1
      cases e
      obtain ⟨_, a', us, e1, hv, hks⟩ := r.box n _ _ h1 h2 (by simp)
      have e2 : a = a' := (List.cons.inj e1).1
      subst e2
      exact ⟨a, us, rfl, hv, hks⟩
    · cases e
  | sub n =>
    obtain ⟨a, b, as, rfl, h2⟩ := h
    unfold resD at e
    dsimp only at e
    split at e
    · rename_i C fs g ks h1
      cases e
      obtain ⟨_, a', b', dx, gs, us, e1, _, _, _, _, hv, hks, _⟩ := r.box n _ _ h1 h2 (by simp)
      have e2 : b = b' := (List.cons.inj (List.cons.inj e1).2).1
      subst e2
      exact ⟨b, us, rfl, hv, hks⟩
    · cases e
  | _ => cases e
def putS (S : Sto) (x : Sl) (k : Key) (d : PyData) : Option Sto := match x with
  | .box n => (match S[n]? with
    | some (.dic kvs) => if kvs.length < lim then some (S.set n (.dic (putD kvs k d))) else none
    | _ => none)
  | .sub n => (match S[n]? with
    | some (.ins C fs g kvs) => if kvs.length < lim then some (S.set n (.ins C fs g (putD kvs k d))) else none
    | _ => none)
  | _ => none
theorem put_of {K : KF} {F : Hp} {ρ : Ads} {Hd H : Hp} {S S' : Sto} {v u : V} {x : Sl} {k : Key} {d : PyData} (r : Rel K F ρ Hd H S) (h : SlIs K ρ Hd v x) (hd : Dp K Hd u d) (e : putS S x k d = some S') :
    ∃ a H', v = .ref a ∧ DPut H a (kV k) u H' ∧ Rel K F ρ Hd H' S' := by
  cases x with
  | box n =>
    obtain ⟨a, as, rfl, h2⟩ := h
    unfold putS at e
    dsimp only at e
    split at e
    · rename_i ks h1
      split at e
      · rename_i hl
        cases e
        obtain ⟨_, a', us, e1, hv, hks⟩ := r.box n _ _ h1 h2 (by simp)
        obtain ⟨e2, e3⟩ := List.cons.inj e1
        subst e2
        refine ⟨a, _, rfl, .k hv (by rw [kv_len hks]; exact lim_lt (Nat.le_of_lt hl)), r.write h1 h2 (by simp) (by simp) ⟨a, _, e1, upd_same, kv_put hd hks⟩⟩
      · cases e
    · cases e
  | sub n =>
    obtain ⟨a, b, as, rfl, h2⟩ := h
    unfold putS at e
    dsimp only at e
    split at e
    · rename_i C fs g ks h1
      split at e
      · rename_i hl
        cases e
        obtain ⟨_, a', b', dx, gs, us, e1, hi, hg, hf, hgg, hv, hks, hno⟩ := r.box n _ _ h1 h2 (by simp)
        obtain ⟨e2, e3⟩ := List.cons.inj e1
        obtain ⟨e4, e5⟩ := List.cons.inj e3
        subst e2 e4
        have nab : a ≠ b := ne_of hi hv (by intro z; cases z)
        refine ⟨b, _, rfl, .k hv (by rw [kv_len hks]; exact lim_lt (Nat.le_of_lt hl)), r.write h1 h2 (by simp) (by simp) ⟨a, b, dx, gs, _, e1, by rw [upd_ne nab]; exact hi, hg, hf, hgg, upd_same, kv_put hd hks, hno⟩⟩
      · cases e
    · cases e
  | _ => cases e
def zdget (zd zk : ZE) : ZE := fun Γ S => (zd Γ S).bind fun x S1 => (zk Γ S1).bind fun y S2 => match resD S2 x, keySl y with
  | some kvs, some k => (match valD kvs k with
    | some c => .val (.d c) S2
    | none => .bad)
  | _, _ => .bad
def zdin (zk zd : ZE) : ZE := fun Γ S => (zk Γ S).bind fun y S1 => (zd Γ S1).bind fun x S2 => match resD S2 x, keySl y with
  | some kvs, some k => .val (.d (.bool (valD kvs k).isSome)) S2
  | _, _ => .bad
def zdnin (zk zd : ZE) : ZE := fun Γ S => (zk Γ S).bind fun y S1 => (zd Γ S1).bind fun x S2 => match resD S2 x, keySl y with
  | some kvs, some k => .val (.d (.bool !(valD kvs k).isSome)) S2
  | _, _ => .bad
def zdget2 (zd zk zo : ZE) : ZE := fun Γ S => (zd Γ S).bind fun x S1 => match resD S1 x with
  | some _ => (zk Γ S1).bind fun y S2 => (zo Γ S2).bind fun o S3 => (match resD S3 x, keySl y, o with
    | some kvs, some k, .d d => .val (.d ((valD kvs k).getD d)) S3
    | _, _, _ => .bad)
  | none => .bad
theorem dget_of {K : KF} {F : Hp} {ρ : Ads} {Hd H : Hp} {S : Sto} {v u : V} {x y : Sl} {kvs : List (Key × PyData)} {k : Key} (r : Rel K F ρ Hd H S) (h : SlIs K ρ Hd v x) (h' : SlIs K ρ Hd u y) (e : resD S x = some kvs) (e' : keySl y = some k) :
    ∃ a o, v = .ref a ∧ IsD H a ∧ DGet H a u o ∧ (∀ d, valD kvs k = some d → ∃ w, o = some w ∧ Dp K Hd w d) ∧ (valD kvs k = none → o = none) := by
  obtain ⟨a, us, rfl, hv, hks⟩ := dic_of r h e
  rw [key_of h' e']
  obtain ⟨h1, h2⟩ := kv_val (k := k) hks
  exact ⟨a, _, rfl, .inl ⟨us, .inl hv⟩, .k hv, h1, h2⟩
section
variable {X : CxF} {o i f e : Expr} {zd zk zo : ZE} {pos apos cpos : Pos}
theorem pz_dget (hu : X.A.units + 1 < cLine) (ho : PZ X o zd) (hi : PZ X i zk) (hs : NoSl i := by exact fun _ _ => rfl) : PZ X (.Subscript o i pos) (zdget zd zk) := fun W tk => by
  obtain ⟨t, p, s⟩ := ho W tk
  obtain ⟨t', p', s'⟩ := hi W tk
  refine ⟨_, pe_dget hu p p' hs, fun F σ H Q Γ S ρ Hd rl sl af => ?_⟩
  refine s F σ H _ Γ S ρ Hd rl sl (Aft.imp (aft_bind af) ?_)
  rintro x H1 ⟨ρ1, Hd1, x', S1, g1, r1, hx, af1⟩
  refine s' F σ H1 _ Γ S1 ρ1 Hd1 r1 (sl.grow g1) (Aft.imp (aft_bind af1) ?_)
  rintro y H2 ⟨ρ2, Hd2, y', S2, g2, r2, hy, af2⟩
  split at af2
  · rename_i kvs k e1 e2
    obtain ⟨a, ov, rfl, _, g, h1, h2⟩ := dget_of r2 (hx.grow g2) hy e1 e2
    split at af2
    · rename_i c hc
      obtain ⟨w, rfl, hw⟩ := h1 c hc
      exact ⟨a, w, rfl, g, af2 w H2 ρ2 Hd2 .refl r2 hw⟩
    · exact False.elim af2
  · exact False.elim af2
theorem snd_din {W : WX} {td ty : TE} {op : Bool → Bool} {z : ZE} {tt : TE} (s' : Snd X.K W (SlIs X.K) td zd) (s : Snd X.K W (SlIs X.K) ty zk)
    (ht : tt = fun σ H Q => ty σ H fun y H1 => td σ H1 fun x H2 => ∃ a o, x = .ref a ∧ DGet H2 a y o ∧ Q (.bl (op o.isSome)) H2)
    (hz : z = fun Γ S => (zk Γ S).bind fun y S1 => (zd Γ S1).bind fun x S2 => match resD S2 x, keySl y with
      | some kvs, some k => .val (.d (.bool (op (valD kvs k).isSome))) S2
      | _, _ => .bad) : Snd X.K W (SlIs X.K) tt z := by
  subst ht hz
  intro F σ H Q Γ S ρ Hd rl sl af
  refine s F σ H _ Γ S ρ Hd rl sl (Aft.imp (aft_bind af) ?_)
  rintro y H1 ⟨ρ1, Hd1, y', S1, g1, r1, hy, af1⟩
  refine s' F σ H1 _ Γ S1 ρ1 Hd1 r1 (sl.grow g1) (Aft.imp (aft_bind af1) ?_)
  rintro x H2 ⟨ρ2, Hd2, x', S2, g2, r2, hx, af2⟩
  split at af2
  · rename_i kvs k e1 e2
    obtain ⟨a, ov, rfl, _, g, h1, h2⟩ := dget_of r2 hx (hy.grow g2) e1 e2
    refine ⟨a, ov, rfl, g, ?_⟩
    have eo : ov.isSome = (valD kvs k).isSome := by
      cases q : valD kvs k with
      | none => rw [h2 q]; rfl
      | some d => obtain ⟨w, rfl, _⟩ := h1 d q; rfl
    rw [eo]
    exact af2 _ H2 ρ2 Hd2 .refl r2 (.bl _)
  · exact False.elim af2
theorem pz_din (hu : X.A.units + 1 < cLine) (hi : PZ X i zk) (ho : PZ X o zd) (hm : behindInMarks .In o = false := by rfl) : PZ X (.Compare i [.In] [o] pos) (zdin zk zd) := fun W tk => by
  obtain ⟨t, p, s⟩ := ho W tk
  obtain ⟨t', p', s'⟩ := hi W tk
  exact ⟨_, pe_cmp (pc_din hu p' p) hm, snd_din (op := id) s s' rfl rfl⟩
theorem pz_dnin (hu : X.A.units + 1 < cLine) (hi : PZ X i zk) (ho : PZ X o zd) (hm : behindInMarks .NotIn o = false := by rfl) : PZ X (.Compare i [.NotIn] [o] pos) (zdnin zk zd) := fun W tk => by
  obtain ⟨t, p, s⟩ := ho W tk
  obtain ⟨t', p', s'⟩ := hi W tk
  exact ⟨_, pe_cmp (pc_dnotin hu p' p) hm, snd_din (op := not) s s' rfl rfl⟩
theorem pzt_din (hu : X.A.units + 1 < cLine) (hi : PZ X i zk) (ho : PZ X o zd) (hm : behindInMarks .In o = false := by rfl) : PZT X (.Compare i [.In] [o] pos) (ztst (zdin zk zd)) := fun W tk => by
  obtain ⟨t, p, s⟩ := ho W tk
  obtain ⟨t', p', s'⟩ := hi W tk
  exact ⟨_, pt_cmp (pc_din hu p' p) hm, snd_tst (snd_din (op := id) s s' rfl rfl)⟩
theorem pzt_dnin (hu : X.A.units + 1 < cLine) (hi : PZ X i zk) (ho : PZ X o zd) (hm : behindInMarks .NotIn o = false := by rfl) : PZT X (.Compare i [.NotIn] [o] pos) (ztst (zdnin zk zd)) := fun W tk => by
  obtain ⟨t, p, s⟩ := ho W tk
  obtain ⟨t', p', s'⟩ := hi W tk
  exact ⟨_, pt_cmp (pc_dnotin hu p' p) hm, snd_tst (snd_din (op := not) s s' rfl rfl)⟩
theorem pz_dget2 (hu : X.A.units + 1 < cLine) (ho : PZ X o zd) (he : PZ X e zk) (hf : PZ X f zo) (m : M2 X o "get" apos e f cpos := by exact ⟨rfl, rfl, rfl, rfl⟩) : PZ X (.Call (.Attribute o "get" apos) [e, f] [] cpos) (zdget2 zd zk zo) := fun W tk => by
  obtain ⟨t, p, s⟩ := ho W tk
  obtain ⟨t', p', s'⟩ := he W tk
  obtain ⟨t2, p2, s2⟩ := hf W tk
  refine ⟨_, pe_dget2 hu p p' p2 m, fun F σ H Q Γ S ρ Hd rl sl af => ?_⟩
  refine s F σ H _ Γ S ρ Hd rl sl (Aft.imp (aft_bind af) ?_)
  rintro x H1 ⟨ρ1, Hd1, x', S1, g1, r1, hx, af1⟩
  split at af1
  · rename_i kvs0 e0
    obtain ⟨a, us, rfl, hv, _⟩ := dic_of r1 hx e0
    refine ⟨a, rfl, .inl ⟨us, .inl hv⟩, ?_⟩
    refine s' F σ H1 _ Γ S1 ρ1 Hd1 r1 (sl.grow g1) (Aft.imp (aft_bind af1) ?_)
    rintro y H2 ⟨ρ2, Hd2, y', S2, g2, r2, hy, af2⟩
    refine s2 F σ H2 _ Γ S2 ρ2 Hd2 r2 ((sl.grow g1).grow g2) (Aft.imp (aft_bind af2) ?_)
    rintro z H3 ⟨ρ3, Hd3, z', S3, g3, r3, hz, af3⟩
    split at af3
    · rename_i kvs k d e1 e2
      obtain ⟨a', ov, ea, _, g, h1, h2⟩ := dget_of r3 ((hx.grow g2).grow g3) (hy.grow g3) e1 e2
      cases ea
      refine ⟨ov, g, ?_⟩
      cases q : valD kvs k with
      | none =>
        rw [h2 q]
        rw [q] at af3
        exact af3 z H3 ρ3 Hd3 .refl r3 hz
      | some d' =>
        obtain ⟨w, rfl, hw⟩ := h1 d' q
        rw [q] at af3
        exact af3 w H3 ρ3 Hd3 .refl r3 hw
    · exact False.elim af3
  · exact False.elim af1
end
end Z
end
section
set_option Elab.async false
set_option linter.all false
set_option maxRecDepth 100000
set_option autoImplicit false
set_option maxHeartbeats 1000000
namespace Z
open PySem L2
/-! ### built-in functions -/
def CallZ (X : CxF) (f : Value) (r : Sto → List Sl → Option PyData) : Prop := ∃ rr : List V → Hp → VK → Prop, CallR X f rr ∧
  ∀ (F : Hp) (vs : List V) (H : Hp) (Q : VK) (xs : List Sl) (c : PyData) (S : Sto) (ρ : Ads) (Hd : Hp), Rel X.K F ρ Hd H S → SlAll X.K ρ Hd vs xs → r S xs = some c → Made X.K F ρ Hd S c Q → rr vs H Q
/-- the answer is a new mutable object -/
def MadeF (K : KF) (F : Hp) (ρ : Ads) (Hd H : Hp) (S : Sto) (b : Box) (Q : VK) : Prop := ∀ p o, H p = none → BoxOk K Hd (upd H p o) [p] b → Q (.ref p) (upd H p o)
def CallZF (X : CxF) (f : Value) (r : Sto → List Sl → Option Box) : Prop := ∃ rr : List V → Hp → VK → Prop, CallR X f rr ∧
  ∀ (F : Hp) (vs : List V) (H : Hp) (Q : VK) (xs : List Sl) (b : Box) (S : Sto) (ρ : Ads) (Hd : Hp), Rel X.K F ρ Hd H S → SlAll X.K ρ Hd vs xs → r S xs = some b → MadeF X.K F ρ Hd H S b Q → rr vs H Q
def zcb (r : Sto → List Sl → Option PyData) (za : ZA) : ZE := fun Γ S => (za Γ S).bind fun xs S1 => match r S1 xs with
  | some c => .val (.d c) S1
  | none => .bad
def zcf (r : Sto → List Sl → Option Box) (za : ZA) : ZF := fun Γ S => (za Γ S).bind fun xs S1 => match r S1 xs with
  | some c => .val c S1
  | none => .bad
section
variable {X : CxF} {x : Str} {p pos : Pos} {e : Expr} {es : List Expr} {zs : ZA}
theorem CallR.or {f : Value} {r r' : List V → Hp → VK → Prop} (h : CallR X f r) (h' : CallR X f r') : CallR X f (fun xs H Q => r xs H Q ∨ r' xs H Q) := by
  intro pins s σ H xs us Q I rv q
  rcases q with q | q
  · exact h pins s σ H xs us Q I rv q
  · exact h' pins s σ H xs us Q I rv q
theorem snd_cb {W : WX} {t : TA} {rr : List V → Hp → VK → Prop} {r : Sto → List Sl → Option PyData} (s : Snd X.K W (SlAll X.K) t zs)
    (h : ∀ (F : Hp) (vs : List V) (H : Hp) (Q : VK) (xs : List Sl) (c : PyData) (S : Sto) (ρ : Ads) (Hd : Hp), Rel X.K F ρ Hd H S → SlAll X.K ρ Hd vs xs → r S xs = some c → Made X.K F ρ Hd S c Q → rr vs H Q) : Snd X.K W (SlIs X.K) (tCB rr t) (zcb r zs) := by
  intro F σ H Q Γ S ρ Hd rl sl af
  refine s F σ H _ Γ S ρ Hd rl sl (Aft.imp (aft_bind af) ?_)
  rintro vs H1 ⟨ρ1, Hd1, xs, S1, g1, r1, hx, af1⟩
  split at af1
  · rename_i c hc
    exact h F vs H1 Q xs c S1 ρ1 Hd1 r1 hx hc fun v H' Hd' sm r' d => af1 v H' ρ1 Hd' (.hd sm) r' d
  · exact False.elim af1
theorem snd_cf {W : WX} {t : TA} {rr : List V → Hp → VK → Prop} {r : Sto → List Sl → Option Box} (s : Snd X.K W (SlAll X.K) t zs)
    (h : ∀ (F : Hp) (vs : List V) (H : Hp) (Q : VK) (xs : List Sl) (b : Box) (S : Sto) (ρ : Ads) (Hd : Hp), Rel X.K F ρ Hd H S → SlAll X.K ρ Hd vs xs → r S xs = some b → MadeF X.K F ρ Hd H S b Q → rr vs H Q) : SndF X.K W (tCB rr t) (zcf r zs) := by
  intro F σ H Q Γ S ρ Hd rl sl af
  refine s F σ H _ Γ S ρ Hd rl sl (Aft.imp (aft_bindF af) ?_)
  rintro vs H1 ⟨ρ1, Hd1, xs, S1, g1, r1, hx, af1⟩
  split at af1
  · rename_i c hc
    exact h F vs H1 Q xs c S1 ρ1 Hd1 r1 hx hc fun np o hp ok => af1 np _ ρ1 Hd1 .refl (r1.junk hp) (fun z => r1.ne_new hp z rfl) (r1.fr_free hp) (r1.hd.free hp) (by rw [upd_same]; simp) ok
  · exact False.elim af1
theorem pz_cb {id : String} {r : Sto → List Sl → Option PyData} (hc : CallZ X (.builtin id) r) (hm : X.mg x = none) (hv : bootBuiltins x = some (.builtin id)) (ha : PZA X (e :: es) zs) (hg : Gl X x := by rfl) (hn : x ≠ "__name__" := by decide) (hdb : (x == ("__debug__" : Str)) = false := by decide)
    (he : starEach (e :: es) X.env = (false, eval e X.env) :: starEach es X.env := by rfl) (hpl : (backTo pos (starEach es X.env)).any (·.1) = false := by rfl) : PZ X (.Call (.Name x p) (e :: es) [] pos) (zcb r zs) := fun W tk => by
  obtain ⟨rr, h1, h2⟩ := hc
  obtain ⟨t, pa, sa⟩ := ha W tk
  exact ⟨_, pe_callB h1 hg hm hv pa hn hdb he hpl, snd_cb sa h2⟩
theorem pz_cty {T : String} {r : Sto → List Sl → Option PyData} (hc : CallZ X (.type T) r) (hm : X.mg x = none) (hv : bootBuiltins x = some (.type T)) (ha : PZA X (e :: es) zs) (hg : Gl X x := by rfl) (hn : x ≠ "__name__" := by decide) (hdb : (x == ("__debug__" : Str)) = false := by decide)
    (he : starEach (e :: es) X.env = (false, eval e X.env) :: starEach es X.env := by rfl) (hpl : (backTo pos (starEach es X.env)).any (·.1) = false := by rfl) : PZ X (.Call (.Name x p) (e :: es) [] pos) (zcb r zs) := fun W tk => by
  obtain ⟨rr, h1, h2⟩ := hc
  obtain ⟨t, pa, sa⟩ := ha W tk
  exact ⟨_, pe_callTy h1 hg hm hv pa hn hdb he hpl, snd_cb sa h2⟩
theorem pzf_cb {id : String} {r : Sto → List Sl → Option Box} (hc : CallZF X (.builtin id) r) (hm : X.mg x = none) (hv : bootBuiltins x = some (.builtin id)) (ha : PZA X (e :: es) zs) (hg : Gl X x := by rfl) (hn : x ≠ "__name__" := by decide) (hdb : (x == ("__debug__" : Str)) = false := by decide)
    (he : starEach (e :: es) X.env = (false, eval e X.env) :: starEach es X.env := by rfl) (hpl : (backTo pos (starEach es X.env)).any (·.1) = false := by rfl) : PZF X (.Call (.Name x p) (e :: es) [] pos) (zcf r zs) := fun W tk => by
  obtain ⟨rr, h1, h2⟩ := hc
  obtain ⟨t, pa, sa⟩ := ha W tk
  exact ⟨_, pe_callB h1 hg hm hv pa hn hdb he hpl, snd_cf sa h2⟩
theorem pzf_cty {T : String} {r : Sto → List Sl → Option Box} (hc : CallZF X (.type T) r) (hm : X.mg x = none) (hv : bootBuiltins x = some (.type T)) (ha : PZA X (e :: es) zs) (hg : Gl X x := by rfl) (hn : x ≠ "__name__" := by decide) (hdb : (x == ("__debug__" : Str)) = false := by decide)
    (he : starEach (e :: es) X.env = (false, eval e X.env) :: starEach es X.env := by rfl) (hpl : (backTo pos (starEach es X.env)).any (·.1) = false := by rfl) : PZF X (.Call (.Name x p) (e :: es) [] pos) (zcf r zs) := fun W tk => by
  obtain ⟨rr, h1, h2⟩ := hc
  obtain ⟨t, pa, sa⟩ := ha W tk
  exact ⟨_, pe_callTy h1 hg hm hv pa hn hdb he hpl, snd_cf sa h2⟩
end
/-! ### by one argument that is seen -/
def on1 {α : Type} (f : PyData → Option α) (S : Sto) : List Sl → Option α
  | [x] => (res S x).bind f
  | _ => none
theorem on1_ok {K : KF} {F : Hp} {ρ : Ads} {Hd H : Hp} {S : Sto} {α : Type} {f : PyData → Option α} {vs : List V} {xs : List Sl} {c : α} (r : Rel K F ρ Hd H S) (h : SlAll K ρ Hd vs xs) (e : on1 f S xs = some c) : ∃ v d, vs = [v] ∧ Vw K Hd H v d ∧ f d = some c := by
  cases h with
  | nil => cases e
  | cons hx t =>
    cases t with
    | nil =>
      rename_i v x
      have e : (res S x).bind f = some c := e
      cases q : res S x with
      | none => rw [q] at e; cases e
      | some d =>
        rw [q] at e
        exact ⟨v, d, rfl, vw_of r hx q, e⟩
    | cons _ _ => cases e
def on2 {α : Type} (f : PyData → PyData → Option α) (S : Sto) : List Sl → Option α
  | [x, y] => (res S x).bind fun a => (res S y).bind fun b => f a b
  | _ => none
theorem on2_ok {K : KF} {F : Hp} {ρ : Ads} {Hd H : Hp} {S : Sto} {α : Type} {f : PyData → PyData → Option α} {vs : List V} {xs : List Sl} {c : α} (r : Rel K F ρ Hd H S) (h : SlAll K ρ Hd vs xs) (e : on2 f S xs = some c) : ∃ v u d d', vs = [v, u] ∧ Vw K Hd H v d ∧ Vw K Hd H u d' ∧ f d d' = some c := by
  cases h with
  | nil => cases e
  | cons hx t =>
    cases t with
    | nil => cases e
    | cons hy t =>
      cases t with
      | nil =>
        rename_i v x u y
        have e : ((res S x).bind fun a => (res S y).bind fun b => f a b) = some c := e
        cases q : res S x with
        | none => rw [q] at e; cases e
        | some d =>
          rw [q] at e
          cases q' : res S y with
          | none => rw [q'] at e; cases e
          | some d' =>
            rw [q'] at e
            exact ⟨v, u, d, d', rfl, vw_of r hx q, vw_of r hy q', e⟩
      | cons _ _ => cases e
def intsOf : List PyData → Option (List Int)
  | [] => some []
  | .int i :: r => (intsOf r).map (i :: ·)
  | _ => none
def bolsOf : List PyData → Option (List Bool)
  | [] => some []
  | .bool i :: r => (bolsOf r).map (i :: ·)
  | _ => none
def strsOf : List PyData → Option (List Str)
  | [] => some []
  | .str i :: r => (strsOf r).map (i :: ·)
  | _ => none
theorem intsOf_map : ∀ ns : List Int, intsOf (ns.map .int) = some ns
  | [] => rfl
  | n :: ns => by rw [List.map_cons, intsOf, intsOf_map ns]; rfl
theorem bolsOf_map : ∀ ns : List Bool, bolsOf (ns.map .bool) = some ns
  | [] => rfl
  | n :: ns => by rw [List.map_cons, bolsOf, bolsOf_map ns]; rfl
theorem strsOf_map : ∀ ns : List Str, strsOf (ns.map .str) = some ns
  | [] => rfl
  | n :: ns => by rw [List.map_cons, strsOf, strsOf_map ns]; rfl
theorem ints_of : ∀ {ds : List PyData} {ns : List Int}, intsOf ds = some ns → ds = ns.map .int
  | [], _, e => by cases e; rfl
  | d :: r, ns, e => by
    cases d with
    | int i =>
      have e : (intsOf r).map (i :: ·) = some ns := e
      cases q : intsOf r with
      | none => rw [q] at e; cases e
      | some ms => rw [q] at e; cases e; rw [ints_of q]; rfl
    | _ => cases e
theorem bols_of : ∀ {ds : List PyData} {ns : List Bool}, bolsOf ds = some ns → ds = ns.map .bool
  | [], _, e => by cases e; rfl
  | d :: r, ns, e => by
    cases d with
    | bool i =>
      have e : (bolsOf r).map (i :: ·) = some ns := e
      cases q : bolsOf r with
      | none => rw [q] at e; cases e
      | some ms => rw [q] at e; cases e; rw [bols_of q]; rfl
    | _ => cases e
theorem strs_of : ∀ {ds : List PyData} {ns : List Str}, strsOf ds = some ns → ds = ns.map .str
  | [], _, e => by cases e; rfl
  | d :: r, ns, e => by
    cases d with
    | str i =>
      have e : (strsOf r).map (i :: ·) = some ns := e
      cases q : strsOf r with
      | none => rw [q] at e; cases e
      | some ms => rw [q] at e; cases e; rw [strs_of q]; rfl
    | _ => cases e
theorem dpAll_ints {K : PySem.W.Frag} {H : Hp} : ∀ {vs : List V} {ns : List Int}, DpAll K H vs (ns.map .int) → vs = ns.map .int
  | _, [], h => by cases h; rfl
  | _, n :: ns, h => by
    cases h with
    | cons a t => cases a; rw [dpAll_ints t]; rfl
theorem dpAll_bols {K : PySem.W.Frag} {H : Hp} : ∀ {vs : List V} {ns : List Bool}, DpAll K H vs (ns.map .bool) → vs = ns.map .bl
  | _, [], h => by cases h; rfl
  | _, n :: ns, h => by
    cases h with
    | cons a t => cases a; rw [dpAll_bols t]; rfl
theorem dpAll_strs {K : PySem.W.Frag} {H : Hp} : ∀ {vs : List V} {ns : List Str}, DpAll K H vs (ns.map .str) → vs = ns.map .str
  | _, [], h => by cases h; rfl
  | _, n :: ns, h => by
    cases h with
    | cons a t => cases a; rw [dpAll_strs t]; rfl
theorem ints_dp {K : PySem.W.Frag} {H : Hp} : ∀ ns : List Int, DpAll K H (ns.map .int) (ns.map .int)
  | [] => .nil
  | n :: ns => .cons (.int n) (ints_dp ns)
theorem strs_dp {K : PySem.W.Frag} {H : Hp} : ∀ ns : List Str, DpAll K H (ns.map .str) (ns.map .str)
  | [] => .nil
  | n :: ns => .cons (.str n) (strs_dp ns)
/-! ### len -/
def lenS (S : Sto) : List Sl → Option PyData
  | [x] => (match resD S x with
    | some kvs => some (.int kvs.length)
    | none => (match res S x with
      | some (.list ds) => some (.int ds.length)
      | some (.tuple ds) => some (.int ds.length)
      | some (.str z) => if z.length ≤ lim then some (.int z.length) else none
      | _ => none))
  | _ => none
section
variable {X : CxF}
theorem cz_len : CallZ X (.builtin "len") lenS := by
  refine ⟨_, CallR.or call_lenD call_len, fun F vs H Q xs c S ρ Hd r h e m => ?_⟩
  cases h with
  | nil => cases e
  | cons hx t =>
    cases t with
    | cons _ _ => cases e
    | nil =>
      rename_i v x
      unfold lenS at e
      dsimp only at e
      split at e
      · rename_i kvs q
        cases e
        obtain ⟨a, us, rfl, h1, h2⟩ := dic_of r hx q
        refine .inl ⟨a, us, rfl, h1, ?_⟩
        rw [kv_len h2]
        exact made0 m r (.int _)
      · split at e
        · rename_i ds q
          cases e
          obtain ⟨a, us, rfl, h1, h2⟩ := vw_of r hx q
          refine .inr ⟨_, _, rfl, .inl ⟨us, h1, rfl⟩, ?_⟩
          rw [dpAll_len h2]
          exact made0 m r (.int _)
        · rename_i ds q
          cases e
          obtain ⟨a, us, rfl, h1, h2⟩ := vw_of r hx q
          refine .inr ⟨_, _, rfl, .inr ⟨us, same_t r.hd h1, rfl⟩, ?_⟩
          rw [dpAll_len h2]
          exact made0 m r (.int _)
        · rename_i z q
          have w := vw_of r hx q
          split at e
          · rename_i hl
            cases e
            refine .inr ⟨v, z.length, rfl, ?_, made0 m r (.int _)⟩
            rw [show v = V.str z from w]
            exact ⟨lim_line hl, rfl⟩
          · cases e
        · cases e
/-! ### min, max, sum, all, any, abs -/
def minI : List Int → Option Int
  | [] => none
  | a :: r => some (r.foldl min a)
def maxI : List Int → Option Int
  | [] => none
  | a :: r => some (r.foldl max a)
theorem foldl_min : ∀ (r : List Int) (a : Int), (r.foldl min a = a ∨ r.foldl min a ∈ r) ∧ r.foldl min a ≤ a ∧ ∀ y ∈ r, r.foldl min a ≤ y
  | [], a => ⟨.inl rfl, Int.le_refl _, fun _ h => nomatch h⟩
  | b :: r, a => by
    obtain ⟨h1, h2, h3⟩ := foldl_min r (min a b)
    rw [List.foldl_cons]
    refine ⟨?_, by omega, fun y hy => ?_⟩
    · rcases h1 with h | h
      · rw [h]
        by_cases q : a ≤ b
        · exact .inl (by omega)
        · exact .inr (by rw [show min a b = b by omega]; exact List.mem_cons_self)
      · exact .inr (List.mem_cons_of_mem _ h)
    · rcases List.mem_cons.mp hy with rfl | hy
      · omega
      · exact h3 y hy
theorem foldl_max : ∀ (r : List Int) (a : Int), (r.foldl max a = a ∨ r.foldl max a ∈ r) ∧ a ≤ r.foldl max a ∧ ∀ y ∈ r, y ≤ r.foldl max a
  | [], a => ⟨.inl rfl, Int.le_refl _, fun _ h => nomatch h⟩
  | b :: r, a => by
    obtain ⟨h1, h2, h3⟩ := foldl_max r (max a b)
    rw [List.foldl_cons]
    refine ⟨?_, by omega, fun y hy => ?_⟩
    · rcases h1 with h | h
      · rw [h]
        by_cases q : b ≤ a
        · exact .inl (by omega)
        · exact .inr (by rw [show max a b = b by omega]; exact List.mem_cons_self)
      · exact .inr (List.mem_cons_of_mem _ h)
    · rcases List.mem_cons.mp hy with rfl | hy
      · omega
      · exact h3 y hy
theorem minI_iff {ns : List Int} {m : Int} (h : minI ns = some m) : m ∈ ns ∧ ∀ y ∈ ns, m ≤ y := by
  cases ns with
  | nil => cases h
  | cons a r =>
    cases h
    obtain ⟨h1, h2, h3⟩ := foldl_min r a
    refine ⟨?_, fun y hy => ?_⟩
    · rcases h1 with h | h
      · rw [h]; exact List.mem_cons_self
      · exact List.mem_cons_of_mem _ h
    · rcases List.mem_cons.mp hy with rfl | hy
      · exact h2
      · exact h3 y hy
theorem maxI_iff {ns : List Int} {m : Int} (h : maxI ns = some m) : m ∈ ns ∧ ∀ y ∈ ns, y ≤ m := by
  cases ns with
  | nil => cases h
  | cons a r =>
    cases h
    obtain ⟨h1, h2, h3⟩ := foldl_max r a
    refine ⟨?_, fun y hy => ?_⟩
    · rcases h1 with h | h
      · rw [h]; exact List.mem_cons_self
      · exact List.mem_cons_of_mem _ h
    · rcases List.mem_cons.mp hy with rfl | hy
      · exact h2
      · exact h3 y hy
theorem minI_eq {ns : List Int} {m : Int} (h1 : m ∈ ns) (h2 : ∀ y ∈ ns, m ≤ y) : minI ns = some m := by
  cases ns with
  | nil => cases h1
  | cons a r =>
    obtain ⟨a1, a2⟩ := minI_iff (ns := a :: r) (m := r.foldl min a) rfl
    have b1 := a2 m h1
    have b2 := h2 _ a1
    show some (r.foldl min a) = some m
    rw [Int.le_antisymm b1 b2]
theorem maxI_eq {ns : List Int} {m : Int} (h1 : m ∈ ns) (h2 : ∀ y ∈ ns, y ≤ m) : maxI ns = some m := by
  cases ns with
  | nil => cases h1
  | cons a r =>
    obtain ⟨a1, a2⟩ := maxI_iff (ns := a :: r) (m := r.foldl max a) rfl
    have b1 := a2 m h1
    have b2 := h2 _ a1
    show some (r.foldl max a) = some m
    rw [Int.le_antisymm b2 b1]
def lstOnly {α : Type} (f : List PyData → Option α) : PyData → Option α
  | .list ds => f ds
  | _ => none
def dMin : List PyData → Option PyData := fun ds => (intsOf ds).bind fun ns => (minI ns).map .int
def dMax : List PyData → Option PyData := fun ds => (intsOf ds).bind fun ns => (maxI ns).map .int
def dSum : List PyData → Option PyData := fun ds => (intsOf ds).map fun ns => .int ns.sum
def dAll : List PyData → Option PyData := fun ds => (bolsOf ds).map fun bs => .bool (bs.all id)
def dAny : List PyData → Option PyData := fun ds => (bolsOf ds).map fun bs => .bool (bs.any id)
theorem list_ints {K : PySem.W.Frag} {Hd H : Hp} {v : V} {ds : List PyData} {ns : List Int} (w : Vw K Hd H v (.list ds)) (e : intsOf ds = some ns) : ∃ a, v = .ref a ∧ SqL K H a (ns.map V.int) := by
  obtain ⟨a, vs, rfl, h1, h2⟩ := w
  rw [ints_of e] at h2
  rw [dpAll_ints h2] at h1
  exact ⟨a, rfl, h1⟩
theorem list_bols {K : PySem.W.Frag} {Hd H : Hp} {v : V} {ds : List PyData} {ns : List Bool} (w : Vw K Hd H v (.list ds)) (e : bolsOf ds = some ns) : ∃ a, v = .ref a ∧ SqL K H a (ns.map V.bl) := by
  obtain ⟨a, vs, rfl, h1, h2⟩ := w
  rw [bols_of e] at h2
  rw [dpAll_bols h2] at h1
  exact ⟨a, rfl, h1⟩
theorem list_strs {K : PySem.W.Frag} {Hd H : Hp} {v : V} {ds : List PyData} {ns : List Str} (w : Vw K Hd H v (.list ds)) (e : strsOf ds = some ns) : ∃ a, v = .ref a ∧ SqL K H a (ns.map V.str) := by
  obtain ⟨a, vs, rfl, h1, h2⟩ := w
  rw [strs_of e] at h2
  rw [dpAll_strs h2] at h1
  exact ⟨a, rfl, h1⟩
theorem cz_min (hc : X.calm = true := by rfl) : CallZ X (.builtin "min") (on1 (lstOnly dMin)) := by
  refine ⟨_, cr_min hc, fun F vs H Q xs c S ρ Hd r h e m => ?_⟩
  obtain ⟨v, d, rfl, w, e⟩ := on1_ok r h e
  cases d with
  | list ds =>
    have e : ((intsOf ds).bind fun ns => (minI ns).map PyData.int) = some c := e
    cases q : intsOf ds with
    | none => rw [q] at e; cases e
    | some ns =>
      rw [q] at e
      obtain ⟨a, rfl, hs⟩ := list_ints w q
      have e : (minI ns).map PyData.int = some c := e
      cases q2 : minI ns with
      | none => rw [q2] at e; cases e
      | some k =>
        rw [q2] at e
        cases e
        obtain ⟨k1, k2⟩ := minI_iff q2
        refine ⟨a, ns, rfl, hs, List.length_pos_of_mem k1, fun m' h1 h2 => ?_⟩
        rw [show m' = k from Int.le_antisymm (h2 k k1) (k2 m' h1)]
        exact made0 m r (.int _)
  | _ => cases e
theorem cz_max (hc : X.calm = true := by rfl) : CallZ X (.builtin "max") (on1 (lstOnly dMax)) := by
  refine ⟨_, cr_max hc, fun F vs H Q xs c S ρ Hd r h e m => ?_⟩
  obtain ⟨v, d, rfl, w, e⟩ := on1_ok r h e
  cases d with
  | list ds =>
    have e : ((intsOf ds).bind fun ns => (maxI ns).map PyData.int) = some c := e
    cases q : intsOf ds with
    | none => rw [q] at e; cases e
    | some ns =>
      rw [q] at e
      obtain ⟨a, rfl, hs⟩ := list_ints w q
      have e : (maxI ns).map PyData.int = some c := e
      cases q2 : maxI ns with
      | none => rw [q2] at e; cases e
      | some k =>
        rw [q2] at e
        cases e
        obtain ⟨k1, k2⟩ := maxI_iff q2
        refine ⟨a, ns, rfl, hs, List.length_pos_of_mem k1, fun m' h1 h2 => ?_⟩
        rw [show m' = k from Int.le_antisymm (k2 m' h1) (h2 k k1)]
        exact made0 m r (.int _)
  | _ => cases e
theorem cz_sum (hc : X.calm = true := by rfl) : CallZ X (.builtin "sum") (on1 (lstOnly dSum)) := by
  refine ⟨_, cr_sum hc, fun F vs H Q xs c S ρ Hd r h e m => ?_⟩
  obtain ⟨v, d, rfl, w, e⟩ := on1_ok r h e
  cases d with
  | list ds =>
    have e : ((intsOf ds).map fun ns => PyData.int ns.sum) = some c := e
    cases q : intsOf ds with
    | none => rw [q] at e; cases e
    | some ns =>
      rw [q] at e
      cases e
      obtain ⟨a, rfl, hs⟩ := list_ints w q
      exact ⟨a, ns, rfl, hs, made0 m r (.int _)⟩
  | _ => cases e
theorem cz_all (hc : X.calm = true := by rfl) : CallZ X (.builtin "all") (on1 (lstOnly dAll)) := by
  refine ⟨_, cr_all hc, fun F vs H Q xs c S ρ Hd r h e m => ?_⟩
  obtain ⟨v, d, rfl, w, e⟩ := on1_ok r h e
  cases d with
  | list ds =>
    have e : ((bolsOf ds).map fun bs => PyData.bool (bs.all id)) = some c := e
    cases q : bolsOf ds with
    | none => rw [q] at e; cases e
    | some ns =>
      rw [q] at e
      cases e
      obtain ⟨a, rfl, hs⟩ := list_bols w q
      exact ⟨a, ns, rfl, hs, made0 m r (.bl _)⟩
  | _ => cases e
theorem cz_any (hc : X.calm = true := by rfl) : CallZ X (.builtin "any") (on1 (lstOnly dAny)) := by
  refine ⟨_, cr_any hc, fun F vs H Q xs c S ρ Hd r h e m => ?_⟩
  obtain ⟨v, d, rfl, w, e⟩ := on1_ok r h e
  cases d with
  | list ds =>
    have e : ((bolsOf ds).map fun bs => PyData.bool (bs.any id)) = some c := e
    cases q : bolsOf ds with
    | none => rw [q] at e; cases e
    | some ns =>
      rw [q] at e
      cases e
      obtain ⟨a, rfl, hs⟩ := list_bols w q
      exact ⟨a, ns, rfl, hs, made0 m r (.bl _)⟩
  | _ => cases e
def dMin2 : PyData → PyData → Option PyData
  | .int i, .int j => some (.int (if j < i then j else i))
  | _, _ => none
def dMax2 : PyData → PyData → Option PyData
  | .int i, .int j => some (.int (if j > i then j else i))
  | _, _ => none
theorem cz_min2 (hc : X.calm = true := by rfl) : CallZ X (.builtin "min") (on2 dMin2) := by
  refine ⟨_, call_min2 hc, fun F vs H Q xs c S ρ Hd r h e m => ?_⟩
  obtain ⟨v, u, d, d', rfl, w, w', e⟩ := on2_ok r h e
  cases d with
  | int i =>
    cases d' with
    | int j => cases e; exact ⟨i, j, by rw [show v = V.int i from w, show u = V.int j from w'], made0 m r (.int _)⟩
    | _ => cases e
  | _ => cases e
theorem cz_max2 (hc : X.calm = true := by rfl) : CallZ X (.builtin "max") (on2 dMax2) := by
  refine ⟨_, call_max2 hc, fun F vs H Q xs c S ρ Hd r h e m => ?_⟩
  obtain ⟨v, u, d, d', rfl, w, w', e⟩ := on2_ok r h e
  cases d with
  | int i =>
    cases d' with
    | int j => cases e; exact ⟨i, j, by rw [show v = V.int i from w, show u = V.int j from w'], made0 m r (.int _)⟩
    | _ => cases e
  | _ => cases e
def dAbs : PyData → Option PyData
  | .int i => some (.int (if i < 0 then -i else i))
  | _ => none
theorem cz_abs : CallZ X (.builtin "abs") (on1 dAbs) := by
  refine ⟨_, call_abs, fun F vs H Q xs c S ρ Hd r h e m => ?_⟩
  obtain ⟨v, d, rfl, w, e⟩ := on1_ok r h e
  cases d with
  | int i => cases e; exact ⟨i, by rw [show v = V.int i from w], made0 m r (.int _)⟩
  | _ => cases e
def dInt : PyData → Option PyData
  | .int i => some (.int i)
  | .bool k => some (.int (if k then 1 else 0))
  | .str a => if a.length ≤ 640 then (PySem.intText? a).map .int else none
  | _ => none
theorem cz_int : CallZ X (.type "int") (on1 dInt) := by
  refine ⟨_, CallR.or call_int1 call_int_str, fun F vs H Q xs c S ρ Hd r h e m => ?_⟩
  obtain ⟨v, d, rfl, w, e⟩ := on1_ok r h e
  cases d with
  | int i => cases e; exact .inl (.inl ⟨i, by rw [show v = V.int i from w], made0 m r (.int _)⟩)
  | bool k => cases e; exact .inl (.inr ⟨k, by rw [show v = V.bl k from w], made0 m r (.int _)⟩)
  | str a =>
    have e : (if a.length ≤ 640 then (PySem.intText? a).map PyData.int else none) = some c := e
    split at e
    · rename_i hl
      cases q : PySem.intText? a with
      | none => rw [q] at e; cases e
      | some n => rw [q] at e; cases e; exact .inr ⟨a, n, by rw [show v = V.str a from w], q, hl, made0 m r (.int _)⟩
    · cases e
  | _ => cases e
def dStr : PyData → Option PyData
  | .int i => if i.natAbs.log2 < 1920 then some (.str (toString i)) else none
  | _ => none
theorem cz_str : CallZ X (.type "str") (on1 dStr) := by
  refine ⟨_, call_str_int, fun F vs H Q xs c S ρ Hd r h e m => ?_⟩
  obtain ⟨v, d, rfl, w, e⟩ := on1_ok r h e
  cases d with
  | int i =>
    have e : (if i.natAbs.log2 < 1920 then some (PyData.str (toString i)) else none) = some c := e
    split at e
    · rename_i hl
      cases e
      exact ⟨i, by rw [show v = V.int i from w], hl, made0 m r (.str _)⟩
    · cases e
  | _ => cases e
/-! ### tuple(x), list(x) -/
def dTup : PyData → Option PyData
  | .list ds => some (.tuple ds)
  | .tuple ds => some (.tuple ds)
  | _ => none
def bLst : PyData → Option Box
  | .list ds => some (.lst ds)
  | .tuple ds => some (.lst ds)
  | _ => none
theorem cz_tuple : CallZ X (.type "tuple") (on1 dTup) := by
  refine ⟨_, call_tupF, fun F vs H Q xs c S ρ Hd r h e m => ?_⟩
  obtain ⟨v, d, rfl, w, e⟩ := on1_ok r h e
  cases d with
  | list ds =>
    cases e
    obtain ⟨a, us, rfl, h1, h2⟩ := w
    exact ⟨a, us, rfl, .inl ⟨h1, fun l o hl ho => m _ _ _ (same_upd (r.hd.free hl)) (r.newD hl (o := FT o us) ho) (.tup (.inl (.inr ⟨o, upd_same⟩)) (dpAll_mono (same_upd (r.hd.free hl)) h2))⟩⟩
  | tuple ds =>
    cases e
    obtain ⟨a, us, rfl, h1, h2⟩ := w
    exact ⟨a, us, rfl, .inr ⟨same_t r.hd h1, made0 m r (.tup h1 h2)⟩⟩
  | _ => cases e
theorem cz_list : CallZF X (.type "list") (on1 bLst) := by
  refine ⟨_, call_list_of, fun F vs H Q xs c S ρ Hd r h e m => ?_⟩
  obtain ⟨v, d, rfl, w, e⟩ := on1_ok r h e
  cases d with
  | list ds =>
    cases e
    obtain ⟨a, us, rfl, h1, h2⟩ := w
    exact ⟨a, us, rfl, .inl h1, fun l hl => m l _ hl ⟨l, us, rfl, upd_same, h2⟩⟩
  | tuple ds =>
    cases e
    obtain ⟨a, us, rfl, h1, h2⟩ := w
    exact ⟨a, us, rfl, .inr (same_t r.hd h1), fun l hl => m l _ hl ⟨l, us, rfl, upd_same, h2⟩⟩
  | _ => cases e
end
end Z
end
section
set_option Elab.async false
set_option linter.all false
set_option maxRecDepth 100000
set_option autoImplicit false
set_option maxHeartbeats 1000000
namespace Z
open PySem L2 PySem.Spec
/-! ### sorted -/
def isort (ns : List Int) : List Int := ns.mergeSort fun a b => decide (a ≤ b)
theorem isort_perm (ns : List Int) : (isort ns).Perm ns := List.mergeSort_perm _ _
theorem isort_pw (ns : List Int) : (isort ns).Pairwise (· ≤ ·) := by
  have h := List.pairwise_mergeSort (le := fun a b : Int => decide (a ≤ b)) (fun a b c => by simp only [decide_eq_true_eq]; omega) (fun a b => by simp only [Bool.or_eq_true, decide_eq_true_eq]; omega) ns
  exact h.imp fun h => of_decide_eq_true h
theorem isort_uniq {ns ms : List Int} (hp : ms.Perm ns) (hs : ms.Pairwise (· ≤ ·)) : ms = isort ns :=
  List.Perm.eq_of_pairwise (fun _ _ _ _ a b => Int.le_antisymm a b) hs (isort_pw ns) (hp.trans (isort_perm ns).symm)
def sle (a b : Str) : Bool := !ltCps b.cps.toList a.cps.toList
theorem sle_iff {a b : Str} : sle a b = true ↔ ¬ b.cps.toList < a.cps.toList := by
  unfold sle
  rw [PyProof.Rows.ltCps_eq]
  simp
theorem sle_trans (a b c : Str) : sle a b = true → sle b c = true → sle a c = true := by
  rw [sle_iff, sle_iff, sle_iff]
  intro h1 h2
  exact List.not_lt.mpr (List.le_trans (List.not_lt.mp h1) (List.not_lt.mp h2))
theorem sle_total (a b : Str) : (sle a b || sle b a) = true := by
  rw [Bool.or_eq_true, sle_iff, sle_iff]
  rcases List.le_total a.cps.toList b.cps.toList with h | h
  · exact .inl (List.not_lt.mpr h)
  · exact .inr (List.not_lt.mpr h)
theorem sle_anti {a b : Str} (h1 : sle a b = true) (h2 : sle b a = true) : a = b := by
  rw [sle_iff] at h1 h2
  have e : a.cps.toList = b.cps.toList := List.le_antisymm (List.not_lt.mp h1) (List.not_lt.mp h2)
  obtain ⟨⟨x⟩⟩ := a
  obtain ⟨⟨y⟩⟩ := b
  exact congrArg (fun l => Str.mk (Array.mk l)) e
def ssort (ns : List Str) : List Str := ns.mergeSort sle
theorem ssort_perm (ns : List Str) : (ssort ns).Perm ns := List.mergeSort_perm _ _
theorem ssort_pw (ns : List Str) : (ssort ns).Pairwise fun a b => sle a b = true := List.pairwise_mergeSort sle_trans sle_total ns
theorem ssort_uniq {ns ms : List Str} (hp : ms.Perm ns) (hs : ms.Pairwise fun a b => sle a b = true) : ms = ssort ns :=
  List.Perm.eq_of_pairwise (fun _ _ _ _ a b => sle_anti a b) hs (ssort_pw ns) (hp.trans (ssort_perm ns).symm)
theorem rising_pw : ∀ (ys : List Str) (p : Str), PyProof.Rows.risingS p ys = true → (p :: ys).Pairwise fun a b => sle a b = true
  | [], p, _ => by simp
  | y :: ys, p, h => by
    have h : (!ltCps y.cps.toList p.cps.toList && PyProof.Rows.risingS y ys) = true := h
    rw [Bool.and_eq_true] at h
    have ih := rising_pw ys y h.2
    rw [List.pairwise_cons] at ih ⊢
    refine ⟨fun z hz => ?_, List.pairwise_cons.mpr ih⟩
    rcases List.mem_cons.mp hz with rfl | hz
    · exact h.1
    · exact sle_trans _ _ _ h.1 (ih.1 z hz)
theorem sortedS_pw {ys : List Str} (h : PyProof.Rows.sortedS ys = true) : ys.Pairwise fun a b => sle a b = true := by
  cases ys with
  | nil => exact .nil
  | cons y ys => exact rising_pw ys y h
def keysI : List Key → Option (List Int)
  | [] => some []
  | .inl i :: r => (keysI r).map (i :: ·)
  | _ => none
def keysS : List Key → Option (List Str)
  | [] => some []
  | .inr i :: r => (keysS r).map (i :: ·)
  | _ => none
theorem keysI_map : ∀ ns : List Int, keysI (ns.map .inl) = some ns
  | [] => rfl
  | n :: ns => by rw [List.map_cons, keysI, keysI_map ns]; rfl
theorem keysS_map : ∀ ns : List Str, keysS (ns.map .inr) = some ns
  | [] => rfl
  | n :: ns => by rw [List.map_cons, keysS, keysS_map ns]; rfl
theorem keysI_of : ∀ {ks : List Key} {ns : List Int}, keysI ks = some ns → ks = ns.map .inl
  | [], _, e => by cases e; rfl
  | k :: r, ns, e => by
    cases k with
    | inl i =>
      have e : (keysI r).map (i :: ·) = some ns := e
      cases q : keysI r with
      | none => rw [q] at e; cases e
      | some ms => rw [q] at e; cases e; rw [keysI_of q]; rfl
    | inr i => cases e
theorem keysS_of : ∀ {ks : List Key} {ns : List Str}, keysS ks = some ns → ks = ns.map .inr
  | [], _, e => by cases e; rfl
  | k :: r, ns, e => by
    cases k with
    | inr i =>
      have e : (keysS r).map (i :: ·) = some ns := e
      cases q : keysS r with
      | none => rw [q] at e; cases e
      | some ms => rw [q] at e; cases e; rw [keysS_of q]; rfl
    | inl i => cases e
theorem kv_keys {κ : Type} {K : PySem.W.Frag} {H : Hp} : ∀ {us : List (κ × V)} {ks : List (κ × PyData)}, KvOk K H us ks → us.map (·.1) = ks.map (·.1)
  | _, _, .nil => rfl
  | _, _, .cons h t => by rw [List.map_cons, List.map_cons, h.1, kv_keys t]
/-- sorted of a list of ints, of a list of texts (fewer than 64), of a dict (fewer than 64 keys) -/
def srtS (S : Sto) : List Sl → Option Box
  | [x] => (match resD S x with
    | some kvs => (match keysI (kvs.map (·.1)), keysS (kvs.map (·.1)) with
      | some ns, _ => if ns.length < 64 then some (.lst ((isort ns).map .int)) else none
      | none, some ns => if ns.length < 64 then some (.lst ((ssort ns).map .str)) else none
      | none, none => none)
    | none => (match res S x with
      | some (.list ds) => (match intsOf ds, strsOf ds with
        | some ns, _ => some (.lst ((isort ns).map .int))
        | none, some ns => if ns.length < 64 then some (.lst ((ssort ns).map .str)) else none
        | none, none => none)
      | some (.tuple ds) => (match intsOf ds with
        | some ns => some (.lst ((isort ns).map .int))
        | none => none)
      | _ => none))
  | _ => none
def rSortedT (K : PySem.W.Frag) : List V → Hp → VK → Prop := fun vs H Q => ∃ (a : Addr) (ns : List Int), vs = [V.ref a] ∧ SqT K H a (ns.map V.int) ∧
  ∀ (ns' : List Int) (p : Addr), ns'.Perm ns → ns'.Pairwise (· ≤ ·) → H p = none → Q (.ref p) (upd H p (.lst (ns'.map V.int)))
theorem tup_ints {K : PySem.W.Frag} {Hd H : Hp} {v : V} {ds : List PyData} {ns : List Int} (sm : Same Hd H) (w : Vw K Hd H v (.tuple ds)) (e : intsOf ds = some ns) : ∃ a, v = .ref a ∧ SqT K H a (ns.map V.int) := by
  obtain ⟨a, us, rfl, h1, h2⟩ := w
  rw [ints_of e] at h2
  rw [dpAll_ints h2] at h1
  exact ⟨a, rfl, same_t sm h1⟩
section
variable {X : CxF}
open PyProof.Rows in
theorem cr_sortedT : CallR X (.builtin "sorted") (rSortedT X.K) := by
  intro pins s σ H vs us Q I r h
  obtain ⟨a, ns, rfl, hs, q⟩ := h
  obtain ⟨its, rv, ⟨o, ho, hc, n, hd⟩, hz⟩ := I.tuple hs
  rw [Vals.ref1 r]
  have hi := rv.ints
  have hz' : its.length ≤ sizeLine := by rw [← rv.length]; exact hz
  refine Calls.call_function_entry kind_sorted plain_sorted entry_sorted (args_sorted1 _) ?_
  unfold Builtin.«sorted»
  refine wpAny_bind (m := checkCount "sorted" 1 1 _) (wpAny_pure ?_)
  refine wpAny_bind (wpAny_collect_seq a (.inr rfl) ho hc hd (fun h' hk => ?_) (by rw [List.size_toArray]; exact hz'))
  have e : its.toArray.toList = its := by simp
  rw [e]
  refine wpAny_bind (wpAny_newList ?_ hz')
  have hoL : (h'.push (seqObj "list" its.toArray 0)).get? h'.objs.size = some (seqObj "list" its.toArray 0) := Heap.get?_push_size _ rfl
  have I1 := I.kept (t' := s.toks) hk
  refine wpAny_bind (wpAny_holding (wpAny_call_entry slot_list_sort ⟨_, hoL, rfl⟩ entry_list_sort (SrtO.list_sort_ord SrtO.swo_int hoL hz' (fun h2 => SrtO.ints_sortable hi h2) fun out h1 h2 => ⟨_, rfl, ?_⟩) (args_list_sort _)))
  refine wpAny_pure ⟨_, rfl, ?_⟩
  obtain ⟨k1, k2, k3⟩ := SrtO.ints_out hi h1 h2
  obtain ⟨ep, he'⟩ := sortedHeap_at (vs := its) (out := out.toArray) hoL
  have hlen : ((out.map SrtO.iv).map V.int).length ≤ sizeLine := by
    rw [List.length_map, k2.length_eq]
    rw [List.length_map] at hz
    exact hz
  exact ⟨.ref _, upd H h'.objs.size (.lst ((out.map SrtO.iv).map V.int)), I1.laid (t' := s.toks) (fun b u hb => by
    have hl := Heap.lt_size hb
    rw [sortedHeap_old (Nat.ne_of_lt hl) (by rw [size_push']; exact Nat.lt_succ_of_lt hl)]
    exact Heap.get?_push_of_some _ hb) (Nat.le_refl _) ⟨hlen, out, ep, vals_of_ints k1, he'⟩, rfl, q _ _ k2 k3 (I1.hok.fresh (Nat.le_refl _))⟩
theorem cz_sorted (hc : X.calm = true := by rfl) : CallZF X (.builtin "sorted") srtS := by
  refine ⟨_, CallR.or cr_sortedI (CallR.or cr_sortedS (CallR.or (call_sortedDI hc) (CallR.or (call_sortedD hc) cr_sortedT))), fun F vs H Q xs c S ρ Hd r h e m => ?_⟩
  cases h with
  | nil => cases e
  | cons hx t =>
    cases t with
    | cons _ _ => cases e
    | nil =>
      rename_i v x
      unfold srtS at e
      dsimp only at e
      split at e
      · rename_i kvs q
        obtain ⟨a, us, rfl, h1, h2⟩ := dic_of r hx q
        split at e
        · rename_i o ns q1
          split at e
          · rename_i hl
            cases e
            refine .inr (.inr (.inl ⟨a, us, ns, rfl, .inl h1, by rw [kv_keys h2]; exact keysI_of q1, hl, fun ys p hp hs np => ?_⟩))
            rw [isort_uniq hp hs]
            exact m p _ np ⟨p, _, rfl, upd_same, ints_dp _⟩
          · cases e
        · rename_i ns q0 q1
          split at e
          · rename_i hl
            cases e
            refine .inr (.inr (.inr (.inl ⟨a, us, ns, rfl, .inl h1, by rw [kv_keys h2]; exact keysS_of q1, hl, fun ys p hp hs np => ?_⟩)))
            rw [ssort_uniq hp (sortedS_pw hs)]
            exact m p _ np ⟨p, _, rfl, upd_same, strs_dp _⟩
          · cases e
        · cases e
      · split at e
        · rename_i ds q
          have w := vw_of r hx q
          split at e
          · rename_i o ns q1
            cases e
            obtain ⟨a, rfl, hs⟩ := list_ints w q1
            refine .inl ⟨a, ns, rfl, hs, fun ys p hp hs np => ?_⟩
            rw [isort_uniq hp hs]
            exact m p _ np ⟨p, _, rfl, upd_same, ints_dp _⟩
          · rename_i ns q0 q1
            split at e
            · rename_i hl
              cases e
              obtain ⟨a, rfl, hs⟩ := list_strs w q1
              refine .inr (.inl ⟨a, ns, rfl, hs, hl, fun ys p hp hs np => ?_⟩)
              rw [ssort_uniq hp (sortedS_pw hs)]
              exact m p _ np ⟨p, _, rfl, upd_same, strs_dp _⟩
            · cases e
          · cases e
        · rename_i ds q
          have w := vw_of r hx q
          split at e
          · rename_i ns q1
            cases e
            obtain ⟨a, rfl, hs⟩ := tup_ints r.hd w q1
            refine .inr (.inr (.inr (.inr ⟨a, ns, rfl, hs, fun ys p hp hs np => ?_⟩)))
            rw [isort_uniq hp hs]
            exact m p _ np ⟨p, _, rfl, upd_same, ints_dp _⟩
          · cases e
        · cases e
end
/-! ### isinstance -/
def tyN : PyData → Option String
  | .none => some "NoneType"
  | .bool _ => some "bool"
  | .int _ => some "int"
  | .str _ => some "str"
  | .list _ => some "list"
  | .tuple _ => some "tuple"
  | .dict _ => none
def isOf (T : String) (t : String) : Bool := t == T || (t == "bool" && T == "int")
def zisi (T : String) (za : ZE) : ZE := fun Γ S => (za Γ S).bind fun x S1 => match res S1 x with
  | some d => (match tyN d with
    | some t => .val (.d (.bool (isOf T t))) S1
    | none => .bad)
  | none => .bad
theorem tyX_of {K : PySem.W.Frag} {Hd H : Hp} {v : V} {d : PyData} {t : String} (s : Same Hd H) (w : Vw K Hd H v d) (e : tyN d = some t) : TyX K H v (.type t) := by
  cases d with
  | none => cases e; rw [show v = _ from w]; exact .base .non
  | bool b => cases e; rw [show v = _ from w]; exact .base (.bl b)
  | int i => cases e; rw [show v = _ from w]; exact .base (.int i)
  | str z => cases e; rw [show v = _ from w]; exact .base (.str z)
  | list ds =>
    cases e
    obtain ⟨a, us, rfl, h1, h2⟩ := w
    rcases h1 with (h | ⟨o, h⟩) | ⟨o, its, n, hk, hc, _⟩
    · exact .base (.lst h)
    · exact .base (.frz h)
    · exact .kList hk hc
  | tuple ds =>
    cases e
    obtain ⟨a, us, rfl, h1, h2⟩ := w
    rcases h1 with (h | ⟨o, h⟩) | ⟨o, its, n, hk, hc, _⟩
    · exact .base (.tup (s _ _ h))
    · exact .fTuple (s _ _ h)
    · exact .kTuple hk hc
  | dict ks => cases e
theorem kit_all {K : PySem.W.Frag} {T t : String} (hT : T = "int" ∨ T = "bool" ∨ T = "str" ∨ T = "tuple" ∨ T = "list") (ht : t = "NoneType" ∨ t = "bool" ∨ t = "int" ∨ t = "str" ∨ t = "list" ∨ t = "tuple") : PySem.W.kitOne K (.type t) (.type T) = some (isOf T t) := by
  rcases hT with rfl | rfl | rfl | rfl | rfl <;> rcases ht with rfl | rfl | rfl | rfl | rfl | rfl <;> exact kit_ty (by decide +kernel)
theorem tyN_all {d : PyData} {t : String} (e : tyN d = some t) : t = "NoneType" ∨ t = "bool" ∨ t = "int" ∨ t = "str" ∨ t = "list" ∨ t = "tuple" := by
  cases d <;> cases e <;> simp
section
variable {X : CxF} {x T : Str} {p p2 pos : Pos} {a : Expr} {za : ZE}
theorem pz_isi (T : String) {T' : Str} (hT : T = "int" ∨ T = "bool" ∨ T = "str" ∨ T = "tuple" ∨ T = "list") (ha : PZ X a za) (hm : X.mg "isinstance" = none) (hmT : X.mg T' = none) (hvT : bootBuiltins T' = some (.type T)) (hv : bootBuiltins "isinstance" = some (.builtin "isinstance") := by decide +kernel) (hg : Gl X "isinstance" := by rfl) (hgT : Gl X T' := by rfl) (hnT : T' ≠ "__name__" := by decide) (hdT : (T' == ("__debug__" : Str)) = false := by decide)
    (he : starEach [a, .Name T' p2] X.env = (false, eval a X.env) :: starEach [.Name T' p2] X.env := by rfl) (hpl : (backTo pos (starEach [.Name T' p2] X.env)).any (·.1) = false := by rfl) (h1 : starEach [.Name T' p2] X.env = (false, eval (.Name T' p2) X.env) :: starEach [] X.env := by rfl) :
    PZ X (.Call (.Name "isinstance" p) [a, .Name T' p2] [] pos) (zisi T za) := fun W tk => by
  obtain ⟨t, pa, s⟩ := ha W tk
  refine ⟨_, pe_callB call_isi hg hm hv (pa_cons pa (pa_cons (pe_bltn (v := .ty T) hgT hmT hvT rfl hnT hdT) pa_nil h1) he) (by decide) (by decide) he hpl, fun F σ H Q Γ S ρ Hd rl sl af => ?_⟩
  refine s F σ H _ Γ S ρ Hd rl sl (Aft.imp (aft_bind af) ?_)
  rintro v H1 ⟨ρ1, Hd1, x', S1, g1, r1, hx, af1⟩
  split at af1
  · rename_i d q
    split at af1
    · rename_i ty q2
      exact ⟨v, .ty T, .type ty, .type T, _, rfl, .ty T, tyX_of r1.hd (vw_of r1 hx q) q2, kit_all hT (tyN_all q2), af1 _ H1 ρ1 Hd1 .refl r1 (.bl _)⟩
    · exact False.elim af1
  · exact False.elim af1
end
end Z
end
section
set_option Elab.async false
set_option linter.all false
set_option maxRecDepth 100000
set_option autoImplicit false
set_option maxHeartbeats 1000000
namespace Z
open PySem L2
/-! ### statements: what they come to -/
inductive FS where
  | nx (Γ : Env1) (S : Sto)
  | rt (x : Sl) (S : Sto)
  | bk (Γ : Env1) (S : Sto)
  | ct (Γ : Env1) (S : Sto)
  | ex (c : Str) (Γ : Env1) (S : Sto)
  | bad
abbrev ZS := Env1 → Sto → FS
def Out.st {α : Type} (o : Out α) (Γ : Env1) (f : α → Sto → FS) : FS := match o with
  | .val a S => f a S
  | .exc c S => .ex c Γ S
  | .bad => .bad
theorem st_val {α : Type} {a : α} {S : Sto} {Γ : Env1} {f : α → Sto → FS} : (Out.val a S).st Γ f = f a S := rfl
theorem st_exc {α : Type} {c : Str} {S : Sto} {Γ : Env1} {f : α → Sto → FS} : (Out.exc c S : Out α).st Γ f = .ex c Γ S := rfl
theorem st_bad {α : Type} {Γ : Env1} {f : α → Sto → FS} : (Out.bad : Out α).st Γ f = .bad := rfl
def AftS (K : KF) (F : Hp) (W : WX) (D : Ends) (ρ : Ads) (Hd : Hp) : FS → Prop
  | .nx Γ S => ∀ σ H ρ' Hd', Grow ρ Hd ρ' Hd' → Rel K F ρ' Hd' H S → Slots K ρ' Hd' σ Γ → D.nx σ H
  | .rt x S => ∀ v H ρ' Hd', Grow ρ Hd ρ' Hd' → Rel K F ρ' Hd' H S → SlIs K ρ' Hd' v x → D.rt v H
  | .bk Γ S => ∀ σ H ρ' Hd', Grow ρ Hd ρ' Hd' → Rel K F ρ' Hd' H S → Slots K ρ' Hd' σ Γ → D.bk σ H
  | .ct Γ S => ∀ σ H ρ' Hd', Grow ρ Hd ρ' Hd' → Rel K F ρ' Hd' H S → Slots K ρ' Hd' σ Γ → D.ct σ H
  | .ex c Γ S => ∀ σ H ρ' Hd', Grow ρ Hd ρ' Hd' → Rel K F ρ' Hd' H S → Slots K ρ' Hd' σ Γ → W (.ref (He.ga K c)) none σ H
  | .bad => False
theorem AftS.grow {K : KF} {F : Hp} {W : WX} {D : Ends} {ρ ρ' : Ads} {Hd Hd' : Hp} (g : Grow ρ Hd ρ' Hd') : ∀ {o : FS}, AftS K F W D ρ Hd o → AftS K F W D ρ' Hd' o
  | .nx _ _, h => fun v H' ρ2 Hd2 g2 r x => h v H' ρ2 Hd2 (g.trans g2) r x
  | .rt _ _, h => fun v H' ρ2 Hd2 g2 r x => h v H' ρ2 Hd2 (g.trans g2) r x
  | .bk _ _, h => fun v H' ρ2 Hd2 g2 r x => h v H' ρ2 Hd2 (g.trans g2) r x
  | .ct _ _, h => fun v H' ρ2 Hd2 g2 r x => h v H' ρ2 Hd2 (g.trans g2) r x
  | .ex _ _ _, h => fun v H' ρ2 Hd2 g2 r x => h v H' ρ2 Hd2 (g.trans g2) r x
  | .bad, h => h
theorem aft_st {α β : Type} {K : KF} {F : Hp} {W : WX} {σ : L2.St} {Γ : Env1} {rel : Ads → Hp → β → α → Prop} {D : Ends} {ρ : Ads} {Hd : Hp} {o : Out α} {f : α → Sto → FS} (sl : Slots K ρ Hd σ Γ)
    (h : AftS K F W D ρ Hd (o.st Γ f)) : Aft K F W σ rel (fun v H' => ∃ ρ' Hd' x S', Grow ρ Hd ρ' Hd' ∧ Rel K F ρ' Hd' H' S' ∧ rel ρ' Hd' v x ∧ AftS K F W D ρ' Hd' (f x S')) ρ Hd o := by
  cases o with
  | val x S => exact fun v H' ρ' Hd' g r hx => ⟨ρ', Hd', x, S, g, r, hx, AftS.grow g h⟩
  | exc c S => exact fun H' ρ' Hd' g r => h σ H' ρ' Hd' g r (sl.grow g)
  | bad => exact h
theorem aft_stF {K : KF} {F : Hp} {W : WX} {σ : L2.St} {Γ : Env1} {D : Ends} {ρ : Ads} {Hd : Hp} {o : Out Box} {f : Box → Sto → FS} (sl : Slots K ρ Hd σ Γ)
    (h : AftS K F W D ρ Hd (o.st Γ f)) : AftF K F W σ (fun v H' => ∃ p ρ' Hd' b S', v = .ref p ∧ Grow ρ Hd ρ' Hd' ∧ Rel K F ρ' Hd' H' S' ∧ p ∉ ρ'.flatten ∧ F p = none ∧ Hd' p = none ∧ H' p ≠ none ∧ BoxOk K Hd' H' [p] b ∧ AftS K F W D ρ' Hd' (f b S')) ρ Hd o := by
  cases o with
  | val b S => exact fun p H' ρ' Hd' g r h1 h2 h3 h4 h5 => ⟨p, ρ', Hd', b, S, rfl, g, r, h1, h2, h3, h4, h5, AftS.grow g h⟩
  | exc c S => exact fun H' ρ' Hd' g r => h σ H' ρ' Hd' g r (sl.grow g)
  | bad => exact h
theorem AftF.imp {K : KF} {F : Hp} {W : WX} {σ : L2.St} {Q Q' : VK} {ρ : Ads} {Hd : Hp} {o : Out Box} (h : AftF K F W σ Q ρ Hd o) (i : ∀ v H', Q v H' → Q' v H') : AftF K F W σ Q' ρ Hd o := by
  cases o with
  | val x S => exact fun p H' ρ' Hd' g r h1 h2 h3 h4 h5 => i _ _ (h p H' ρ' Hd' g r h1 h2 h3 h4 h5)
  | exc c S => exact h
  | bad => exact h
def SndS (K : KF) (W : WX) (t : TS) (z : ZS) : Prop :=
  ∀ (F : Hp) (D : Ends) (σ : L2.St) (H : Hp) (Γ : Env1) (S : Sto) (ρ : Ads) (Hd : Hp), Rel K F ρ Hd H S → Slots K ρ Hd σ Γ → AftS K F W D ρ Hd (z Γ S) → t D σ H
def PZS (X : CxF) (st : Stmt) (z : ZS) : Prop := PassesOwn (model X.prog X.w) X.A X.env X.xe → ∀ W, Takes X W → ∃ t : TS, PS X st t ∧ SndS X.K W t z
def PZSs (X : CxF) (st : List Stmt) (z : ZS) : Prop := PassesOwn (model X.prog X.w) X.A X.env X.xe → ∀ W, Takes X W → ∃ t : TS, PSs X st t ∧ SndS X.K W t z
def FS.seq (o : FS) (f : ZS) : FS := match o with
  | .nx Γ S => f Γ S
  | .rt x S => .rt x S
  | .bk Γ S => .bk Γ S
  | .ct Γ S => .ct Γ S
  | .ex c Γ S => .ex c Γ S
  | .bad => .bad
theorem seq_nx {Γ : Env1} {S : Sto} {f : ZS} : (FS.nx Γ S).seq f = f Γ S := rfl
theorem seq_rt {x : Sl} {S : Sto} {f : ZS} : (FS.rt x S).seq f = .rt x S := rfl
theorem seq_bk {Γ : Env1} {S : Sto} {f : ZS} : (FS.bk Γ S).seq f = .bk Γ S := rfl
theorem seq_ct {Γ : Env1} {S : Sto} {f : ZS} : (FS.ct Γ S).seq f = .ct Γ S := rfl
theorem seq_ex {c : Str} {Γ : Env1} {S : Sto} {f : ZS} : (FS.ex c Γ S).seq f = .ex c Γ S := rfl
theorem seq_bad {f : ZS} : (FS.bad).seq f = .bad := rfl
def znil : ZS := fun Γ S => .nx Γ S
def zseq (z z' : ZS) : ZS := fun Γ S => (z Γ S).seq z'
def zret (z : ZE) : ZS := fun Γ S => (z Γ S).st Γ fun x S1 => .rt x S1
def zdrop (z : ZE) : ZS := fun Γ S => (z Γ S).st Γ fun _ S1 => .nx Γ S1
def zifS (zt : ZT) (z z' : ZS) : ZS := fun Γ S => (zt Γ S).st Γ fun k S1 => if k = true then z Γ S1 else z' Γ S1
def zset (i : Nat) (z : ZE) : ZS := fun Γ S => (z Γ S).st Γ fun x S1 => .nx (Γ.set i (some x)) S1
def zsetF (i : Nat) (z : ZF) : ZS := fun Γ S => (z Γ S).st Γ fun b S1 => .nx (Γ.set i (some (.box S1.length))) (S1 ++ [b])
section
variable {X : CxF} {st : Stmt} {rest : List Stmt} {a b c e : Expr} {z z' : ZS} {ze : ZE} {zf : ZF} {zt : ZT} {pos pos' : Pos}
theorem pzs_nil : PZSs X [] znil := fun _ _ _ => ⟨_, pss_nil, fun _ _ σ H _ _ ρ Hd r sl af => af σ H ρ Hd .refl r sl⟩
theorem snd_seq {W : WX} {t u : TS} (h1 : SndS X.K W t z) (h2 : SndS X.K W u z') : SndS X.K W (tSeq t u) (zseq z z') := by
  intro F D σ H Γ S ρ Hd rl sl af
  refine h1 F _ σ H Γ S ρ Hd rl sl ?_
  unfold zseq at af
  cases q : z Γ S with
  | nx Γ1 S1 =>
    rw [q] at af
    exact fun σ1 H1 ρ1 Hd1 g1 r1 s1 => h2 F D σ1 H1 Γ1 S1 ρ1 Hd1 r1 s1 (AftS.grow g1 af)
  | rt x S1 => rw [q] at af; exact af
  | bk Γ1 S1 => rw [q] at af; exact af
  | ct Γ1 S1 => rw [q] at af; exact af
  | ex c Γ1 S1 => rw [q] at af; exact af
  | bad => rw [q] at af; exact af
theorem pzs_cons (h1 : PZS X st z) (h2 : PZSs X rest z') : PZSs X (st :: rest) (zseq z z') := fun hp W tk => by
  obtain ⟨t, p, s⟩ := h1 hp W tk
  obtain ⟨t', p', s'⟩ := h2 hp W tk
  exact ⟨_, pss_cons p p', snd_seq s s'⟩
theorem pzs_one (h1 : PZS X st z) : PZSs X [st] z := fun hp W tk => let ⟨_, p, s⟩ := h1 hp W tk; ⟨_, pss_one p, s⟩
theorem pzs_pass : PZS X (.Pass pos) znil := fun _ _ _ => ⟨_, ps_pass, fun _ _ σ H _ _ ρ Hd r sl af => af σ H ρ Hd .refl r sl⟩
def zbrk : ZS := fun Γ S => .bk Γ S
def zcnt : ZS := fun Γ S => .ct Γ S
theorem pzs_brk : PZS X (.Break pos) zbrk := fun _ _ _ => ⟨_, ps_break, fun _ _ σ H _ _ ρ Hd r sl af => af σ H ρ Hd .refl r sl⟩
theorem pzs_cnt : PZS X (.Continue pos) zcnt := fun _ _ _ => ⟨_, ps_continue, fun _ _ σ H _ _ ρ Hd r sl af => af σ H ρ Hd .refl r sl⟩
theorem pzs_ret (he : PZ X e ze) : PZS X (.Return (some e) pos) (zret ze) := fun _ W tk => by
  obtain ⟨t, p, s⟩ := he W tk
  refine ⟨_, ps_ret p, fun F D σ H Γ S ρ Hd rl sl af => ?_⟩
  refine s F σ H _ Γ S ρ Hd rl sl (Aft.imp (aft_st sl af) ?_)
  rintro x H1 ⟨ρ1, Hd1, x', S1, g1, r1, hx, af1⟩
  exact af1 x H1 ρ1 Hd1 .refl r1 hx
theorem pzs_expr (he : PZ X e ze) (hs : swapsWith e none pos.line X.env = pure false := by rfl) : PZS X (.Expr e pos) (zdrop ze) := fun _ W tk => by
  obtain ⟨t, p, s⟩ := he W tk
  refine ⟨_, ps_expr p hs, fun F D σ H Γ S ρ Hd rl sl af => ?_⟩
  refine s F σ H _ Γ S ρ Hd rl sl (Aft.imp (aft_st sl af) ?_)
  rintro x H1 ⟨ρ1, Hd1, x', S1, g1, r1, hx, af1⟩
  exact af1 σ H1 ρ1 Hd1 .refl r1 (sl.grow g1)
theorem pzs_if {p q : List Stmt} (hc : PZT X c zt) (ha : PZSs X p z) (hb : PZSs X q z') : PZS X (.If c p q pos) (zifS zt z z') := fun hp W tk => by
  obtain ⟨t, pt, s⟩ := hc W tk
  obtain ⟨t1, p1, s1⟩ := ha hp W tk
  obtain ⟨t2, p2, s2⟩ := hb hp W tk
  refine ⟨_, ps_if pt p1 p2, fun F D σ H Γ S ρ Hd rl sl af => ?_⟩
  refine s F σ H _ Γ S ρ Hd rl sl (Aft.imp (aft_st sl af) ?_)
  rintro k H1 ⟨ρ1, Hd1, k', S1, g1, r1, hk, af1⟩
  have e : k = k' := hk
  subst e
  cases k with
  | true =>
    rw [if_pos rfl]
    exact s1 F D σ H1 Γ S1 ρ1 Hd1 r1 (sl.grow g1) af1
  | false =>
    rw [if_neg Bool.false_ne_true]
    exact s2 F D σ H1 Γ S1 ρ1 Hd1 r1 (sl.grow g1) af1
theorem pzs_set (i : Nat) {x : Str} (he : PZ X e ze) (hN : X.N.Nodup) (hi : X.N[i]? = some x := by rfl) (hx : Loc X.env.scope x := by first | exact .inl rfl | exact .inr rfl) (hs : swapsWith e (some (.Name x pos')) pos.line X.env = pure false := by rfl) (hf : X.fn x = true ∨ X.env.scope.names.lookup x = some .local := by first | exact .inl rfl | exact .inr rfl) :
    PZS X (.Assign [.Name x pos'] e pos) (zset i ze) := fun _ W tk => by
  obtain ⟨t, p, s⟩ := he W tk
  refine ⟨_, ps_set hN hi hx p hs hf, fun F D σ H Γ S ρ Hd rl sl af => ?_⟩
  refine s F σ H _ Γ S ρ Hd rl sl (Aft.imp (aft_st sl af) ?_)
  rintro v H1 ⟨ρ1, Hd1, x', S1, g1, r1, hx, af1⟩
  exact af1 _ H1 ρ1 Hd1 .refl r1 ((sl.grow g1).set hx)
theorem slots_box {K : KF} {F : Hp} {ρ : Ads} {Hd H : Hp} {S : Sto} {σ : L2.St} {Γ : Env1} {i : Nat} {p : Addr} {b : Box} (r : Rel K F ρ Hd H S) (sl : Slots K ρ Hd σ Γ) (h1 : p ∉ ρ.flatten) (h2 : F p = none) (h3 : Hd p = none) (h4 : H p ≠ none) (h5 : BoxOk K Hd H [p] b) :
    Rel K F (ρ ++ [[p]]) Hd H (S ++ [b]) ∧ Slots K (ρ ++ [[p]]) Hd (σ.set i (some (.ref p))) (Γ.set i (some (.box S.length))) :=
  ⟨r.newB h1 h2 h3 h4 h5, (sl.grow Rel.grB).set ⟨p, [], rfl, by rw [← r.len]; simp⟩⟩
theorem pzs_setF (i : Nat) {x : Str} (he : PZF X e zf) (hN : X.N.Nodup) (hi : X.N[i]? = some x := by rfl) (hx : Loc X.env.scope x := by first | exact .inl rfl | exact .inr rfl) (hs : swapsWith e (some (.Name x pos')) pos.line X.env = pure false := by rfl) (hf : X.fn x = true ∨ X.env.scope.names.lookup x = some .local := by first | exact .inl rfl | exact .inr rfl) :
    PZS X (.Assign [.Name x pos'] e pos) (zsetF i zf) := fun _ W tk => by
  obtain ⟨t, p, s⟩ := he W tk
  refine ⟨_, ps_set hN hi hx p hs hf, fun F D σ H Γ S ρ Hd rl sl af => ?_⟩
  refine s F σ H _ Γ S ρ Hd rl sl (AftF.imp (aft_stF sl af) ?_)
  rintro v H1 ⟨p, ρ1, Hd1, b, S1, rfl, g1, r1, h1, h2, h3, h4, h5, af1⟩
  obtain ⟨r2, s2⟩ := slots_box (i := i) r1 (sl.grow g1) h1 h2 h3 h4 h5
  exact af1 _ H1 _ Hd1 Rel.grB r2 s2
end
/-! ### a list of the store becomes data -/
def zfrz (i : Nat) (z : ZS) : ZS := fun Γ S => match Γ[i]? with
  | some (some (.box n)) => (match S[n]? with
    | some (.lst ds) => z (Γ.set i (some (.d (.list ds)))) (S.set n .dead)
    | _ => .bad)
  | some (some (.d _)) => z Γ S
  | _ => .bad
section
variable {X : CxF} {st : Stmt} {sts : List Stmt} {z : ZS}
theorem set_same {α : Type} {l : List α} {i : Nat} {x : α} (h : l[i]? = some x) : l.set i x = l := by
  apply List.ext_getElem?
  intro j
  by_cases q : i = j
  · subst q
    rw [List.getElem?_set_self (List.getElem?_eq_some_iff.mp h).1, h]
  · rw [List.getElem?_set_ne q]
theorem snd_frz {W : WX} {t : TS} (i : Nat) (h : SndS X.K W t z) : SndS X.K W t (zfrz i z) := by
  intro F D σ H Γ S ρ Hd rl sl af
  unfold zfrz at af
  split at af
  · rename_i n e
    split at af
    · rename_i ds e2
      obtain ⟨v, e3, a, as, rfl, e4⟩ := sl.2 i _ e
      obtain ⟨Hd', sm, r', d⟩ := rl.freeze e2 e4
      have g : Grow ρ Hd ρ Hd' := .hd sm
      have s2 := (sl.grow g).set (i := i) (v := V.ref a) (x := .d (.list ds)) d
      rw [set_same e3] at s2
      exact h F D σ H _ _ ρ Hd' r' s2 (AftS.grow g af)
    · exact False.elim af
  · exact h F D σ H _ _ ρ Hd rl sl af
  · exact False.elim af
theorem pzs_frz (i : Nat) (h : PZSs X sts z) : PZSs X sts (zfrz i z) := fun hp W tk => let ⟨t, p, s⟩ := h hp W tk; ⟨t, p, snd_frz i s⟩
theorem pzs_frz1 (i : Nat) (h : PZS X st z) : PZS X st (zfrz i z) := fun hp W tk => let ⟨t, p, s⟩ := h hp W tk; ⟨t, p, snd_frz i s⟩
end
/-! ### targets -/
abbrev ZG := PyData → Env1 → Option Env1
/-- an item: data, or (if b) a new pair of data -/
def ItOk (K : PySem.W.Frag) (b : Bool) (Hd H : Hp) (v : V) (d : PyData) : Prop := Dp K Hd v d ∨ (b = true ∧ ∃ T xs es, v = .ref T ∧ H T = some (.tup xs) ∧ d = .tuple es ∧ DpAll K Hd xs es)
theorem ItOk.tup {K : PySem.W.Frag} {b : Bool} {Hd H : Hp} {v : V} {es : List PyData} (s : Same Hd H) (h : ItOk K b Hd H v (.tuple es)) : ∃ a vs, v = .ref a ∧ SqT K H a vs ∧ DpAll K Hd vs es := by
  rcases h with h | ⟨_, T, xs, es', rfl, h1, h2, h3⟩
  · cases h with
    | tup hs ha => exact ⟨_, _, rfl, same_t s hs, ha⟩
  · cases h2
    exact ⟨T, xs, rfl, SqT.of h1, h3⟩
def SndG (K : KF) (b : Bool) (t : TG) (g : ZG) (vs : List Nat) : Prop :=
  ∀ (F : Hp) (v : V) (σ : L2.St) (H : Hp) (Q : L2.St → Hp → Prop) (Γ Γ' : Env1) (d : PyData) (S : Sto) (ρ : Ads) (Hd : Hp), Rel K F ρ Hd H S → Slots K ρ Hd σ Γ → ItOk K b Hd H v d → g d Γ = some Γ' →
    (∀ σ', Slots K ρ Hd σ' Γ' → σ'.length = σ.length → (∀ j, j ∉ vs → σ'[j]? = σ[j]?) → Q σ' H) → t v σ H Q
def PZG (X : CxF) (b : Bool) (tg : Expr) (g : ZG) (vs : List Nat) : Prop := ∃ t : TG, PG X tg t ∧ SndG X.K b t g vs
def gN (i : Nat) : ZG := fun d Γ => some (Γ.set i (some (.d d)))
def gT2 (g g' : ZG) : ZG := fun d Γ => match d with
  | .tuple [a, b] => (g a Γ).bind fun Γ1 => g' b Γ1
  | _ => none
def gT3 (g g' g2 : ZG) : ZG := fun d Γ => match d with
  | .tuple [a, b, c] => (g a Γ).bind fun Γ1 => (g' b Γ1).bind fun Γ2 => g2 c Γ2
  | _ => none
section
variable {X : CxF} {e1 e2 e3 : Expr} {g g' g2 : ZG} {v1 v2 v3 : List Nat} {pos : Pos}
theorem pzg_n (i : Nat) {x : Str} (hN : X.N.Nodup) (hi : X.N[i]? = some x := by rfl) (hx : Loc X.env.scope x := by first | exact .inl rfl | exact .inr rfl) (hf : X.fn x = true ∨ X.env.scope.names.lookup x = some .local := by first | exact .inl rfl | exact .inr rfl) : PZG X false (.Name x pos) (gN i) [i] := by
  refine ⟨_, pg_name hN hi hx hf, fun F v σ H Q Γ Γ' d S ρ Hd r sl hd e k => ?_⟩
  cases e
  have hd : Dp X.K Hd v d := hd.resolve_right fun z => Bool.false_ne_true z.1
  exact k _ (sl.set hd) (List.length_set) fun j hj => List.getElem?_set_ne (fun z => hj (by rw [z]; simp))
theorem pzg_t2 {b : Bool} {k : Nat} (h1 : PZG X false e1 g v1) (h2 : PZG X false e2 g' v2) (hc : X.calm = true := by rfl) (hs : (assignEach [e1, e2] X.env).map (·.2) = assign e1 X.env :: (assignEach [e2] X.env).map (·.2) := by rfl) (hs2 : (assignEach [e2] X.env).map (·.2) = assign e2 X.env :: (assignEach [] X.env).map (·.2) := by rfl)
    (hn : (assignEach [e1, e2] X.env).length = 2 := by rfl) (hst : (assignEach [e1, e2] X.env).findIdx? (·.1) = none := by rfl) : PZG X b (.Tuple [e1, e2] k pos) (gT2 g g') (v1 ++ v2) := by
  obtain ⟨t1, p1, s1⟩ := h1
  obtain ⟨t2, p2, s2⟩ := h2
  refine ⟨_, pg_tup hc (pgs_cons p1 (pgs_cons p2 pgs_nil hs2) hs) hn hst, fun F v σ H Q Γ Γ' d S ρ Hd r sl hd e q => ?_⟩
  unfold gT2 at e
  split at e
  · rename_i a b
    obtain ⟨ad, vs, rfl, hs, ha⟩ := hd.tup r.hd
    · cases ha with
      | cons ha hb =>
        cases hb with
        | cons hb hn =>
          cases hn
          cases q1 : g a Γ with
          | none => rw [q1] at e; cases e
          | some Γ1 =>
            rw [q1] at e
            refine ⟨_, _, rfl, hs, rfl, _, _, rfl, s1 F _ σ H _ Γ Γ1 a S ρ Hd r sl (.inl ha) q1 fun σ1 sl1 l1 k1 => ?_⟩
            refine ⟨_, _, rfl, s2 F _ σ1 H _ Γ1 Γ' b S ρ Hd r sl1 (.inl hb) e fun σ2 sl2 l2 k2 => ⟨rfl, ?_⟩⟩
            exact q σ2 sl2 (l2.trans l1) fun j hj => (k2 j fun z => hj (List.mem_append_right _ z)).trans (k1 j fun z => hj (List.mem_append_left _ z))
  · cases e
theorem pzg_t3 {b : Bool} {k : Nat} (h1 : PZG X false e1 g v1) (h2 : PZG X false e2 g' v2) (h3 : PZG X false e3 g2 v3) (hc : X.calm = true := by rfl) (hs : (assignEach [e1, e2, e3] X.env).map (·.2) = assign e1 X.env :: (assignEach [e2, e3] X.env).map (·.2) := by rfl) (hs2 : (assignEach [e2, e3] X.env).map (·.2) = assign e2 X.env :: (assignEach [e3] X.env).map (·.2) := by rfl)
    (hs3 : (assignEach [e3] X.env).map (·.2) = assign e3 X.env :: (assignEach [] X.env).map (·.2) := by rfl) (hn : (assignEach [e1, e2, e3] X.env).length = 3 := by rfl) (hst : (assignEach [e1, e2, e3] X.env).findIdx? (·.1) = none := by rfl) : PZG X b (.Tuple [e1, e2, e3] k pos) (gT3 g g' g2) (v1 ++ (v2 ++ v3)) := by
  obtain ⟨t1, p1, s1⟩ := h1
  obtain ⟨t2, p2, s2⟩ := h2
  obtain ⟨t3, p3, s3⟩ := h3
  refine ⟨_, pg_tup hc (pgs_cons p1 (pgs_cons p2 (pgs_cons p3 pgs_nil hs3) hs2) hs) hn hst, fun F v σ H Q Γ Γ' d S ρ Hd r sl hd e q => ?_⟩
  unfold gT3 at e
  split at e
  · rename_i a b c
    obtain ⟨ad, vs, rfl, hs, ha⟩ := hd.tup r.hd
    · cases ha with
      | cons ha hb =>
        cases hb with
        | cons hb hn =>
          cases hn with
          | cons hcc hn =>
            cases hn
            cases q1 : g a Γ with
            | none => rw [q1] at e; cases e
            | some Γ1 =>
              rw [q1] at e
              have e : (g' b Γ1).bind (fun Γ2 => g2 c Γ2) = some Γ' := e
              cases q2 : g' b Γ1 with
              | none => rw [q2] at e; cases e
              | some Γ2 =>
                rw [q2] at e
                refine ⟨_, _, rfl, hs, rfl, _, _, rfl, s1 F _ σ H _ Γ Γ1 a S ρ Hd r sl (.inl ha) q1 fun σ1 sl1 l1 k1 => ?_⟩
                refine ⟨_, _, rfl, s2 F _ σ1 H _ Γ1 Γ2 b S ρ Hd r sl1 (.inl hb) q2 fun σ2 sl2 l2 k2 => ?_⟩
                refine ⟨_, _, rfl, s3 F _ σ2 H _ Γ2 Γ' c S ρ Hd r sl2 (.inl hcc) e fun σ3 sl3 l3 k3 => ⟨rfl, ?_⟩⟩
                exact q σ3 sl3 (l3.trans (l2.trans l1)) fun j hj => (k3 j fun z => hj (List.mem_append_right _ (List.mem_append_right _ z))).trans ((k2 j fun z => hj (List.mem_append_right _ (List.mem_append_left _ z))).trans (k1 j fun z => hj (List.mem_append_left _ z)))
  · cases e
end
/-- target = value that is data -/
def zasg (g : ZG) (z : ZE) : ZS := fun Γ S => (z Γ S).st Γ fun x S1 => match x with
  | .d d => (match g d Γ with
    | some Γ' => .nx Γ' S1
    | none => .bad)
  | _ => .bad
section
variable {X : CxF} {tg e : Expr} {ze : ZE} {g : ZG} {vs : List Nat} {pos : Pos}
theorem pzs_asg (he : PZ X e ze) (hg : PZG X false tg g vs) (hs : swapsWithSole [tg] e pos.line X.env = pure false := by rfl) (hw : swappedStores [tg] e X.env = pure none := by rfl) (h1 : (assignEach [tg] X.env).map (·.2) = [assign tg X.env] := by rfl) : PZS X (.Assign [tg] e pos) (zasg g ze) := fun _ W tk => by
  obtain ⟨t, p, s⟩ := he W tk
  obtain ⟨tg, pg, sg⟩ := hg
  refine ⟨_, ps_asg p pg hs hw h1, fun F D σ H Γ S ρ Hd rl sl af => ?_⟩
  refine s F σ H _ Γ S ρ Hd rl sl (Aft.imp (aft_st sl af) ?_)
  rintro v H1 ⟨ρ1, Hd1, x', S1, g1, r1, hx, af1⟩
  cases x' with
  | d d =>
    have af1 : AftS X.K F W D ρ1 Hd1 (match g d Γ with | some Γ' => .nx Γ' S1 | none => .bad) := af1
    split at af1
    · rename_i Γ' e
      exact sg F v σ H1 _ Γ Γ' d S1 ρ1 Hd1 r1 (sl.grow g1) (.inl hx) e fun σ' sl' _ _ => af1 σ' H1 ρ1 Hd1 .refl r1 sl'
    · exact False.elim af1
  | _ => exact False.elim af1
end
/-! ### a, b = x, y: plain names, stored one by one -/
def zpar (i j : Nat) (za : ZA) : ZS := fun Γ S => (za Γ S).st Γ fun xs S1 => match xs with
  | [x, y] => .nx ((Γ.set i (some x)).set j (some y)) S1
  | _ => .bad
def zpar3 (i j l : Nat) (za : ZA) : ZS := fun Γ S => (za Γ S).st Γ fun xs S1 => match xs with
  | [x, y, w] => .nx (((Γ.set i (some x)).set j (some y)).set l (some w)) S1
  | _ => .bad
section
variable {X : CxF} {a b c : Expr} {za : ZA} {pos : Pos}
theorem pzs_par (i j : Nat) {x y : Str} {px py pt : Pos} {kt k2 : Nat} {pt2 : Pos} (ha : PZA X [a, b] za) (hN : X.N.Nodup) (hc : X.calm = true := by rfl) (hi : X.N[i]? = some x := by rfl) (hj : X.N[j]? = some y := by rfl) (hij : i ≠ j := by decide)
    (hx : X.env.scope.names.lookup x = some .local := by rfl) (hy : X.env.scope.names.lookup y = some .local := by rfl)
    (hw : swappedStores [.Tuple [.Name x px, .Name y py] kt pt] (.Tuple [a, b] k2 pt2) X.env = pure (some [x, y]) := by rfl)
    (hs : swapsWithSole [.Tuple [.Name x px, .Name y py] kt pt] (.Tuple [a, b] k2 pt2) pos.line X.env = pure false := by rfl) :
    PZS X (.Assign [.Tuple [.Name x px, .Name y py] kt pt] (.Tuple [a, b] k2 pt2) pos) (zpar i j za) := fun _ W tk => by
  obtain ⟨t, p, s⟩ := ha W tk
  refine ⟨_, ps_par hc hN hi hj hij hx hy p hw hs, fun F D σ H Γ S ρ Hd rl sl af => ?_⟩
  refine s F σ H _ Γ S ρ Hd rl sl (Aft.imp (aft_st sl af) ?_)
  rintro vs H1 ⟨ρ1, Hd1, xs, S1, g1, r1, hx, af1⟩
  split at af1
  · cases hx with
    | cons h1 t1 =>
      cases t1 with
      | cons h2 t2 =>
        cases t2
        exact ⟨_, _, rfl, af1 _ H1 ρ1 Hd1 .refl r1 (((sl.grow g1).set h1).set h2)⟩
  · exact False.elim af1
end
/-! ### dict stores -/
def zdput (zd zk zv : ZE) : ZS := fun Γ S => (zv Γ S).st Γ fun v S1 => (zd Γ S1).st Γ fun x S2 => (zk Γ S2).st Γ fun y S3 => match v, keySl y with
  | .d d, some k => (match putS S3 x k d with
    | some S4 => .nx Γ S4
    | none => .bad)
  | _, _ => .bad
section
variable {X : CxF} {o i value : Expr} {zd zk zv : ZE} {pos pos' : Pos}
theorem pzs_dput (hu : X.A.units + 1 < cLine) (ho : PZ X o zd) (hi : PZ X i zk) (hv : PZ X value zv) (hs : swapsWith value (some (.Subscript o i pos')) pos.line X.env = pure false := by rfl) : PZS X (.Assign [.Subscript o i pos'] value pos) (zdput zd zk zv) := fun _ W tk => by
  obtain ⟨t, p, s⟩ := ho W tk
  obtain ⟨t1, p1, s1⟩ := hi W tk
  obtain ⟨t2, p2, s2⟩ := hv W tk
  refine ⟨_, ps_dput hu p p1 p2 hs, fun F D σ H Γ S ρ Hd rl sl af => ?_⟩
  refine s2 F σ H _ Γ S ρ Hd rl sl (Aft.imp (aft_st sl af) ?_)
  rintro v H1 ⟨ρ1, Hd1, v', S1, g1, r1, hv, af1⟩
  refine s F σ H1 _ Γ S1 ρ1 Hd1 r1 (sl.grow g1) (Aft.imp (aft_st (sl.grow g1) af1) ?_)
  rintro x H2 ⟨ρ2, Hd2, x', S2, g2, r2, hx, af2⟩
  refine s1 F σ H2 _ Γ S2 ρ2 Hd2 r2 ((sl.grow g1).grow g2) (Aft.imp (aft_st ((sl.grow g1).grow g2) af2) ?_)
  rintro y H3 ⟨ρ3, Hd3, y', S3, g3, r3, hy, af3⟩
  split at af3
  · rename_i d k e1
    split at af3
    · rename_i S4 e2
      have hd : Dp X.K Hd3 v d := dp_mono (g2.trans g3).h hv
      obtain ⟨a, H4, rfl, dp, r4⟩ := put_of r3 (hx.grow g3) hd e2
      rw [← key_of hy e1] at dp
      exact ⟨a, H4, rfl, dp, af3 σ H4 ρ3 Hd3 .refl r4 (((sl.grow g1).grow g2).grow g3)⟩
    · exact False.elim af3
  · exact False.elim af3
end
/-! ### lists: append, extend, pop, xs[i] = v -/
def lstAt (S : Sto) : Sl → Option (Nat × List PyData)
  | .box n => (match S[n]? with
    | some (.lst ds) => some (n, ds)
    | _ => none)
  | _ => none
theorem lst_of {K : KF} {F : Hp} {ρ : Ads} {Hd H : Hp} {S : Sto} {v : V} {x : Sl} {n : Nat} {ds : List PyData} (r : Rel K F ρ Hd H S) (h : SlIs K ρ Hd v x) (e : lstAt S x = some (n, ds)) :
    ∃ a vs, v = .ref a ∧ H a = some (.lst vs) ∧ DpAll K Hd vs ds ∧ ∀ vs' ds', DpAll K Hd vs' ds' → Rel K F ρ Hd (upd H a (.lst vs')) (S.set n (.lst ds')) := by
  cases x with
  | box m =>
    obtain ⟨a, as, rfl, h2⟩ := h
    unfold lstAt at e
    dsimp only at e
    split at e
    · rename_i ks h1
      cases e
      obtain ⟨_, a', us, e1, hv, hks⟩ := r.box _ _ _ h1 h2 (by simp)
      obtain ⟨e2, e3⟩ := List.cons.inj e1
      subst e2
      exact ⟨a, us, rfl, hv, hks, fun vs' ds' hd => r.write h1 h2 (by simp) (by simp) ⟨a, vs', e1, upd_same, hd⟩⟩
    · cases e
  | _ => cases e
def zapp (zo za : ZE) : ZE := fun Γ S => (zo Γ S).bind fun x S1 => match lstAt S1 x with
  | some _ => (za Γ S1).bind fun y S2 => (match y, lstAt S2 x with
    | .d d, some (n, ds) => if ds.length < lim then .val (.d .none) (S2.set n (.lst (ds ++ [d]))) else .bad
    | _, _ => .bad)
  | none => .bad
section
variable {X : CxF} {o e : Expr} {zo za : ZE} {apos cpos : Pos}
theorem pz_app (ho : PZ X o zo) (ha : PZ X e za) (hbase : attributeBase o "append" X.env (eval o X.env) = eval o X.env := by rfl)
    (hfew : ((backTo cpos (starEach [e] X.env)).all (fun x => !x.1) && (backToKw cpos (keywordEach [] X.env)).all (fun x => x.1.isSome)
      && decide (([e] : List Expr).length + ([] : List Keyword).length + (if ([] : List Keyword).isEmpty then 0 else 1) < 30)) = true := by rfl)
    (hline : (apos.endLine == cpos.line) = true := by rfl) (hs : starEach [e] X.env = (false, eval e X.env) :: starEach [] X.env := by rfl) (hplain : (backTo cpos (starEach [] X.env)).any (·.1) = false := by rfl) :
    PZ X (.Call (.Attribute o "append" apos) [e] [] cpos) (zapp zo za) := fun W tk => by
  obtain ⟨t, p, s⟩ := ho W tk
  obtain ⟨t1, p1, s1⟩ := ha W tk
  refine ⟨_, pe_bm PySem.F.plainAttrs_list PySem.F.slot_list_append PySem.F.type_list_append mt_append p (pa_cons p1 pa_nil hs) hbase hfew hline hs hplain, fun F σ H Q Γ S ρ Hd rl sl af => ?_⟩
  refine s F σ H _ Γ S ρ Hd rl sl (Aft.imp (aft_bind af) ?_)
  rintro x H1 ⟨ρ1, Hd1, x', S1, g1, r1, hx, af1⟩
  split at af1
  · rename_i nd q0
    obtain ⟨n0, ds0⟩ := nd
    obtain ⟨a, vs, rfl, h1, h2, _⟩ := lst_of r1 hx q0
    refine ⟨.inl ⟨rfl, vs, SqL.of h1⟩, ?_⟩
    refine s1 F σ H1 _ Γ S1 ρ1 Hd1 r1 (sl.grow g1) (Aft.imp (aft_bind af1) ?_)
    rintro y H2 ⟨ρ2, Hd2, y', S2, g2, r2, hy, af2⟩
    split at af2
    · rename_i d n ds q1
      split at af2
      · rename_i hl
        obtain ⟨a', vs', ea, h1', h2', h3'⟩ := lst_of r2 (hx.grow g2) q1
        cases ea
        exact ⟨a, vs', y, rfl, rfl, h1', by rw [dpAll_len h2']; exact lim_lt (Nat.le_of_lt hl), af2 .non _ ρ2 Hd2 .refl (h3' _ _ (dpAll_app h2' (.cons hy .nil))) .non⟩
      · exact False.elim af2
    · exact False.elim af2
  · exact False.elim af1
end
end Z
end
section
set_option Elab.async false
set_option linter.all false
set_option maxRecDepth 100000
set_option autoImplicit false
set_option maxHeartbeats 1000000
namespace Z
open PySem L2 RZ
/-! ### what is walked -/
def Walks (K : PySem.W.Frag) (b : Bool) (J : It) (Hd : Hp) (ds : List PyData) : Prop := ∀ H, Same Hd H → (∀ i, ds.length ≤ i → J.stop i H) ∧
  ∀ i d, ds[i]? = some d → J.go i H ∧ ∀ x H', J.yld i H x H' → (H' = H ∧ Dp K Hd x d) ∨ b = true ∧ ∃ T xs es, x = V.ref T ∧ H T = none ∧ H' = upd H T (.tup xs) ∧ d = .tuple es ∧ DpAll K Hd xs es
def wkR (K : PySem.W.Frag) (b : Bool) : Ads → Hp → It → List PyData → Prop := fun _ Hd J ds => Walks K b J Hd ds
def PZI (X : CxF) (b : Bool) (tg iter : Expr) (z : ZI) : Prop := ∀ W, Takes X W → ∃ t : TI, PI X tg iter t ∧ Snd X.K W (wkR X.K b) t z
theorem dpAll_none {K : PySem.W.Frag} {H : Hp} {vs : List V} {ds : List PyData} {i : Nat} {v : V} {d : PyData} (h : DpAll K H vs ds) (e : ds[i]? = some d) (e' : vs[i]? = some v) : Dp K H v d := by
  obtain ⟨u, h1, h2⟩ := dpAll_get h e
  rw [h1] at e'
  cases e'
  exact h2
theorem walk_list {K : PySem.W.Frag} {Hd : Hp} {a : Addr} {vs : List V} {ds : List PyData} (h : SqL K Hd a vs) (hd : DpAll K Hd vs ds) : Walks K false (Itl K a) Hd ds := fun H s =>
  ⟨fun i hi => ⟨vs, s.seq h, by rw [dpAll_len hd]; exact hi⟩, fun i d e => by
    obtain ⟨v, e1, e2⟩ := dpAll_get hd e
    refine ⟨⟨vs, v, s.seq h, e1⟩, fun x H' ⟨h1, h2⟩ => .inl ⟨h1, ?_⟩⟩
    have e3 := h2 vs (s.seq h)
    rw [e1] at e3
    cases e3
    exact e2⟩
theorem walk_tup {K : PySem.W.Frag} {Hd : Hp} {a : Addr} {vs : List V} {ds : List PyData} (h : SqT K Hd a vs) (hd : DpAll K Hd vs ds) : Walks K false (Itt K a) Hd ds := fun H s =>
  ⟨fun i hi => ⟨vs, same_t s h, by rw [dpAll_len hd]; exact hi⟩, fun i d e => by
    obtain ⟨v, e1, e2⟩ := dpAll_get hd e
    refine ⟨⟨vs, v, same_t s h, e1⟩, fun x H' ⟨h1, h2⟩ => .inl ⟨h1, ?_⟩⟩
    have e3 := h2 vs (same_t s h)
    rw [e1] at e3
    cases e3
    exact e2⟩
def rngL (lo : Int) (n : Nat) : List PyData := (List.range n).map fun (i : Nat) => .int (lo + i)
theorem walk_rng {K : PySem.W.Frag} {Hd : Hp} (lo : Int) (n : Nat) : Walks K false (Itr lo n) Hd (rngL lo n) := fun H s =>
  ⟨fun i hi => by
    have hi : n ≤ i := by simpa [rngL] using hi
    exact hi, fun i d e => by
    have hi : i < n := by
      have := (List.getElem?_eq_some_iff.mp e).1
      simpa [rngL] using this
    have ed : d = .int (lo + i) := by
      unfold rngL at e
      rw [List.getElem?_map, List.getElem?_range hi] at e
      exact (Option.some.inj e).symm
    refine ⟨hi, fun x H' ⟨h1, h2⟩ => .inl ⟨h1, ?_⟩⟩
    rw [h2, ed]
    exact .int _⟩
def zipD (a b : List PyData) : List PyData := List.zipWith (fun x y => .tuple [x, y]) a b
theorem zip_get {a b : List PyData} {i : Nat} {d : PyData} (e : (zipD a b)[i]? = some d) : ∃ x y, a[i]? = some x ∧ b[i]? = some y ∧ d = .tuple [x, y] := by
  unfold zipD at e
  rw [List.getElem?_zipWith] at e
  cases h1 : a[i]? with
  | none => rw [h1] at e; cases e
  | some x =>
    cases h2 : b[i]? with
    | none => rw [h1, h2] at e; cases e
    | some y => rw [h1, h2] at e; exact ⟨x, y, rfl, rfl, (Option.some.inj e).symm⟩
theorem walk_zip {K : PySem.W.Frag} {Hd : Hp} {a b : Addr} {vs us : List V} {ds es : List PyData} (h : SqL K Hd a vs) (hd : DpAll K Hd vs ds) (h' : SqL K Hd b us) (hd' : DpAll K Hd us es) : Walks K true (Itz K a b) Hd (zipD ds es) := fun H s =>
  ⟨fun i hi => by
    refine ⟨vs, us, s.seq h, s.seq h', ?_⟩
    unfold zipD at hi
    rw [List.length_zipWith] at hi
    rw [dpAll_len hd, dpAll_len hd']
    omega, fun i d e => by
    obtain ⟨x, y, e1, e2, rfl⟩ := zip_get e
    obtain ⟨v, f1, f2⟩ := dpAll_get hd e1
    obtain ⟨u, f3, f4⟩ := dpAll_get hd' e2
    refine ⟨⟨vs, us, v, u, s.seq h, s.seq h', f1, f3⟩, fun w H' ⟨T, x1, y1, h1, h2, h3, h4, h5⟩ => .inr ⟨rfl, T, [x1, y1], [x, y], h1, h2, h3, rfl, ?_⟩⟩
    have q1 := h4 vs (s.seq h)
    have q2 := h5 us (s.seq h')
    rw [f1] at q1
    rw [f3] at q2
    cases q1
    cases q2
    exact .cons f2 (.cons f4 .nil)⟩
theorem walk_zipT {K : PySem.W.Frag} {Hd : Hp} {a b : Addr} {vs us : List V} {ds es : List PyData} (h : SqT K Hd a vs) (hd : DpAll K Hd vs ds) (h' : SqT K Hd b us) (hd' : DpAll K Hd us es) : Walks K true (ItzT K a b) Hd (zipD ds es) := fun H s =>
  ⟨fun i hi => by
    refine ⟨vs, us, same_t s h, same_t s h', ?_⟩
    unfold zipD at hi
    rw [List.length_zipWith] at hi
    rw [dpAll_len hd, dpAll_len hd']
    omega, fun i d e => by
    obtain ⟨x, y, e1, e2, rfl⟩ := zip_get e
    obtain ⟨v, f1, f2⟩ := dpAll_get hd e1
    obtain ⟨u, f3, f4⟩ := dpAll_get hd' e2
    refine ⟨⟨vs, us, v, u, same_t s h, same_t s h', f1, f3⟩, fun w H' ⟨T, x1, y1, h1, h2, h3, h4, h5⟩ => .inr ⟨rfl, T, [x1, y1], [x, y], h1, h2, h3, rfl, ?_⟩⟩
    have q1 := h4 vs (same_t s h)
    have q2 := h5 us (same_t s h')
    rw [f1] at q1
    rw [f3] at q2
    cases q1
    cases q2
    exact .cons f2 (.cons f4 .nil)⟩
def enumD (ds : List PyData) : List PyData := ds.mapIdx fun i d => .tuple [.int (i : Nat), d]
theorem walk_enum {K : PySem.W.Frag} {Hd : Hp} {a : Addr} {vs : List V} {ds : List PyData} (h : SqL K Hd a vs) (hd : DpAll K Hd vs ds) : Walks K true (Ite K a) Hd (enumD ds) := fun H s =>
  ⟨fun i hi => ⟨vs, s.seq h, by rw [dpAll_len hd]; simpa [enumD] using hi⟩, fun i d e => by
    unfold enumD at e
    rw [List.getElem?_mapIdx] at e
    cases q : ds[i]? with
    | none => rw [q] at e; cases e
    | some d' =>
      rw [q] at e
      cases e
      obtain ⟨v, e1, e2⟩ := dpAll_get hd q
      refine ⟨⟨vs, v, s.seq h, e1⟩, fun x H' ⟨T, y, h1, h2, h3, h4⟩ => .inr ⟨rfl, T, _, [.int (i : Nat), d'], h1, h2, h3, rfl, ?_⟩⟩
      have e3 := h4 vs (s.seq h)
      rw [e1] at e3
      cases e3
      exact .cons (.int _) (.cons e2 .nil)⟩
theorem walk_enumT {K : PySem.W.Frag} {Hd : Hp} {a : Addr} {vs : List V} {ds : List PyData} (h : SqT K Hd a vs) (hd : DpAll K Hd vs ds) : Walks K true (IteT K a) Hd (enumD ds) := fun H s =>
  ⟨fun i hi => ⟨vs, same_t s h, by rw [dpAll_len hd]; simpa [enumD] using hi⟩, fun i d e => by
    unfold enumD at e
    rw [List.getElem?_mapIdx] at e
    cases q : ds[i]? with
    | none => rw [q] at e; cases e
    | some d' =>
      rw [q] at e
      cases e
      obtain ⟨v, e1, e2⟩ := dpAll_get hd q
      refine ⟨⟨vs, v, same_t s h, e1⟩, fun x H' ⟨T, y, h1, h2, h3, h4⟩ => .inr ⟨rfl, T, _, [.int (i : Nat), d'], h1, h2, h3, rfl, ?_⟩⟩
      have e3 := h4 vs (same_t s h)
      rw [e1] at e3
      cases e3
      exact .cons (.int _) (.cons e2 .nil)⟩
/-! ### iterables -/
def itemsL : Sl → Option (List PyData)
  | .d (.list ds) => some ds
  | _ => none
def itemsT : Sl → Option (List PyData)
  | .d (.tuple ds) => some ds
  | _ => none
def ziL (z : ZE) : ZI := fun Γ S => (z Γ S).bind fun x S1 => ofOpt (itemsL x) S1
def ziT (z : ZE) : ZI := fun Γ S => (z Γ S).bind fun x S1 => ofOpt (itemsT x) S1
def rng1 : List Sl → Option (List PyData)
  | [.d (.int j)] => if j.natAbs < 1000000 then some (rngL 0 j.toNat) else none
  | _ => none
def rng2 : List Sl → Option (List PyData)
  | [.d (.int i), .d (.int j)] => if i.natAbs < 1000000 ∧ j.natAbs < 1000000 then some (rngL i (j - i).toNat) else none
  | _ => none
def ziA (f : List Sl → Option (List PyData)) (za : ZA) : ZI := fun Γ S => (za Γ S).bind fun xs S1 => ofOpt (f xs) S1
def zipOf : List Sl → Option (List PyData)
  | [.d (.list a), .d (.list b)] => some (zipD a b)
  | [.d (.tuple a), .d (.tuple b)] => some (zipD a b)
  | _ => none
def enumOf : List Sl → Option (List PyData)
  | [.d (.list a)] => some (enumD a)
  | [.d (.tuple a)] => some (enumD a)
  | _ => none
section
variable {X : CxF} {tg e e2 : Expr} {ze : ZE} {zs : ZA} {p pos : Pos}
theorem pzi_L (he : PZ X e ze) : PZI X false tg e (ziL ze) := fun W tk => by
  obtain ⟨t, p, s⟩ := he W tk
  refine ⟨_, pi_list p, fun F σ H Q Γ S ρ Hd rl sl af => ?_⟩
  refine s F σ H _ Γ S ρ Hd rl sl (Aft.imp (aft_bind af) ?_)
  rintro x H1 ⟨ρ1, Hd1, x', S1, g1, r1, hx, af1⟩
  cases q : itemsL x' with
  | none => rw [q] at af1; exact False.elim af1
  | some ds =>
    rw [q] at af1
    unfold itemsL at q
    split at q
    · cases q
      cases hx with
      | lst hs hd => exact ⟨_, rfl, ⟨_, r1.hd.seq hs⟩, af1 _ H1 ρ1 Hd1 .refl r1 (walk_list hs hd)⟩
    · cases q
theorem pzi_T (he : PZ X e ze) : PZI X false tg e (ziT ze) := fun W tk => by
  obtain ⟨t, p, s⟩ := he W tk
  refine ⟨_, pi_tup p, fun F σ H Q Γ S ρ Hd rl sl af => ?_⟩
  refine s F σ H _ Γ S ρ Hd rl sl (Aft.imp (aft_bind af) ?_)
  rintro x H1 ⟨ρ1, Hd1, x', S1, g1, r1, hx, af1⟩
  cases q : itemsT x' with
  | none => rw [q] at af1; exact False.elim af1
  | some ds =>
    rw [q] at af1
    unfold itemsT at q
    split at q
    · cases q
      cases hx with
      | tup hs hd => exact ⟨_, rfl, ⟨_, same_t r1.hd hs⟩, af1 _ H1 ρ1 Hd1 .refl r1 (walk_tup hs hd)⟩
    · cases q
theorem pzi_R1 (ha : PZA X [e] zs) (hm : X.mg "range" = none) (hg : Gl X "range" := by rfl) (hs : starEach [e] X.env = [(false, eval e X.env)] := by rfl) : PZI X false tg (.Call (.Name "range" p) [e] [] pos) (ziA rng1 zs) := fun W tk => by
  obtain ⟨t, p, s⟩ := ha W tk
  refine ⟨_, pi_range1 hg hm p hs, fun F σ H Q Γ S ρ Hd rl sl af => ?_⟩
  refine s F σ H _ Γ S ρ Hd rl sl (Aft.imp (aft_bind af) ?_)
  rintro vs H1 ⟨ρ1, Hd1, xs, S1, g1, r1, hx, af1⟩
  cases q : rng1 xs with
  | none => rw [q] at af1; exact False.elim af1
  | some ds =>
    rw [q] at af1
    unfold rng1 at q
    split at q
    · rename_i j
      split at q
      · rename_i hj
        cases q
        cases hx with
        | cons h1 t1 =>
          cases t1
          cases h1
          exact ⟨j, rfl, by omega, by omega, af1 _ H1 ρ1 Hd1 .refl r1 (walk_rng 0 j.toNat)⟩
      · cases q
    · cases q
theorem pzi_R2 (ha : PZA X [e, e2] zs) (hm : X.mg "range" = none) (hg : Gl X "range" := by rfl) (hs : starEach [e, e2] X.env = [(false, eval e X.env), (false, eval e2 X.env)] := by rfl) (hs2 : starEach [e2] X.env = [(false, eval e2 X.env)] := by rfl) : PZI X false tg (.Call (.Name "range" p) [e, e2] [] pos) (ziA rng2 zs) := fun W tk => by
  obtain ⟨t, p, s⟩ := ha W tk
  refine ⟨_, pi_range2 hg hm p hs hs2, fun F σ H Q Γ S ρ Hd rl sl af => ?_⟩
  refine s F σ H _ Γ S ρ Hd rl sl (Aft.imp (aft_bind af) ?_)
  rintro vs H1 ⟨ρ1, Hd1, xs, S1, g1, r1, hx, af1⟩
  cases q : rng2 xs with
  | none => rw [q] at af1; exact False.elim af1
  | some ds =>
    rw [q] at af1
    unfold rng2 at q
    split at q
    · rename_i i j
      split at q
      · rename_i hj
        cases q
        cases hx with
        | cons h1 t1 =>
          cases t1 with
          | cons h2 t2 =>
            cases t2
            cases h1
            cases h2
            exact ⟨i, j, rfl, ⟨by omega, by omega, by omega, by omega⟩, af1 _ H1 ρ1 Hd1 .refl r1 (walk_rng i (j - i).toNat)⟩
      · cases q
    · cases q
theorem pzi_Z {elts : List Expr} {kk : Nat} {tpos : Pos} (ha : PZA X [e, e2] zs) (hm : X.mg "zip" = none) (hg : Gl X "zip" := by rfl) (hs : starEach [e, e2] X.env = (false, eval e X.env) :: starEach [e2] X.env := by rfl) (hpl : (backTo pos (starEach [e2] X.env)).any (·.1) = false := by rfl) :
    PZI X true (.Tuple elts kk tpos) (.Call (.Name "zip" p) [e, e2] [] pos) (ziA zipOf zs) := fun W tk => by
  obtain ⟨t, p, s⟩ := ha W tk
  refine ⟨_, pi_zipA hg hm p hs hpl, fun F σ H Q Γ S ρ Hd rl sl af => ?_⟩
  refine s F σ H _ Γ S ρ Hd rl sl (Aft.imp (aft_bind af) ?_)
  rintro vs H1 ⟨ρ1, Hd1, xs, S1, g1, r1, hx, af1⟩
  cases q : zipOf xs with
  | none => rw [q] at af1; exact False.elim af1
  | some ds =>
    rw [q] at af1
    unfold zipOf at q
    split at q
    · cases q
      cases hx with
      | cons h1 t1 =>
        cases t1 with
        | cons h2 t2 =>
          cases t2
          cases h1 with
          | lst s1 d1 =>
            cases h2 with
            | lst s2 d2 => exact ⟨_, _, _, _, rfl, .inl ⟨r1.hd.seq s1, r1.hd.seq s2, af1 _ H1 ρ1 Hd1 .refl r1 (walk_zip s1 d1 s2 d2)⟩⟩
    · cases q
      cases hx with
      | cons h1 t1 =>
        cases t1 with
        | cons h2 t2 =>
          cases t2
          cases h1 with
          | tup s1 d1 =>
            cases h2 with
            | tup s2 d2 => exact ⟨_, _, _, _, rfl, .inr ⟨same_t r1.hd s1, same_t r1.hd s2, af1 _ H1 ρ1 Hd1 .refl r1 (walk_zipT s1 d1 s2 d2)⟩⟩
    · cases q
theorem pzi_E {elts : List Expr} {kk : Nat} {tpos : Pos} (ha : PZA X [e] zs) (hm : X.mg "enumerate" = none) (hg : Gl X "enumerate" := by rfl) (hs : starEach [e] X.env = [(false, eval e X.env)] := by rfl) :
    PZI X true (.Tuple elts kk tpos) (.Call (.Name "enumerate" p) [e] [] pos) (ziA enumOf zs) := fun W tk => by
  obtain ⟨t, p, s⟩ := ha W tk
  refine ⟨_, pi_enumB hg hm p hs, fun F σ H Q Γ S ρ Hd rl sl af => ?_⟩
  refine s F σ H _ Γ S ρ Hd rl sl (Aft.imp (aft_bind af) ?_)
  rintro vs H1 ⟨ρ1, Hd1, xs, S1, g1, r1, hx, af1⟩
  cases q : enumOf xs with
  | none => rw [q] at af1; exact False.elim af1
  | some ds =>
    rw [q] at af1
    unfold enumOf at q
    split at q
    · cases q
      cases hx with
      | cons h1 t1 =>
        cases t1
        cases h1 with
        | lst s1 d1 => exact ⟨_, _, rfl, .inl ⟨r1.hd.seq s1, af1 _ H1 ρ1 Hd1 .refl r1 (walk_enum s1 d1)⟩⟩
    · cases q
      cases hx with
      | cons h1 t1 =>
        cases t1
        cases h1 with
        | tup s1 d1 => exact ⟨_, _, rfl, .inr ⟨same_t r1.hd s1, af1 _ H1 ρ1 Hd1 .refl r1 (walk_enumT s1 d1)⟩⟩
    · cases q
end
/-! ### a turn's end: what a turn has made is forgotten -/
def forget (n : Nat) (Γ : Env1) : Env1 := Γ.map fun o => match o with
  | some (.d x) => some (.d x)
  | some (.box m) => if m < n then some (.box m) else none
  | some (.sub m) => if m < n then some (.sub m) else none
  | some .fn => some .fn
  | _ => none
theorem take_get {ρ : Ads} {n m : Nat} {x : List Addr} (h : ρ[m]? = some x) (hm : m < n) : (ρ.take n)[m]? = some x := by rw [List.getElem?_take_of_lt hm]; exact h
theorem slots_forget {K : KF} {ρ : Ads} {Hd : Hp} {σ : L2.St} {Γ : Env1} (n : Nat) (h : Slots K ρ Hd σ Γ) : Slots K (ρ.take n) Hd σ (forget n Γ) := by
  refine ⟨by rw [forget, List.length_map]; exact h.1, fun i x e => ?_⟩
  unfold forget at e
  rw [List.getElem?_map] at e
  cases q : Γ[i]? with
  | none => rw [q] at e; cases e
  | some o =>
    rw [q] at e
    cases o with
    | none => cases e
    | some y =>
      obtain ⟨v, h1, h2⟩ := h.2 i y q
      refine ⟨v, h1, ?_⟩
      cases y with
      | d z => cases e; exact h2
      | box m =>
        have e : (if m < n then some (Sl.box m) else none) = some x := Option.some.inj e
        split at e
        · rename_i hm
          cases e
          obtain ⟨a, r, e1, e2⟩ := h2
          exact ⟨a, r, e1, take_get e2 hm⟩
        · cases e
      | sub m =>
        have e : (if m < n then some (Sl.sub m) else none) = some x := Option.some.inj e
        split at e
        · rename_i hm
          cases e
          obtain ⟨a, b, r, e1, e2⟩ := h2
          exact ⟨a, b, r, e1, take_get e2 hm⟩
        · cases e
      | pr z m => cases e
      | fn => cases e; exact h2
theorem grow_take {ρ ρ' : Ads} {Hd Hd' : Hp} (g : Grow ρ Hd ρ' Hd') : ρ'.take ρ.length = ρ := by
  obtain ⟨_, t, rfl⟩ := g
  simp
/-! ### for -/
def forGo (n : Nat) (g : ZG) (body : ZS) : List PyData → ZS
  | [], Γ, S => .nx Γ S
  | d :: ds, Γ, S => match g d Γ with
    | none => .bad
    | some Γ1 => (match body Γ1 S with
      | .nx Γ2 S2 => forGo n g body ds (forget n Γ2) (S2.take n)
      | .ct Γ2 S2 => forGo n g body ds (forget n Γ2) (S2.take n)
      | .bk Γ2 S2 => .nx Γ2 S2
      | .rt x S2 => .rt x S2
      | .ex c Γ2 S2 => .ex c Γ2 S2
      | .bad => .bad)
def zfor (zi : ZI) (g : ZG) (body : ZS) : ZS := fun Γ S => (zi Γ S).st Γ fun ds S1 => forGo S1.length g body ds Γ S1
section
variable {X : CxF} {tg iter : Expr} {body : List Stmt} {zi : ZI} {g : ZG} {vs : List Nat} {zb : ZS} {pos : Pos}
theorem pzs_for {b : Bool} (hi : PZI X b tg iter zi) (hg : PZG X b tg g vs) (hb : PZSs X body zb) (hc : X.calm = true := by rfl) (hs : ∀ x, foldedSetIterable iter X.env x = pure x := by intro _; rfl) : PZS X (.For tg iter body [] pos) (zfor zi g zb) := fun hp W tk => by
  obtain ⟨t, p, s⟩ := hi W tk
  obtain ⟨t1, p1, s1⟩ := hg
  obtain ⟨t2, p2, s2⟩ := hb hp W tk
  refine ⟨_, ps_for hp hc p p1 p2 hs, fun F D σ H Γ S ρ Hd rl sl af => ?_⟩
  refine s F σ H _ Γ S ρ Hd rl sl (Aft.imp (aft_st sl af) ?_)
  rintro J H1 ⟨ρ1, Hd1, ds, S1, g1, r1, wk, af1⟩
  refine ⟨fun i m σ' H' => m = ds.length - i ∧ i ≤ ds.length ∧ ∃ Γ' S' Hd', Same Hd1 Hd' ∧ Rel X.K F ρ1 Hd' H' S' ∧ Slots X.K ρ1 Hd' σ' Γ' ∧ AftS X.K F W D ρ1 Hd' (forGo S1.length g zb (ds.drop i) Γ' S'),
    ⟨ds.length, rfl, Nat.zero_le _, Γ, S1, Hd1, Same.refl _, r1, sl.grow g1, af1⟩, fun i m σ' H' hW => ?_⟩
  obtain ⟨rfl, hi, Γ', S', Hd', sm, r', sl', af'⟩ := hW
  obtain ⟨w1, w2⟩ := wk H' (sm.trans r'.hd)
  by_cases hlt : i < ds.length
  · have ed : ds[i]? = some ds[i] := List.getElem?_eq_getElem hlt
    obtain ⟨go, yl⟩ := w2 i _ ed
    rw [List.drop_eq_getElem_cons hlt] at af'
    refine .inr ⟨go, fun σ2 H2 => i + 1 ≤ ds.length ∧ ∃ Γ2 S2 Hd2, Same Hd1 Hd2 ∧ Rel X.K F ρ1 Hd2 H2 S2 ∧ Slots X.K ρ1 Hd2 σ2 Γ2 ∧ AftS X.K F W D ρ1 Hd2 (forGo S1.length g zb (ds.drop (i + 1)) Γ2 S2), fun σ2 H2 hN => ⟨ds.length - (i + 1), by omega, rfl, hN.1, hN.2⟩, fun x H2 hy => ?_⟩
    have af' : AftS X.K F W D ρ1 Hd' (match g ds[i] Γ' with
      | none => .bad
      | some Γ1 => (match zb Γ1 S' with
        | .nx Γ2 S2 => forGo S1.length g zb (ds.drop (i + 1)) (forget S1.length Γ2) (S2.take S1.length)
        | .ct Γ2 S2 => forGo S1.length g zb (ds.drop (i + 1)) (forget S1.length Γ2) (S2.take S1.length)
        | .bk Γ2 S2 => .nx Γ2 S2
        | .rt x S2 => .rt x S2
        | .ex c Γ2 S2 => .ex c Γ2 S2
        | .bad => .bad)) := af'
    -- the item is data
    have item : ∃ Hd2, Same Hd' Hd2 ∧ Rel X.K F ρ1 Hd2 H2 S' ∧ ItOk X.K b Hd2 H2 x ds[i] := by
      rcases yl x H2 hy with ⟨rfl, hd⟩ | ⟨hb, T, xs, es, rfl, hT, rfl, e3, hd⟩
      · exact ⟨Hd', Same.refl _, r', .inl (dp_mono sm hd)⟩
      · exact ⟨Hd', Same.refl _, r'.junk hT, .inr ⟨hb, T, xs, es, rfl, upd_same, e3, dpAll_mono sm hd⟩⟩
    obtain ⟨Hd2, sm2, r2, hd2⟩ := item
    split at af'
    · exact False.elim af'
    · rename_i Γ1 e1
      refine s1 F x σ' H2 _ Γ' Γ1 ds[i] S' ρ1 Hd2 r2 (sl'.grow (.hd sm2)) hd2 e1 fun σ2 sl2 _ _ => ?_
      refine s2 F _ σ2 H2 Γ1 S' ρ1 Hd2 r2 sl2 ?_
      have af2 := AftS.grow (.hd sm2) af'
      have nxt : ∀ Γ2 S2, AftS X.K F W D ρ1 Hd2 (forGo S1.length g zb (ds.drop (i + 1)) (forget S1.length Γ2) (S2.take S1.length)) → ∀ σ3 H3 ρ3 Hd3, Grow ρ1 Hd2 ρ3 Hd3 → Rel X.K F ρ3 Hd3 H3 S2 → Slots X.K ρ3 Hd3 σ3 Γ2 →
          i + 1 ≤ ds.length ∧ ∃ Γ2 S2 Hd2, Same Hd1 Hd2 ∧ Rel X.K F ρ1 Hd2 H3 S2 ∧ Slots X.K ρ1 Hd2 σ3 Γ2 ∧ AftS X.K F W D ρ1 Hd2 (forGo S1.length g zb (ds.drop (i + 1)) Γ2 S2) := by
        intro Γ2 S2 af3 σ3 H3 ρ3 Hd3 g3 r3 sl3
        have e3 := grow_take g3
        rw [r1.len] at e3
        refine ⟨hlt, forget S1.length Γ2, S2.take S1.length, Hd3, (sm.trans sm2).trans g3.h, ?_, ?_, AftS.grow (.hd g3.h) af3⟩
        · have := r3.take S1.length (by rw [← r1.len]; exact r1.ρle)
          rw [e3] at this
          exact this
        · have := slots_forget S1.length sl3
          rw [e3] at this
          exact this
      cases q : zb Γ1 S' with
      | nx Γ2 S2 => rw [q] at af2; exact nxt Γ2 S2 af2
      | ct Γ2 S2 => rw [q] at af2; exact nxt Γ2 S2 af2
      | bk Γ2 S2 => rw [q] at af2; exact af2
      | rt y S2 => rw [q] at af2; exact af2
      | ex c Γ2 S2 => rw [q] at af2; exact af2
      | bad => rw [q] at af2; exact af2
  · have e : ds.drop i = [] := List.drop_eq_nil_of_le (by omega)
    rw [e] at af'
    exact .inl ⟨w1 i (by omega), af' σ' H' ρ1 Hd' .refl r' sl'⟩
end
theorem aft_st0 {α β : Type} {K : KF} {F : Hp} {W : WX} {σ : L2.St} {Γ : Env1} {rel : Ads → Hp → β → α → Prop} {D : Ends} {ρ : Ads} {Hd : Hp} {o : Out α} {f : α → Sto → FS} (sl : Slots K ρ Hd σ Γ)
    (h : AftS K F W D ρ Hd (o.st Γ f)) : Aft K F W σ rel (fun v H' => ∃ ρ' Hd' x S', Grow ρ Hd ρ' Hd' ∧ Rel K F ρ' Hd' H' S' ∧ rel ρ' Hd' v x ∧ AftS K F W D ρ Hd (f x S')) ρ Hd o := by
  cases o with
  | val x S => exact fun v H' ρ' Hd' g r hx => ⟨ρ', Hd', x, S, g, r, hx, h⟩
  | exc c S => exact fun H' ρ' Hd' g r => h σ H' ρ' Hd' g r (sl.grow g)
  | bad => exact h
/-! ### while -/
def whGo (n : Nat) (zt : ZT) (body : ZS) : Nat → ZS
  | 0, _, _ => .bad
  | k + 1, Γ, S => (zt Γ S).st Γ fun c S1 => if c = true then (match body Γ S1 with
      | .nx Γ2 S2 => whGo n zt body k (forget n Γ2) (S2.take n)
      | .ct Γ2 S2 => whGo n zt body k (forget n Γ2) (S2.take n)
      | .bk Γ2 S2 => .nx Γ2 S2
      | .rt x S2 => .rt x S2
      | .ex c Γ2 S2 => .ex c Γ2 S2
      | .bad => .bad) else .nx Γ S1
def zwhile (k : Nat) (zt : ZT) (body : ZS) : ZS := fun Γ S => whGo S.length zt body k Γ S
section
variable {X : CxF} {c : Expr} {body : List Stmt} {zt : ZT} {zb : ZS} {pos : Pos}
theorem pzs_while (k : Nat) (hc : PZT X c zt) (hb : PZSs X body zb) : PZS X (.While c body [] pos) (zwhile k zt zb) := fun hp W tk => by
  obtain ⟨t, p, s⟩ := hc W tk
  obtain ⟨t2, p2, s2⟩ := hb hp W tk
  refine ⟨_, ps_while hp p p2, fun F D σ H Γ S ρ Hd rl sl af => ?_⟩
  refine ⟨fun m σ' H' => ∃ Γ' S' Hd', Same Hd Hd' ∧ Rel X.K F ρ Hd' H' S' ∧ Slots X.K ρ Hd' σ' Γ' ∧ AftS X.K F W D ρ Hd' (whGo S.length zt zb m Γ' S'), ⟨k, Γ, S, Hd, Same.refl _, rl, sl, af⟩, fun m σ' H' hW => ?_⟩
  obtain ⟨Γ', S', Hd', sm, r', sl', af'⟩ := hW
  cases m with
  | zero => exact False.elim af'
  | succ m =>
    refine s F σ' H' _ Γ' S' ρ Hd' r' sl' (Aft.imp (aft_st0 sl' af') ?_)
    rintro b H1 ⟨ρ1, Hd1, b', S1, g1, r1, hk, af1⟩
    have e : b = b' := hk
    subst e
    cases b with
    | false =>
      rw [if_neg Bool.false_ne_true]
      exact af1 σ' H1 ρ1 Hd1 g1 r1 (sl'.grow g1)
    | true =>
      rw [if_pos rfl]
      refine ⟨fun σ2 H2 => ∃ Γ2 S2 Hd2, Same Hd Hd2 ∧ Rel X.K F ρ Hd2 H2 S2 ∧ Slots X.K ρ Hd2 σ2 Γ2 ∧ AftS X.K F W D ρ Hd2 (whGo S.length zt zb m Γ2 S2), fun σ2 H2 hN => ⟨m, Nat.lt_succ_self m, hN⟩, ?_⟩
      refine s2 F _ σ' H1 Γ' S1 ρ1 Hd1 r1 (sl'.grow g1) ?_
      have nxt : ∀ Γ2 S2, AftS X.K F W D ρ Hd' (whGo S.length zt zb m (forget S.length Γ2) (S2.take S.length)) → ∀ σ3 H3 ρ3 Hd3, Grow ρ1 Hd1 ρ3 Hd3 → Rel X.K F ρ3 Hd3 H3 S2 → Slots X.K ρ3 Hd3 σ3 Γ2 →
          ∃ Γ2 S2 Hd2, Same Hd Hd2 ∧ Rel X.K F ρ Hd2 H3 S2 ∧ Slots X.K ρ Hd2 σ3 Γ2 ∧ AftS X.K F W D ρ Hd2 (whGo S.length zt zb m Γ2 S2) := by
        intro Γ2 S2 af3 σ3 H3 ρ3 Hd3 g3 r3 sl3
        have e3 := grow_take (g1.trans g3)
        rw [rl.len] at e3
        refine ⟨forget S.length Γ2, S2.take S.length, Hd3, sm.trans (g1.trans g3).h, ?_, ?_, AftS.grow (.hd (g1.trans g3).h) af3⟩
        · have := r3.take S.length (by rw [← rl.len]; exact rl.ρle)
          rw [e3] at this
          exact this
        · have := slots_forget S.length sl3
          rw [e3] at this
          exact this
      have af2 : AftS X.K F W D ρ Hd' (match zb Γ' S1 with
        | .nx Γ2 S2 => whGo S.length zt zb m (forget S.length Γ2) (S2.take S.length)
        | .ct Γ2 S2 => whGo S.length zt zb m (forget S.length Γ2) (S2.take S.length)
        | .bk Γ2 S2 => .nx Γ2 S2
        | .rt x S2 => .rt x S2
        | .ex c Γ2 S2 => .ex c Γ2 S2
        | .bad => .bad) := af1
      cases q : zb Γ' S1 with
      | nx Γ2 S2 => rw [q] at af2; exact nxt Γ2 S2 af2
      | ct Γ2 S2 => rw [q] at af2; exact nxt Γ2 S2 af2
      | bk Γ2 S2 => rw [q] at af2; exact AftS.grow g1 af2
      | rt y S2 => rw [q] at af2; exact AftS.grow g1 af2
      | ex c Γ2 S2 => rw [q] at af2; exact AftS.grow g1 af2
      | bad => rw [q] at af2; exact af2
end
/-! ### comprehensions -/
def wipeZ (Γ : Env1) : List Nat → Env1
  | [] => Γ
  | v :: vs => (wipeZ Γ vs).set v none
/-- one item: none: left out -/
def lcOne (n : Nat) (g : ZG) (zt : ZT) (ze : ZE) (Γ0 : Env1) (d : PyData) (S : Sto) : Out (Option PyData) := match g d Γ0 with
  | none => .bad
  | some Γ1 => (match zt Γ1 S with
    | .val true S1 => (match ze Γ1 S1 with
      | .val (.d y) S2 => .val (some y) (S2.take n)
      | _ => .bad)
    | .val false S1 => .val none (S1.take n)
    | _ => .bad)
def lcGo (one : PyData → Sto → Out (Option PyData)) : List PyData → List PyData → Sto → Out (List PyData)
  | [], acc, S => .val acc S
  | d :: ds, acc, S => (one d S).bind fun o S1 => match o with
    | some y => if acc.length < lim then lcGo one ds (acc ++ [y]) S1 else .bad
    | none => lcGo one ds acc S1
def zlc (zi : ZI) (g : ZG) (zt : ZT) (ze : ZE) (vs : List Nat) : ZF := fun Γ S => (zi Γ S).bind fun ds S1 => match lcGo (lcOne S1.length g zt ze (wipeZ Γ vs)) ds [] S1 with
  | .val ys S2 => .val (.lst ys) S2
  | _ => .bad
theorem aftF_grow {K : KF} {F : Hp} {W : WX} {σ : L2.St} {Q : VK} {ρ ρ' : Ads} {Hd Hd' : Hp} (g : Grow ρ Hd ρ' Hd') : ∀ {o : Out Box}, AftF K F W σ Q ρ Hd o → AftF K F W σ Q ρ' Hd' o
  | .val _ _, h => fun p H' ρ2 Hd2 g2 r a1 a2 a3 a4 a5 => h p H' ρ2 Hd2 (g.trans g2) r a1 a2 a3 a4 a5
  | .exc _ _, h => fun H' ρ2 Hd2 g2 r => h H' ρ2 Hd2 (g.trans g2) r
  | .bad, h => h
def ztrue : ZT := fun _ S => .val true S
theorem wipe_len (Γ : Env1) : ∀ vs : List Nat, (wipeZ Γ vs).length = Γ.length
  | [] => rfl
  | v :: vs => by unfold wipeZ; rw [List.length_set, wipe_len Γ vs]
theorem slots_wipe {K : KF} {ρ : Ads} {Hd : Hp} {σ : L2.St} {Γ : Env1} (h : Slots K ρ Hd σ Γ) : ∀ vs : List Nat, Slots K ρ Hd (wipe σ vs) (wipeZ Γ vs)
  | [] => h
  | v :: vs => (slots_wipe h vs).none
theorem wipe_get {σ : L2.St} : ∀ {vs : List Nat} {j : Nat}, j ∉ vs → (wipe σ vs)[j]? = σ[j]?
  | [], _, _ => rfl
  | v :: vs, j, h => by
    unfold wipe
    rw [List.getElem?_set_ne (fun e => h (by rw [e]; simp))]
    exact wipe_get fun z => h (List.mem_cons_of_mem _ z)
theorem wipe_at {σ : L2.St} : ∀ {vs : List Nat} {j : Nat}, j ∈ vs → j < σ.length → (wipe σ vs)[j]? = some none
  | [], _, h, _ => nomatch h
  | v :: vs, j, h, hl => by
    unfold wipe
    by_cases e : v = j
    · subst e
      rw [List.getElem?_set_self (by rw [wipe_length]; exact hl)]
    · rw [List.getElem?_set_ne e]
      rcases List.mem_cons.mp h with z | z
      · exact absurd z.symm e
      · exact wipe_at z hl
theorem wipe_ext {σ σ' : L2.St} {vs ws : List Nat} (hl : σ'.length = σ.length) (hw : ∀ j ∈ ws, j ∈ vs) (h : ∀ j, j ∉ ws → σ'[j]? = (wipe σ vs)[j]?) : wipe σ' vs = wipe σ vs := by
  apply List.ext_getElem?
  intro j
  by_cases hj : j ∈ vs
  · by_cases hb : j < σ.length
    · rw [wipe_at hj hb, wipe_at hj (by rw [hl]; exact hb)]
    · rw [List.getElem?_eq_none (by rw [wipe_length]; omega), List.getElem?_eq_none (by rw [wipe_length]; omega)]
  · rw [wipe_get hj, h j fun z => hj (hw j z)]
def PZTs (X : CxF) (ifs : List Expr) (z : ZT) : Prop := ∀ W, Takes X W → ∃ t : TT, PTs X ifs t ∧ Snd X.K W eqB t z
section
variable {X : CxF} {elt tg iter : Expr} {ifs : List Expr} {scope : Scope} {own : List (Str × Nat)} {pos : Pos} {zi : ZI} {g : ZG} {zt : ZT} {ze : ZE} {ws : List Nat}
theorem pzt_nil : PZTs X [] ztrue := fun _ _ => ⟨_, pts_nil, fun _ _ H _ _ _ ρ Hd r _ a => a true H ρ Hd .refl r rfl⟩
theorem pzt_one {c : Expr} (h : PZT X c zt) : PZTs X [c] zt := fun W tk => let ⟨_, p, s⟩ := h W tk; ⟨_, pts_one p, s⟩
/-- the readings that hang on the meaning alone -/
def tZ {α β : Type} (K : KF) (W : WX) (rel : Ads → Hp → β → α → Prop) (z : Env1 → Sto → Out α) : L2.St → Hp → (β → Hp → Prop) → Prop := fun σ H Q => ∃ F Γ S ρ Hd, Rel K F ρ Hd H S ∧ Slots K ρ Hd σ Γ ∧ Aft K F W σ rel Q ρ Hd (z Γ S)
def tZG (K : KF) (b : Bool) (g : ZG) (vs : List Nat) : TG := fun v σ H Q => ∃ F Γ Γ' d S ρ Hd, Rel K F ρ Hd H S ∧ Slots K ρ Hd σ Γ ∧ ItOk K b Hd H v d ∧ g d Γ = some Γ' ∧ ∀ σ', Slots K ρ Hd σ' Γ' → σ'.length = σ.length → (∀ j, j ∉ vs → σ'[j]? = σ[j]?) → Q σ' H
theorem pe_z {e : Expr} {W : WX} (h : PZ X e ze) (tk : Takes X W) : PE X e (tZ X.K W (SlIs X.K) ze) := by
  obtain ⟨t, p, s⟩ := h W tk
  exact ⟨fun pins sh σ H Q I ⟨F, Γ, S, ρ, Hd, r, sl, a⟩ => p.run pins sh σ H Q I (s F σ H Q Γ S ρ Hd r sl a)⟩
theorem pts_z {W : WX} (h : PZTs X ifs zt) (tk : Takes X W) : PTs X ifs (tZ X.K W eqB zt) := by
  obtain ⟨t, p, s⟩ := h W tk
  exact ⟨fun pins sh σ H Q I ⟨F, Γ, S, ρ, Hd, r, sl, a⟩ => p.run pins sh σ H Q I (s F σ H Q Γ S ρ Hd r sl a)⟩
theorem pg_z {b : Bool} (h : PZG X b tg g ws) : PG X tg (tZG X.K b g ws) := by
  obtain ⟨t, p, s⟩ := h
  exact ⟨fun pins sh σ H v u Q I rv ⟨F, Γ, Γ', d, S, ρ, Hd, r, sl, hd, e, k⟩ => p.run pins sh σ H v u Q I rv (s F v σ H Q Γ Γ' d S ρ Hd r sl hd e k)⟩
theorem snd_lc {b : Bool} {W : WX} {ti : TI} {vs : List Nat} (hsub : ∀ j ∈ ws, j ∈ vs) (s : Snd X.K W (wkR X.K b) ti zi) : SndF X.K W (tLc ti (tZG X.K b g ws) (tZ X.K (fun _ _ _ _ => False) eqB zt) (tZ X.K (fun _ _ _ _ => False) (SlIs X.K) ze) vs) (zlc zi g zt ze vs) := by
  intro F σ H Q Γ S ρ Hd rl sl af
  refine s F σ H _ Γ S ρ Hd rl sl (Aft.imp (aft_bindF af) ?_)
  rintro J H1 ⟨ρ1, Hd1, ds, S1, g1, r1, wk, af1⟩
  intro D hD
  have nDr : D ∉ ρ1.flatten := fun z => r1.ne_new hD z rfl
  have nDF : F D = none := r1.fr_free hD
  refine ⟨fun i m H' => m = ds.length - i ∧ i ≤ ds.length ∧ ∃ acc ys S' Hd', H' D = some (.lst acc) ∧ Hd' D = none ∧ Same Hd1 Hd' ∧ Rel X.K F ρ1 Hd' H' S' ∧ DpAll X.K Hd' acc ys ∧
      AftF X.K F W σ Q ρ1 Hd' (match lcGo (lcOne S1.length g zt ze (wipeZ Γ vs)) (ds.drop i) ys S' with | .val ys S2 => .val (.lst ys) S2 | _ => .bad),
    ⟨ds.length, rfl, Nat.zero_le _, [], [], S1, Hd1, upd_same, r1.hd.free hD, Same.refl _, r1.junk hD, .nil, af1⟩, fun i m H' hW => ?_⟩
  obtain ⟨rfl, hi, acc, ys, S', Hd', hacc, hdD, sm, r', hys, af'⟩ := hW
  obtain ⟨w1, w2⟩ := wk H' (sm.trans r'.hd)
  by_cases hlt : i < ds.length
  · have ed : ds[i]? = some ds[i] := List.getElem?_eq_getElem hlt
    obtain ⟨go, yl⟩ := w2 i _ ed
    rw [List.drop_eq_getElem_cons hlt] at af'
    refine .inr ⟨go, fun H2 => i + 1 ≤ ds.length ∧ ∃ acc ys S' Hd', H2 D = some (.lst acc) ∧ Hd' D = none ∧ Same Hd1 Hd' ∧ Rel X.K F ρ1 Hd' H2 S' ∧ DpAll X.K Hd' acc ys ∧
      AftF X.K F W σ Q ρ1 Hd' (match lcGo (lcOne S1.length g zt ze (wipeZ Γ vs)) (ds.drop (i + 1)) ys S' with | .val ys S2 => .val (.lst ys) S2 | _ => .bad), fun H2 hN => ⟨ds.length - (i + 1), by omega, rfl, hN.1, hN.2⟩, fun x H2 hy => ?_⟩
    have af' : AftF X.K F W σ Q ρ1 Hd' (match (lcOne S1.length g zt ze (wipeZ Γ vs) ds[i] S').bind (fun o S1' => match o with
        | some y => if ys.length < lim then lcGo (lcOne S1.length g zt ze (wipeZ Γ vs)) (ds.drop (i + 1)) (ys ++ [y]) S1' else .bad
        | none => lcGo (lcOne S1.length g zt ze (wipeZ Γ vs)) (ds.drop (i + 1)) ys S1') with | .val ys S2 => .val (.lst ys) S2 | _ => .bad) := af'
    have item : ∃ Hd2, Same Hd' Hd2 ∧ Hd2 D = none ∧ Rel X.K F ρ1 Hd2 H2 S' ∧ H2 D = some (.lst acc) ∧ ItOk X.K b Hd2 H2 x ds[i] := by
      rcases yl x H2 hy with ⟨rfl, hd⟩ | ⟨hb, T, xs, es, rfl, hT, rfl, e3, hd⟩
      · exact ⟨Hd', Same.refl _, hdD, r', hacc, .inl (dp_mono sm hd)⟩
      · have nTD : D ≠ T := ne_of_none hacc hT
        exact ⟨Hd', Same.refl _, hdD, r'.junk hT, by rw [upd_ne nTD]; exact hacc, .inr ⟨hb, T, xs, es, rfl, upd_same, e3, dpAll_mono sm hd⟩⟩
    obtain ⟨Hd2, sm2, hd2D, r2, hacc2, hd2⟩ := item
    have rF := r2.frame hacc2 nDr hd2D
    have sF : Same F (upd F D (.lst acc)) := same_upd nDF
    have slw : Slots X.K ρ1 Hd2 (wipe σ vs) (wipeZ Γ vs) := slots_wipe ((sl.grow g1).grow (.hd (sm.trans sm2))) vs
    unfold lcOne at af'
    cases q1 : g ds[i] (wipeZ Γ vs) with
    | none => rw [q1] at af'; exact False.elim af'
    | some Γ1 =>
      rw [q1] at af'
      refine ⟨upd F D (.lst acc), wipeZ Γ vs, Γ1, ds[i], S', ρ1, Hd2, rF, slw, hd2, q1, fun σ2 sl2 l2 k2 => ⟨wipe_ext (by rw [l2, wipe_length]) hsub k2, ?_⟩⟩
      refine ⟨upd F D (.lst acc), Γ1, S', ρ1, Hd2, rF, sl2, ?_⟩
      dsimp only at af'
      -- back to the list's own state behind one item
      have back : ∀ {S3 : Sto} {ρ3 : Ads} {Hd3 H3 : Hp}, Grow ρ1 Hd2 ρ3 Hd3 → Rel X.K (upd F D (.lst acc)) ρ3 Hd3 H3 S3 → H3 D = some (.lst acc) ∧ Hd3 D = none ∧ Rel X.K F ρ1 Hd3 H3 (S3.take S1.length) := by
        intro S3 ρ3 Hd3 H3 g3 r3
        have e3 := grow_take g3
        rw [r1.len] at e3
        have r4 := (r3.unframe sF).take S1.length (by rw [← r1.len]; exact r1.ρle)
        rw [e3] at r4
        exact ⟨r3.fr _ _ upd_same, r3.dj _ _ upd_same, r4⟩
      cases q2 : zt Γ1 S' with
      | exc c S3 => rw [q2] at af'; exact False.elim af'
      | bad => rw [q2] at af'; exact False.elim af'
      | val b S3 =>
        rw [q2] at af'
        intro b' H3 ρ3 Hd3 g3 r3 hb
        have eb : b' = b := hb
        subst eb
        cases b' with
        | false =>
          rw [if_neg Bool.false_ne_true]
          obtain ⟨k1, k2, k3⟩ := back g3 r3
          refine ⟨hlt, acc, ys, _, Hd3, k1, k2, (sm.trans sm2).trans g3.h, k3, dpAll_mono (sm2.trans g3.h) hys, ?_⟩
          have gg : Grow ρ1 Hd' ρ1 Hd3 := .hd (sm2.trans g3.h)
          have af2 : AftF X.K F W σ Q ρ1 Hd' (match lcGo (lcOne S1.length g zt ze (wipeZ Γ vs)) (ds.drop (i + 1)) ys (S3.take S1.length) with | .val ys S2 => .val (.lst ys) S2 | _ => .bad) := af'
          exact aftF_grow gg af2
        | true =>
          rw [if_pos rfl]
          have af2 : AftF X.K F W σ Q ρ1 Hd' (match (match ze Γ1 S3 with
              | .val (.d y) S2 => Out.val (some y) (S2.take S1.length)
              | _ => .bad : Out (Option PyData)).bind (fun o S1' => match o with
              | some y => if ys.length < lim then lcGo (lcOne S1.length g zt ze (wipeZ Γ vs)) (ds.drop (i + 1)) (ys ++ [y]) S1' else .bad
              | none => lcGo (lcOne S1.length g zt ze (wipeZ Γ vs)) (ds.drop (i + 1)) ys S1') with | .val ys S2 => .val (.lst ys) S2 | _ => .bad) := af'
          refine ⟨upd F D (.lst acc), Γ1, S3, ρ3, Hd3, r3, sl2.grow g3, ?_⟩
          cases q3 : ze Γ1 S3 with
          | exc c S4 => rw [q3] at af2; exact False.elim af2
          | bad => rw [q3] at af2; exact False.elim af2
          | val y' S4 =>
            rw [q3] at af2
            cases y' with
            | d yd =>
              intro y H4 ρ4 Hd4 g4 r4 hyd
              obtain ⟨k1, k2, k3⟩ := back (g3.trans g4) r4
              have af3 : AftF X.K F W σ Q ρ1 Hd' (match (if ys.length < lim then lcGo (lcOne S1.length g zt ze (wipeZ Γ vs)) (ds.drop (i + 1)) (ys ++ [yd]) (S4.take S1.length) else .bad) with | .val ys S2 => .val (.lst ys) S2 | _ => .bad) := af2
              split at af3
              · rename_i q4
                split at q4
                · rename_i hl
                  have hys4 := dpAll_mono (sm2.trans (g3.trans g4).h) hys
                  refine ⟨acc, k1, by rw [dpAll_len hys]; exact lim_lt (Nat.le_of_lt hl), hlt, acc ++ [y], ys ++ [yd], S4.take S1.length, Hd4, upd_same, k2, (sm.trans sm2).trans (g3.trans g4).h, ?_, dpAll_app hys4 (.cons hyd .nil), ?_⟩
                  · refine ⟨k3.gr, fun c u e => ?_, fun c u e => ?_, k3.dj, k3.nf, k3.nk, k3.len, k3.nd, fun c hc => ?_, fun j b as h1 h2 h3 => ?_⟩
                    · rw [upd_ne (ne_of_none e k2)]; exact k3.hd _ _ e
                    · rw [upd_ne (ne_of_none e nDF)]; exact k3.fr _ _ e
                    · rw [upd_ne (fun z => nDr (by rw [← z]; exact hc))]; exact k3.trk c hc
                    · obtain ⟨x1, x2⟩ := k3.box j b as h1 h2 h3
                      exact ⟨x1, x2.congr (Same.refl _) fun c hc => upd_ne (fun z => nDr (by rw [← z]; exact mem_flat h2 hc))⟩
                  · rw [q4]
                    exact aftF_grow (.hd (sm2.trans (g3.trans g4).h)) af3
                · cases q4
              · exact False.elim af3
            | _ => exact False.elim af2
  · have e : ds.drop i = [] := List.drop_eq_nil_of_le (by omega)
    rw [e] at af'
    exact .inl ⟨w1 i (by omega), af' D H' ρ1 Hd' .refl r' nDr nDF hdD (by rw [hacc]; simp) ⟨D, acc, rfl, hacc, hys⟩⟩
theorem pzf_lc {b : Bool} (hi : PZI X b tg iter zi) (hN : X.N.Nodup) (ok : BlkOk X.N X.env.scope scope own)
    (hg : ∀ (s : Shared) (H : Hp) (C : Addr) (cl : List (Str × Addr)) (fp : List Addr), PZG ⟨X.X.blk s H scope (compEnvC scope cl C X.env) fp, X.φ⟩ b tg g ws)
    (ht : ∀ (s : Shared) (H : Hp) (C : Addr) (cl : List (Str × Addr)) (fp : List Addr), PZTs ⟨X.X.blk s H scope (compEnvC scope cl C X.env) fp, X.φ⟩ ifs zt)
    (he : ∀ (s : Shared) (H : Hp) (C : Addr) (cl : List (Str × Addr)) (fp : List Addr), PZ ⟨X.X.blk s H scope (compEnvC scope cl C X.env) fp, X.φ⟩ elt ze)
    (hsub : ∀ j ∈ ws, j ∈ own.map (·.2) := by decide) (hc : X.calm = true := by rfl) (hs : ∀ x, foldedSetIterable iter X.env x = pure x := by intro _; rfl) :
    PZF X (.ListComp elt [⟨tg, iter, ifs, 0⟩] scope pos) (zlc zi g zt ze (own.map (·.2))) := fun W tk => by
  obtain ⟨ti, p, s⟩ := hi W tk
  exact ⟨_, pe_lc (g := tZG X.K b g ws) (tt := tZ X.K (fun _ _ _ _ => False) eqB zt) (te := tZ X.K (fun _ _ _ _ => False) (SlIs X.K) ze) hc hN p ok (fun s H C cl fp => pg_z (hg s H C cl fp)) (fun s H C cl fp => pts_z (ht s H C cl fp) takes0) (fun s H C cl fp => pe_z (he s H C cl fp) takes0) hs, snd_lc hsub s⟩
/-- y = [..] on one line, y a plain local -/
theorem pzs_setLc {b : Bool} (i : Nat) {y : Str} {py spos : Pos} (hi : PZI X b tg iter zi) (hN : X.N.Nodup) (ok : BlkOk X.N X.env.scope scope own)
    (hg : ∀ (s : Shared) (H : Hp) (C : Addr) (cl : List (Str × Addr)) (fp : List Addr), PZG ⟨X.X.blk s H scope (compEnvC scope cl C X.env) fp, X.φ⟩ b tg g ws)
    (ht : ∀ (s : Shared) (H : Hp) (C : Addr) (cl : List (Str × Addr)) (fp : List Addr), PZTs ⟨X.X.blk s H scope (compEnvC scope cl C X.env) fp, X.φ⟩ ifs zt)
    (he : ∀ (s : Shared) (H : Hp) (C : Addr) (cl : List (Str × Addr)) (fp : List Addr), PZ ⟨X.X.blk s H scope (compEnvC scope cl C X.env) fp, X.φ⟩ elt ze)
    (hsub : ∀ j ∈ ws, j ∈ own.map (·.2) := by decide) (hc : X.calm = true := by rfl) (hy : X.N[i]? = some y := by rfl) (hyl : X.env.scope.names.lookup y = some .local := by rfl)
    (hsw : swapsWith (.ListComp elt [⟨tg, iter, ifs, 0⟩] scope pos) (some (.Name y py)) spos.line X.env = pure true := by exact sw_true rfl rfl rfl (by decide +kernel)) (hs : ∀ x, foldedSetIterable iter X.env x = pure x := by intro _; rfl) :
    PZS X (.Assign [.Name y py] (.ListComp elt [⟨tg, iter, ifs, 0⟩] scope pos) spos) (zsetF i (zlc zi g zt ze (own.map (·.2)))) := fun _ W tk => by
  obtain ⟨ti, p, s⟩ := hi W tk
  refine ⟨_, ps_setLc (g := tZG X.K b g ws) (tt := tZ X.K (fun _ _ _ _ => False) eqB zt) (te := tZ X.K (fun _ _ _ _ => False) (SlIs X.K) ze) hc hN hy hyl hsw p ok (fun s H C cl fp => pg_z (hg s H C cl fp)) (fun s H C cl fp => pts_z (ht s H C cl fp) takes0) (fun s H C cl fp => pe_z (he s H C cl fp) takes0) hs, fun F D σ H Γ S ρ Hd rl sl af => ?_⟩
  refine snd_lc hsub s F σ H _ Γ S ρ Hd rl sl (AftF.imp (aft_stF sl af) ?_)
  rintro v H1 ⟨p, ρ1, Hd1, b, S1, rfl, g1, r1, h1, h2, h3, h4, h5, af1⟩
  obtain ⟨r2, s2⟩ := slots_box (i := i) r1 (sl.grow g1) h1 h2 h3 h4 h5
  exact af1 _ H1 _ Hd1 Rel.grB r2 s2
/-- .. the list being data from the beginning -/
theorem pzs_setLcD {b : Bool} (i : Nat) {y : Str} {py spos : Pos} (hi : PZI X b tg iter zi) (hN : X.N.Nodup) (ok : BlkOk X.N X.env.scope scope own)
    (hg : ∀ (s : Shared) (H : Hp) (C : Addr) (cl : List (Str × Addr)) (fp : List Addr), PZG ⟨X.X.blk s H scope (compEnvC scope cl C X.env) fp, X.φ⟩ b tg g ws)
    (ht : ∀ (s : Shared) (H : Hp) (C : Addr) (cl : List (Str × Addr)) (fp : List Addr), PZTs ⟨X.X.blk s H scope (compEnvC scope cl C X.env) fp, X.φ⟩ ifs zt)
    (he : ∀ (s : Shared) (H : Hp) (C : Addr) (cl : List (Str × Addr)) (fp : List Addr), PZ ⟨X.X.blk s H scope (compEnvC scope cl C X.env) fp, X.φ⟩ elt ze)
    (hsub : ∀ j ∈ ws, j ∈ own.map (·.2) := by decide) (hc : X.calm = true := by rfl) (hy : X.N[i]? = some y := by rfl) (hyl : X.env.scope.names.lookup y = some .local := by rfl)
    (hsw : swapsWith (.ListComp elt [⟨tg, iter, ifs, 0⟩] scope pos) (some (.Name y py)) spos.line X.env = pure true := by exact sw_true rfl rfl rfl (by decide +kernel)) (hs : ∀ x, foldedSetIterable iter X.env x = pure x := by intro _; rfl) :
    PZS X (.Assign [.Name y py] (.ListComp elt [⟨tg, iter, ifs, 0⟩] scope pos) spos) (zset i (zfz (zlc zi g zt ze (own.map (·.2))))) := fun _ W tk => by
  obtain ⟨ti, p, s⟩ := hi W tk
  refine ⟨_, ps_setLc (g := tZG X.K b g ws) (tt := tZ X.K (fun _ _ _ _ => False) eqB zt) (te := tZ X.K (fun _ _ _ _ => False) (SlIs X.K) ze) hc hN hy hyl hsw p ok (fun s H C cl fp => pg_z (hg s H C cl fp)) (fun s H C cl fp => pts_z (ht s H C cl fp) takes0) (fun s H C cl fp => pe_z (he s H C cl fp) takes0) hs, fun F D σ H Γ S ρ Hd rl sl af => ?_⟩
  refine snd_fz (snd_lc hsub s) F σ H _ Γ S ρ Hd rl sl (Aft.imp (aft_st sl af) ?_)
  rintro v H1 ⟨ρ1, Hd1, x', S1, g1, r1, hx, af1⟩
  exact af1 _ H1 ρ1 Hd1 .refl r1 ((sl.grow g1).set hx)
end
end Z
end
section
set_option Elab.async false
set_option linter.all false
set_option maxRecDepth 100000
set_option autoImplicit false
set_option maxHeartbeats 1000000
namespace Z
open PySem L2
/-! ### what a def promises -/
def spOf (K : PySem.W.Frag) (n : Nat) (F : Fn) : Sp := fun vs H Q E => vs.length = n ∧ ∃ φ Fr ρ Hd S xs, Rel ⟨K, φ⟩ Fr ρ Hd H S ∧ SlAll ⟨K, φ⟩ ρ Hd vs xs ∧ Aft ⟨K, φ⟩ Fr (fun c d _ H' => E c d H') [] (SlIs ⟨K, φ⟩) Q ρ Hd (F xs S)
def retN (n : Nat) (x : Sl) (S : Sto) : Out Sl := match x with
  | .d y => .val (.d y) (S.take n)
  | .box m => if m < n then .val (.box m) (S.take n) else (match S[m]? with
    | some (.lst ds) => .val (.d (.list ds)) (S.take n)
    | some (.dic kvs) => .val (.box n) (S.take n ++ [.dic kvs])
    | _ => .bad)
  | .pr y m => if m < n then .bad else (match S[m]? with
    | some (.ins C fs g kvs) => .val (.pr y n) (S.take n ++ [.ins C fs g kvs])
    | _ => .bad)
  | _ => .bad
def retS (n : Nat) : FS → Out Sl
  | .nx _ S' => .val (.d .none) (S'.take n)
  | .rt x S' => retN n x S'
  | .ex c _ S' => .exc c (S'.take n)
  | _ => .bad
/-- a def of a parameters, n further names -/
def zdef (a n : Nat) (z : ZS) : Fn := fun xs S => if xs.length = a then retS S.length (z (xs.map some ++ List.replicate n none) S) else .bad
section
variable {K : KF} {F : Hp} {ρ : Ads} {Hd H : Hp} {S : Sto}
/-- the store is cut off, one later object is kept -/
theorem Rel.pick (r : Rel K F ρ Hd H S) {n m : Nat} {b : Box} {as : List Addr} (hφ : K.φ.ρ0.length ≤ n) (hn : n ≤ m) (h1 : S[m]? = some b) (h2 : ρ[m]? = some as) : Rel K F (ρ.take n ++ [as]) Hd H (S.take n ++ [b]) := by
  have hm : m < S.length := (List.getElem?_eq_some_iff.mp h1).1
  have hs : (S.take n).length = n := by rw [List.length_take]; omega
  have hr : (ρ.take n).length = n := by rw [List.length_take, r.len]; omega
  have rt := r.take n hφ
  refine ⟨rt.gr.trans ⟨Same.refl _, [as], rfl⟩, r.hd, r.fr, r.dj, r.nf, r.nk, by rw [List.length_append, List.length_append, hs, hr]; rfl, ?_, fun a ha => ?_, fun i c cs g1 g2 g3 => ?_⟩
  · rw [List.flatten_append]
    refine List.nodup_append.mpr ⟨rt.nd, ?_, fun a ha c hc => ?_⟩
    · simp only [List.flatten_cons, List.flatten_nil, List.append_nil]
      have sl : as.Sublist ρ.flatten := List.sublist_flatten_of_mem (List.mem_of_getElem? h2)
      exact r.nd.sublist sl
    · have hc : c ∈ as := by simpa using hc
      obtain ⟨bs, hb1, hb2⟩ := List.mem_flatten.mp ha
      obtain ⟨j, hj1, hj2⟩ := List.mem_iff_getElem.mp hb1
      have hjn : j < n := by rw [hr] at hj1; exact hj1
      have ej : ρ[j]? = some bs := by
        rw [← List.getElem?_take_of_lt hjn, List.getElem?_eq_getElem hj1, hj2]
      exact flat_ne r.nd ej h2 (by omega) hb2 hc
  · rw [List.flatten_append] at ha
    rcases List.mem_append.mp ha with h | h
    · exact rt.trk a h
    · exact r.trk a (mem_flat h2 (by simpa using h))
  · by_cases hi : i < n
    · rw [List.getElem?_append_left (by rw [hs]; exact hi)] at g1
      rw [List.getElem?_append_left (by rw [hr]; exact hi)] at g2
      exact rt.box i c cs g1 g2 g3
    · have e : i = n := by
        have := (List.getElem?_eq_some_iff.mp g1).1
        rw [List.length_append, List.length_singleton, hs] at this
        omega
      subst e
      rw [List.getElem?_append_right (by rw [hs]; exact Nat.le_refl _), hs] at g1
      rw [List.getElem?_append_right (by rw [hr]; exact Nat.le_refl _), hr] at g2
      have e1 : b = c := by simpa using g1
      have e2 : as = cs := by simpa using g2
      subst e1 e2
      exact r.box m b as h1 h2 g3
end
theorem sl_len {K : KF} {ρ : Ads} {Hd : Hp} {vs : List V} {xs : List Sl} (h : SlAll K ρ Hd vs xs) : vs.length = xs.length := Paired.length h
theorem sl_get {K : KF} {ρ : Ads} {Hd : Hp} : ∀ {vs : List V} {xs : List Sl} {i : Nat} {x : Sl}, SlAll K ρ Hd vs xs → xs[i]? = some x → ∃ v, vs[i]? = some v ∧ SlIs K ρ Hd v x
  | _, _, _, _, .nil, e => by simp at e
  | _, _, 0, _, .cons h _, e => by simp at e; subst e; exact ⟨_, rfl, h⟩
  | _, _, i + 1, x, .cons _ t, e => by
    obtain ⟨v, h1, h2⟩ := sl_get (i := i) (x := x) t (by simpa using e)
    exact ⟨v, by simpa using h1, h2⟩
theorem slots_start {K : KF} {ρ : Ads} {Hd : Hp} {vs : List V} {xs : List Sl} {N : List Str} {n : Nat} (h : SlAll K ρ Hd vs xs) (hn : N.length - vs.length = n) : Slots K ρ Hd (L2.start N vs) (xs.map some ++ List.replicate n none) := by
  have hl := sl_len h
  refine ⟨?_, fun i x e => ?_⟩
  · unfold L2.start
    rw [List.length_append, List.length_append, List.length_map, List.length_map, List.length_replicate, List.length_replicate, hn, hl]
  · by_cases hi : i < xs.length
    · rw [List.getElem?_append_left (by rw [List.length_map]; exact hi), List.getElem?_map] at e
      cases q : xs[i]? with
      | none => rw [q] at e; cases e
      | some y =>
        rw [q] at e
        have e : some (some y) = some (some x) := e
        cases e
        obtain ⟨v, h1, h2⟩ := sl_get h q
        refine ⟨v, ?_, h2⟩
        unfold L2.start
        rw [List.getElem?_append_left (by rw [List.length_map, hl]; exact hi), List.getElem?_map, h1]
        rfl
    · rw [List.getElem?_append_right (by rw [List.length_map]; omega)] at e
      rw [List.getElem?_replicate] at e
      split at e <;> cases e
theorem aft_def {K : KF} {Fr : Hp} {W : WX} {E : XK} {Q : VK} {ρ : Ads} {Hd : Hp} {H : Hp} {a n : Nat} {z : ZS} {xs : List Sl} {S : Sto} (rl : Rel K Fr ρ Hd H S) (ha : xs.length = a) (hW : ∀ c d σ H', E c d H' → W c d σ H')
    (h : Aft K Fr (fun c d _ H' => E c d H') [] (SlIs K) Q ρ Hd (zdef a n z xs S)) : AftS K Fr W { nx := fun _ H' => Q .non H', rt := Q } ρ Hd (z (xs.map some ++ List.replicate n none) S) := by
  unfold zdef at h
  rw [if_pos ha] at h
  unfold retS at h
  cases q : z (xs.map some ++ List.replicate n none) S with
  | nx Γ' S' =>
    rw [q] at h
    intro σ H1 ρ1 Hd1 g r sl
    have e := grow_take g
    rw [rl.len] at e
    have r2 := r.take S.length (by rw [← rl.len]; exact rl.ρle)
    rw [e] at r2
    exact h .non H1 ρ Hd1 (.hd g.h) r2 .non
  | rt x S' =>
    rw [q] at h
    intro v H1 ρ1 Hd1 g r hv
    have e := grow_take g
    rw [rl.len] at e
    have r2 := r.take S.length (by rw [← rl.len]; exact rl.ρle)
    rw [e] at r2
    have h : Aft K Fr (fun c d _ H' => E c d H') [] (SlIs K) Q ρ Hd (retN S.length x S') := h
    unfold retN at h
    cases x with
    | d y => exact h v H1 ρ Hd1 (.hd g.h) r2 hv
    | box m =>
      dsimp only at h
      obtain ⟨a, as, rfl, hm⟩ := hv
      split at h
      · rename_i hlt
        refine h (.ref a) H1 ρ Hd1 (.hd g.h) r2 ⟨a, as, rfl, ?_⟩
        rw [← e]
        exact take_get hm hlt
      · rename_i hge
        split at h
        · rename_i ds e1
          obtain ⟨Hd2, sm, r3, d⟩ := r.freeze e1 hm
          have r4 := r3.take S.length (by rw [← rl.len]; exact rl.ρle)
          rw [e] at r4
          have e5 : (S'.set m .dead).take S.length = S'.take S.length := by
            apply List.ext_getElem?
            intro j
            by_cases hj : j < S.length
            · rw [List.getElem?_take_of_lt hj, List.getElem?_take_of_lt hj, List.getElem?_set_ne (by omega)]
            · rw [List.getElem?_eq_none (by rw [List.length_take]; omega), List.getElem?_eq_none (by rw [List.length_take]; omega)]
          rw [e5] at r4
          exact h (.ref a) H1 ρ Hd2 (.hd (g.h.trans sm)) r4 d
        · rename_i kvs e1
          have r3 := r.pick (n := S.length) (by rw [← rl.len]; exact rl.ρle) (by omega) e1 hm
          rw [e] at r3
          refine h (.ref a) H1 (ρ ++ [a :: as]) Hd1 ⟨g.h, [a :: as], rfl⟩ r3 ⟨a, as, rfl, ?_⟩
          rw [← rl.len]
          simp
        · exact False.elim h
    | pr y m =>
      dsimp only at h
      obtain ⟨t, v1, a, as, rfl, ht, hy, hm⟩ := hv
      split at h
      · exact False.elim h
      · rename_i hge
        split at h
        · rename_i C fs g' kvs e1
          have r3 := r.pick (n := S.length) (by rw [← rl.len]; exact rl.ρle) (by omega) e1 hm
          rw [e] at r3
          refine h (.ref t) H1 (ρ ++ [a :: as]) Hd1 ⟨g.h, [a :: as], rfl⟩ r3 ⟨t, v1, a, as, rfl, ht, hy, ?_⟩
          rw [← rl.len]
          simp
        · exact False.elim h
    | sub m => exact False.elim h
    | fn => exact False.elim h
  | ex c Γ' S' =>
    rw [q] at h
    intro σ H1 ρ1 Hd1 g r sl
    have e := grow_take g
    rw [rl.len] at e
    have r2 := r.take S.length (by rw [← rl.len]; exact rl.ρle)
    rw [e] at r2
    exact hW _ _ _ _ (h H1 ρ Hd1 (.hd g.h) r2)
  | bk Γ' S' => rw [q] at h; exact False.elim h
  | ct Γ' S' => rw [q] at h; exact False.elim h
  | bad => rw [q] at h; exact False.elim h
section
variable {P : Program} {w : World} {K : PySem.W.Frag} {mg : Str → Option Value} {base : Heap} {x qual : Str} {params : Arguments} {body : List Stmt} {scope : Scope} {dvs : List V} {kws : List (Str × V)} {f : Addr} {fd : FuncData}
/-- THE RULE: a def does what its body means -/
theorem fn_ok {N ps : List Str} {k n : Nat} {z : ZS} (F : FunD K x qual params body scope dvs kws f fd) (S : FnScope N ps scope) (hn : N.length - ps.length = n)
    (h : ∀ (φ : Fi) (cdv : Value) (A : Around) (outer : List Env) (s : Shared) (H : Hp) (E : XK), Room k (cxOf (L2.CX P w) P w K mg base N qual scope f cdv A outer s H E).A → PZSs ⟨cxOf (L2.CX P w) P w K mg base N qual scope f cdv A outer s H E, φ⟩ body z) :
    FnOk P w K mg base (L2.CX P w) (k + 1) f fd ps (spOf K ps.length (zdef ps.length n z)) := by
  refine F.ok S (fun vs H Q E h => h.1) fun cdv A outer s H vs Q E hr hsp => ?_
  obtain ⟨hl, φ, Fr, ρ, Hd, St, xs, rl, hx, af⟩ := hsp
  obtain ⟨t, p, sd⟩ := h φ cdv A outer s H E hr (passes_of rfl) (fun c d _ H => E c d H) (takes_of rfl rfl rfl rfl)
  exact ⟨t, p, sd Fr _ _ H _ St ρ Hd rl (slots_start hx (by rw [hl]; exact hn)) (aft_def rl (by rw [← sl_len hx]; exact hl) (fun _ _ _ _ e => e) af)⟩
end
/-! ### calls -/
structure Cal (P : Program) (w : World) (K : PySem.W.Frag) (mg : Str → Option Value) (base : Heap) (x : Str) (k : Nat) (F : Fn) : Prop where
  ex : ∃ (f : Addr) (fd : FuncData) (ps : List Str), mg x = some (.ref f) ∧ PySem.W.keepIn K (.ref f) = true ∧ Binds K fd ps [] ∧ FnOk P w K mg base (L2.CX P w) k f fd ps (spOf K ps.length F) ∧ ∀ xs S, xs.length ≠ ps.length → F xs S = .bad
theorem Cal.mono {P : Program} {w : World} {K : PySem.W.Frag} {mg : Str → Option Value} {base : Heap} {x : Str} {j k : Nat} {F : Fn} (c : Cal P w K mg base x j F) (h : j ≤ k) : Cal P w K mg base x k F := by
  obtain ⟨f, fd, ps, a, b, c, d, e⟩ := c.ex
  exact ⟨f, fd, ps, a, b, c, d.mono h, e⟩
def zcall (F : Fn) (za : ZA) : ZE := fun Γ S => (za Γ S).bind fun xs S1 => F xs S1
section
variable {X : CxF} {x : Str} {k : Nat} {F : Fn} {p pos : Pos} {e : Expr} {es : List Expr} {zs : ZA}
theorem pz_call (c : Cal X.prog X.w X.K X.mg X.base x k F) (hr : Room k X.A) (ha : PZA X (e :: es) zs) (hg : Gl X x := by rfl) (hdb : (x == ("__debug__" : Str)) = false := by decide)
    (he : starEach (e :: es) X.env = (false, eval e X.env) :: starEach es X.env := by rfl) (hpl : (backTo pos (starEach es X.env)).any (·.1) = false := by rfl) : PZ X (.Call (.Name x p) (e :: es) [] pos) (zcall F zs) := fun W tk => by
  obtain ⟨f, fd, ps, hm, hk, hb, FO, ar⟩ := c.ex
  obtain ⟨t, pa, s⟩ := ha W tk
  refine ⟨_, pe_callS FO hr hg hm hk hb (fun σ => passAt tk σ) pa hdb he hpl, fun Fr σ H Q Γ S ρ Hd rl sl af => ?_⟩
  refine s Fr σ H _ Γ S ρ Hd rl sl (Aft.imp (aft_bind af) ?_)
  rintro vs H1 ⟨ρ1, Hd1, xs, S1, g1, r1, hx, af1⟩
  have hl : xs.length = ps.length := by
    by_cases q : xs.length = ps.length
    · exact q
    · rw [ar xs S1 q] at af1
      exact False.elim af1
  refine ⟨by rw [sl_len hx]; exact hl, X.φ, Fr, ρ1, Hd1, S1, xs, r1, hx, ?_⟩
  cases q : F xs S1 with
  | val y S2 => rw [q] at af1; exact af1
  | exc c S2 => rw [q] at af1; exact af1
  | bad => rw [q] at af1; exact af1
end
section
variable {P : Program} {w : World} {K : PySem.W.Frag} {mg : Str → Option Value} {base : Heap}
theorem cal_mk {x : Str} {k n : Nat} {z : ZS} {f : Addr} {fd : FuncData} {ps : List Str} (hm : mg x = some (.ref f)) (hk : PySem.W.keepIn K (.ref f) = true) (hb : Binds K fd ps []) (FO : FnOk P w K mg base (L2.CX P w) k f fd ps (spOf K ps.length (zdef ps.length n z))) : Cal P w K mg base x k (zdef ps.length n z) :=
  ⟨f, fd, ps, hm, hk, hb, FO, fun xs S h => by unfold zdef; rw [if_neg h]⟩
end
end Z
end
section
set_option Elab.async false
set_option linter.all false
set_option maxRecDepth 100000
set_option autoImplicit false
set_option maxHeartbeats 1000000
namespace Z
open PySem L2 PyProof.Rows
/-! ### methods of a list that change it -/
def MtZ1 (X : CxF) (id : String) (f : List PyData → PyData → Option (PyData × List PyData)) : Prop := ∃ rr : V → List V → Hp → VK → Prop, MtM X id rr ∧
  ∀ (F : Hp) (a : Addr) (y : V) (vs : List V) (H : Hp) (Q : VK) (ds ds' : List PyData) (d c : PyData) (S : Sto) (ρ : Ads) (Hd : Hp), Rel X.K F ρ Hd H S → H a = some (.lst vs) → DpAll X.K Hd vs ds → Dp X.K Hd y d → f ds d = some (c, ds') →
    (∀ v vs', Dp X.K Hd v c → DpAll X.K Hd vs' ds' → Q v (upd H a (.lst vs'))) → rr (.ref a) [y] H Q
def zmt1 (f : List PyData → PyData → Option (PyData × List PyData)) (zo za : ZE) : ZE := fun Γ S => (zo Γ S).bind fun x S1 => match lstAt S1 x with
  | some _ => (za Γ S1).bind fun y S2 => (match y, lstAt S2 x with
    | .d d, some (n, ds) => (match f ds d with
      | some (c, ds') => .val (.d c) (S2.set n (.lst ds'))
      | none => .bad)
    | _, _ => .bad)
  | none => .bad
def fExt (ds : List PyData) : PyData → Option (PyData × List PyData)
  | .list es => if ds.length + es.length ≤ lim then some (.none, ds ++ es) else none
  | _ => none
def fPopAt (ds : List PyData) : PyData → Option (PyData × List PyData)
  | .int i => if i.natAbs < 1000000 then (match seqIndex? i ds.length with
    | some k => (match ds[k]? with
      | some y => some (y, ds.eraseIdx k)
      | none => none)
    | none => none) else none
  | _ => none
theorem dpAll_erase {K : PySem.W.Frag} {H : Hp} : ∀ {vs : List V} {ds : List PyData} (i : Nat), DpAll K H vs ds → DpAll K H (vs.eraseIdx i) (ds.eraseIdx i)
  | _, _, _, .nil => .nil
  | _, _, 0, .cons _ t => t
  | _, _, i + 1, .cons h t => .cons h (dpAll_erase i t)
theorem dpAll_set {K : PySem.W.Frag} {H : Hp} {v : V} {d : PyData} (hv : Dp K H v d) : ∀ {vs : List V} {ds : List PyData} (i : Nat), DpAll K H vs ds → DpAll K H (vs.set i v) (ds.set i d)
  | _, _, _, .nil => .nil
  | _, _, 0, .cons _ t => .cons hv t
  | _, _, i + 1, .cons h t => .cons h (dpAll_set hv i t)
theorem dpAll_dropLast {K : PySem.W.Frag} {H : Hp} : ∀ {vs : List V} {ds : List PyData}, DpAll K H vs ds → DpAll K H vs.dropLast ds.dropLast
  | _, _, .nil => .nil
  | _, _, .cons _ .nil => .nil
  | _, _, .cons h (.cons h' t) => .cons h (dpAll_dropLast (.cons h' t))
section
variable {X : CxF} {o e : Expr} {zo za : ZE} {apos cpos : Pos} {name : Str} {id : String} {f : List PyData → PyData → Option (PyData × List PyData)}
theorem mtz_ext : MtZ1 X "list.extend" fExt := by
  refine ⟨_, mt_extend, fun F a y vs H Q ds ds' d c S ρ Hd r ha hds hy e k => ?_⟩
  cases hy with
  | lst hs hes =>
    rename_i b us es
    have e : (if ds.length + es.length ≤ lim then some (PyData.none, ds ++ es) else none) = some (c, ds') := e
    split at e
    · rename_i hl
      cases e
      refine ⟨a, b, vs, us, rfl, rfl, ha, r.hd _ _ (r.plain hs), by rw [dpAll_len hds, dpAll_len hes]; exact lim_line hl, k .non _ .non (dpAll_app hds hes)⟩
    · cases e
  | _ => cases e
theorem mtz_popAt : MtZ1 X "list.pop" fPopAt := by
  refine ⟨_, mt_popAt, fun F a y vs H Q ds ds' d c S ρ Hd r ha hds hy e k => ?_⟩
  cases hy with
  | int i =>
    unfold fPopAt at e
    dsimp only at e
    split at e
    · rename_i hi
      split at e
      · rename_i j hj
        split at e
        · rename_i w hw
          cases e
          obtain ⟨v, h1, h2⟩ := dpAll_get hds hw
          exact ⟨a, vs, i, j, v, rfl, rfl, ha, by omega, by omega, by rw [dpAll_len hds]; exact hj, h1, k v _ h2 (dpAll_erase j hds)⟩
        · cases e
      · cases e
    · cases e
  | _ => cases e
theorem pz_mt1 (h : MtZ1 X id f) (slot : Slot "list" name id) (hty : typeOf (.builtin id) = pure (.type "method_descriptor")) (ho : PZ X o zo) (ha : PZ X e za) (hbase : attributeBase o name X.env (eval o X.env) = eval o X.env := by rfl)
    (hfew : ((backTo cpos (starEach [e] X.env)).all (fun x => !x.1) && (backToKw cpos (keywordEach [] X.env)).all (fun x => x.1.isSome)
      && decide (([e] : List Expr).length + ([] : List Keyword).length + (if ([] : List Keyword).isEmpty then 0 else 1) < 30)) = true := by rfl)
    (hline : (apos.endLine == cpos.line) = true := by rfl) (hs : starEach [e] X.env = (false, eval e X.env) :: starEach [] X.env := by rfl) (hplain : (backTo cpos (starEach [] X.env)).any (·.1) = false := by rfl) :
    PZ X (.Call (.Attribute o name apos) [e] [] cpos) (zmt1 f zo za) := fun W tk => by
  obtain ⟨rr, hm, h2⟩ := h
  obtain ⟨t, p, s⟩ := ho W tk
  obtain ⟨t1, p1, s1⟩ := ha W tk
  refine ⟨_, pe_bm PySem.F.plainAttrs_list slot hty hm p (pa_cons p1 pa_nil hs) hbase hfew hline hs hplain, fun F σ H Q Γ S ρ Hd rl sl af => ?_⟩
  refine s F σ H _ Γ S ρ Hd rl sl (Aft.imp (aft_bind af) ?_)
  rintro x H1 ⟨ρ1, Hd1, x', S1, g1, r1, hx, af1⟩
  split at af1
  · rename_i nd q0
    obtain ⟨n0, ds0⟩ := nd
    obtain ⟨a, vs, rfl, h1, h3, _⟩ := lst_of r1 hx q0
    refine ⟨.inl ⟨rfl, vs, SqL.of h1⟩, ?_⟩
    refine s1 F σ H1 _ Γ S1 ρ1 Hd1 r1 (sl.grow g1) (Aft.imp (aft_bind af1) ?_)
    rintro y H2 ⟨ρ2, Hd2, y', S2, g2, r2, hy, af2⟩
    split at af2
    · rename_i d n ds q1
      split at af2
      · rename_i c ds' q2
        obtain ⟨a', vs', ea, h1', h2', h3'⟩ := lst_of r2 (hx.grow g2) q1
        cases ea
        exact h2 F a y vs' H2 Q ds ds' d c S2 ρ2 Hd2 r2 h1' h2' hy q2 fun v us hv hus => af2 v _ ρ2 Hd2 .refl (h3' _ _ hus) hv
      · exact False.elim af2
    · exact False.elim af2
  · exact False.elim af1
end
def zpop0 (zo : ZE) : ZE := fun Γ S => (zo Γ S).bind fun x S1 => match lstAt S1 x with
  | some (n, ds) => (match ds[ds.length - 1]? with
    | some y => .val (.d y) (S1.set n (.lst ds.dropLast))
    | none => .bad)
  | none => .bad
section
variable {X : CxF} {o e i value : Expr} {zo za zi zv : ZE} {apos cpos pos pos' : Pos}
theorem pz_pop0 (ho : PZ X o zo) (hbase : attributeBase o "pop" X.env (eval o X.env) = eval o X.env := by rfl) (hline : (apos.endLine == cpos.line) = true := by rfl) : PZ X (.Call (.Attribute o "pop" apos) [] [] cpos) (zpop0 zo) := fun W tk => by
  obtain ⟨t, p, s⟩ := ho W tk
  refine ⟨_, pe_bm0 PySem.F.plainAttrs_list PySem.F.slot_list_pop PySem.F.type_list_pop mt_pop p hbase hline, fun F σ H Q Γ S ρ Hd rl sl af => ?_⟩
  refine s F σ H _ Γ S ρ Hd rl sl (Aft.imp (aft_bind af) ?_)
  rintro x H1 ⟨ρ1, Hd1, x', S1, g1, r1, hx, af1⟩
  split at af1
  · rename_i n ds q0
    obtain ⟨a, vs, rfl, h1, h2, h3⟩ := lst_of r1 hx q0
    refine ⟨.inl ⟨rfl, vs, SqL.of h1⟩, ?_⟩
    split at af1
    · rename_i y q
      obtain ⟨v, e1, e2⟩ := dpAll_get h2 q
      exact ⟨a, vs, v, rfl, rfl, h1, by rw [dpAll_len h2]; exact e1, af1 v _ ρ1 Hd1 .refl (h3 _ _ (dpAll_dropLast h2)) e2⟩
    · exact False.elim af1
  · exact False.elim af1
/-! ### xs[i] = v -/
def zlput (zo zi zv : ZE) : ZS := fun Γ S => (zv Γ S).st Γ fun v S1 => (zo Γ S1).st Γ fun x S2 => (zi Γ S2).st Γ fun y S3 => match v, y, lstAt S3 x with
  | .d d, .d (.int k), some (n, ds) => (match ixN ds.length k with
    | some j => .nx Γ (S3.set n (.lst (ds.set j d)))
    | none => .bad)
  | _, _, _ => .bad
theorem pzs_lput (ho : PZ X o zo) (hi : PZ X i zi) (hv : PZ X value zv) (hs : swapsWithSole [.Subscript o i pos'] value pos.line X.env = pure false := by rfl) (hw : swappedStores [.Subscript o i pos'] value X.env = pure none := by rfl)
    (h1 : (assignEach [.Subscript o i pos'] X.env).map (·.2) = [assign (.Subscript o i pos') X.env] := by rfl)
    (ha : ∀ v, assign (.Subscript o i pos') X.env v = (do
      let ov ← holding [v] (eval o X.env)
      let iv ← holding [v, ov] (eval i X.env)
      standAt pos'
      holding [v, ov, iv] (setItem ov iv v)
      release [v, ov, iv] []) := by intro _; rfl) : PZS X (.Assign [.Subscript o i pos'] value pos) (zlput zo zi zv) := fun _ W tk => by
  obtain ⟨t, p, s⟩ := ho W tk
  obtain ⟨t1, p1, s1⟩ := hi W tk
  obtain ⟨t2, p2, s2⟩ := hv W tk
  refine ⟨_, ps_asg p2 (pg_sub p p1 set_list ha) hs hw h1, fun F D σ H Γ S ρ Hd rl sl af => ?_⟩
  refine s2 F σ H _ Γ S ρ Hd rl sl (Aft.imp (aft_st sl af) ?_)
  rintro v H1 ⟨ρ1, Hd1, v', S1, g1, r1, hv, af1⟩
  refine s F σ H1 _ Γ S1 ρ1 Hd1 r1 (sl.grow g1) (Aft.imp (aft_st (sl.grow g1) af1) ?_)
  rintro x H2 ⟨ρ2, Hd2, x', S2, g2, r2, hx, af2⟩
  refine s1 F σ H2 _ Γ S2 ρ2 Hd2 r2 ((sl.grow g1).grow g2) (Aft.imp (aft_st ((sl.grow g1).grow g2) af2) ?_)
  rintro y H3 ⟨ρ3, Hd3, y', S3, g3, r3, hy, af3⟩
  split at af3
  · rename_i d k n ds e1
    split at af3
    · rename_i j e2
      have hd : Dp X.K Hd3 v d := dp_mono (g2.trans g3).h hv
      obtain ⟨a, vs, rfl, k1, k2, k3⟩ := lst_of r3 (hx.grow g3) e1
      cases hy
      exact ⟨a, vs, k, j, rfl, rfl, k1, by rw [dpAll_len k2]; exact e2, af3 σ _ ρ3 Hd3 .refl (k3 _ _ (dpAll_set hd j k2)) (((sl.grow g1).grow g2).grow g3)⟩
    · exact False.elim af3
  · exact False.elim af3
end
/-! ### list.count of ints -/
def zcnt1 (zo za : ZE) : ZE := fun Γ S => (zo Γ S).bind fun x S1 => match res S1 x with
  | some (.list _) => (za Γ S1).bind fun y S2 => (match res S2 x, y with
    | some (.list ds), .d (.int k) => (match intsOf ds with
      | some ns => .val (.d (.int (ns.count k : Nat))) S2
      | none => .bad)
    | _, _ => .bad)
  | _ => .bad
section
variable {X : CxF} {o e : Expr} {zo za : ZE} {apos cpos pos : Pos}
theorem pz_cnt (ho : PZ X o zo) (ha : PZ X e za) (hbase : attributeBase o "count" X.env (eval o X.env) = eval o X.env := by rfl)
    (hfew : ((backTo cpos (starEach [e] X.env)).all (fun x => !x.1) && (backToKw cpos (keywordEach [] X.env)).all (fun x => x.1.isSome)
      && decide (([e] : List Expr).length + ([] : List Keyword).length + (if ([] : List Keyword).isEmpty then 0 else 1) < 30)) = true := by rfl)
    (hline : (apos.endLine == cpos.line) = true := by rfl) (hs : starEach [e] X.env = (false, eval e X.env) :: starEach [] X.env := by rfl) (hplain : (backTo cpos (starEach [] X.env)).any (·.1) = false := by rfl) :
    PZ X (.Call (.Attribute o "count" apos) [e] [] cpos) (zcnt1 zo za) := fun W tk => by
  obtain ⟨t, p, s⟩ := ho W tk
  obtain ⟨t1, p1, s1⟩ := ha W tk
  refine ⟨_, pe_bm PySem.F.plainAttrs_list PySem.F.slot_list_count PySem.F.type_list_count mt_lcount p (pa_cons p1 pa_nil hs) hbase hfew hline hs hplain, fun F σ H Q Γ S ρ Hd rl sl af => ?_⟩
  refine s F σ H _ Γ S ρ Hd rl sl (Aft.imp (aft_bind af) ?_)
  rintro x H1 ⟨ρ1, Hd1, x', S1, g1, r1, hx, af1⟩
  split at af1
  · rename_i ds0 q0
    obtain ⟨a, vs, rfl, h1, h3⟩ := vw_of r1 hx q0
    refine ⟨.inl ⟨rfl, vs, h1⟩, ?_⟩
    refine s1 F σ H1 _ Γ S1 ρ1 Hd1 r1 (sl.grow g1) (Aft.imp (aft_bind af1) ?_)
    rintro y H2 ⟨ρ2, Hd2, y', S2, g2, r2, hy, af2⟩
    split at af2
    · rename_i ds k q1
      split at af2
      · rename_i ns q2
        obtain ⟨a', ea, hs'⟩ := list_ints (vw_of r2 (hx.grow g2) q1) q2
        cases ea
        cases hy
        exact ⟨a, ns, k, rfl, rfl, hs', af2 _ H2 ρ2 Hd2 .refl r2 (.int _)⟩
      · exact False.elim af2
    · exact False.elim af2
  · exact False.elim af1
end
/-! ### list + list, list * int: a new list -/
def fCat : PyData → PyData → Option Box
  | .list a, .list b => if a.length + b.length ≤ lim then some (.lst (a ++ b)) else none
  | _, _ => none
def fRep : PyData → PyData → Option Box
  | .list a, .int k => if k.natAbs < 1000000 ∧ a.length * k.toNat ≤ lim then some (.lst (List.replicate k.toNat a).flatten) else none
  | _, _ => none
def zopF (f : PyData → PyData → Option Box) (za zb : ZE) : ZF := fun Γ S => (za Γ S).bind fun x S1 => (zb Γ S1).bind fun y S2 => match x, y with
  | .d a, .d b => ofOpt (f a b) S2
  | _, _ => .bad
theorem dpAll_rep {K : PySem.W.Frag} {H : Hp} {vs : List V} {ds : List PyData} (h : DpAll K H vs ds) : ∀ k : Nat, DpAll K H (List.replicate k vs).flatten (List.replicate k ds).flatten
  | 0 => .nil
  | k + 1 => by
    rw [List.replicate_succ, List.replicate_succ, List.flatten_cons, List.flatten_cons]
    exact dpAll_app h (dpAll_rep h k)
section
variable {X : CxF} {a b : Expr} {za zb : ZE} {pos : Pos}
theorem snd_opF {W : WX} {ta tb : TE} {rr : R2} {f : PyData → PyData → Option Box} (ha : Snd X.K W (SlIs X.K) ta za) (hb : Snd X.K W (SlIs X.K) tb zb)
    (ho : ∀ (F : Hp) (x y : V) (H : Hp) (Q : VK) (a b : PyData) (c : Box) (S : Sto) (ρ : Ads) (Hd : Hp), Rel X.K F ρ Hd H S → Dp X.K Hd x a → Dp X.K Hd y b → f a b = some c → MadeF X.K F ρ Hd H S c Q → rr x y H Q) : SndF X.K W (tOp rr ta tb) (zopF f za zb) := by
  intro F σ H Q Γ S ρ Hd rl sl af
  refine ha F σ H _ Γ S ρ Hd rl sl (Aft.imp (aft_bindF af) ?_)
  rintro x H1 ⟨ρ1, Hd1, x', S1, g1, r1, hx, af1⟩
  refine hb F σ H1 _ Γ S1 ρ1 Hd1 r1 (sl.grow g1) (Aft.imp (aft_bindF af1) ?_)
  rintro y H2 ⟨ρ2, Hd2, y', S2, g2, r2, hy, af2⟩
  split at af2
  · rename_i p q
    cases e : f p q with
    | none => rw [e] at af2; exact False.elim af2
    | some c =>
      rw [e] at af2
      exact ho F x y H2 Q p q c S2 ρ2 Hd2 r2 (dp_mono g2.h hx) hy e fun np o hp ok => af2 np _ ρ2 Hd2 .refl (r2.junk hp) (fun z => r2.ne_new hp z rfl) (r2.fr_free hp) (r2.hd.free hp) (by rw [upd_same]; simp) ok
  · exact False.elim af2
theorem pzf_cat (ha : PZ X a za) (hb : PZ X b zb) : PZF X (.BinOp a .Add b pos) (zopF fCat za zb) := fun W tk => by
  obtain ⟨ta, pa, sa⟩ := ha W tk
  obtain ⟨tb, pb, sb⟩ := hb W tk
  refine ⟨_, pe_op op_cat pa pb, snd_opF sa sb fun F x y H Q p q c S ρ Hd r hx hy e m => ?_⟩
  unfold fCat at e
  split at e
  · split at e
    · rename_i hl
      cases e
      cases hx with
      | lst s1 d1 =>
        cases hy with
        | lst s2 d2 => exact ⟨_, _, _, _, rfl, rfl, r.hd _ _ (r.plain s1), r.hd _ _ (r.plain s2), by rw [dpAll_len d1, dpAll_len d2]; exact lim_line hl, fun np hp => m np _ hp ⟨np, _, rfl, upd_same, dpAll_app d1 d2⟩⟩
    · cases e
  · cases e
theorem pzf_rep (ha : PZ X a za) (hb : PZ X b zb) : PZF X (.BinOp a .Mult b pos) (zopF fRep za zb) := fun W tk => by
  obtain ⟨ta, pa, sa⟩ := ha W tk
  obtain ⟨tb, pb, sb⟩ := hb W tk
  refine ⟨_, pe_op op_rep pa pb, snd_opF sa sb fun F x y H Q p q c S ρ Hd r hx hy e m => ?_⟩
  unfold fRep at e
  split at e
  · split at e
    · rename_i hl
      cases e
      cases hx with
      | lst s1 d1 =>
        cases hy
        exact ⟨_, _, _, rfl, rfl, r.hd _ _ (r.plain s1), by omega, by omega, by rw [dpAll_len d1]; exact lim_line hl.2, fun np hp => m np _ hp ⟨np, _, rfl, upd_same, dpAll_rep d1 _⟩⟩
    · cases e
  · cases e
end
/-! ### walking a list or a tuple -/
def iSeq (K : PySem.W.Frag) (tl : TE) : TI := fun σ H R => tl σ H fun x H1 => ∃ a, x = .ref a ∧ (((∃ xs, SqL K H1 a xs) ∧ R (Itl K a) H1) ∨ ((∃ xs, SqT K H1 a xs) ∧ R (Itt K a) H1))
theorem pi_seq {X : CxF} {tg l : Expr} {tl : TE} (hl : PE X l tl) : PI X tg l (iSeq X.K tl) := by
  refine ⟨fun pins s σ H R I h => ?_⟩
  refine thn (hl.run pins s σ H _ I h) fun v s1 ⟨x, H1, I1, r1, q1⟩ => ?_
  obtain ⟨a, e, q⟩ := q1
  subst e
  cases r1
  rcases q with ⟨⟨xs, hq⟩, q⟩ | ⟨⟨xs, hq⟩, q⟩
  · obtain ⟨its, rv, p, hz⟩ := I1.list hq
    refine wpAny_pyIter_list p.isList ?_
    refine ⟨s1.heap.objs.size, [s1.heap.objs.size], _, _, H1, rfl, I1.kept (t' := s1.toks) fun b o e => Heap.get?_push_of_some _ e, turn_list a _, ⟨_, Heap.get?_push_size _ rfl, rfl, rfl⟩, fun b hb => ?_, q⟩
    have e : b = s1.heap.objs.size := by simpa using hb
    subst e
    exact I1.fpOk (Nat.le_refl _) (I1.hok.fresh (Nat.le_refl _))
  · obtain ⟨its, rv, p, hz⟩ := I1.tuple hq
    refine wpAny_pyIter_tuple (show s1.heap.IsTuple a its.toArray from p) ?_
    refine ⟨s1.heap.objs.size, [s1.heap.objs.size], _, _, H1, rfl, I1.kept (t' := s1.toks) fun b o e => Heap.get?_push_of_some _ e, turn_tuple a _, ⟨_, Heap.get?_push_size _ rfl, rfl, rfl⟩, fun b hb => ?_, q⟩
    have e : b = s1.heap.objs.size := by simpa using hb
    subst e
    exact I1.fpOk (Nat.le_refl _) (I1.hok.fresh (Nat.le_refl _))
def itemsQ : Sl → Option (List PyData)
  | .d (.list ds) => some ds
  | .d (.tuple ds) => some ds
  | _ => none
def ziQ (z : ZE) : ZI := fun Γ S => (z Γ S).bind fun x S1 => ofOpt (itemsQ x) S1
theorem pzi_Q {X : CxF} {tg e : Expr} {ze : ZE} (he : PZ X e ze) : PZI X false tg e (ziQ ze) := fun W tk => by
  obtain ⟨t, p, s⟩ := he W tk
  refine ⟨_, pi_seq p, fun F σ H Q Γ S ρ Hd rl sl af => ?_⟩
  refine s F σ H _ Γ S ρ Hd rl sl (Aft.imp (aft_bind af) ?_)
  rintro x H1 ⟨ρ1, Hd1, x', S1, g1, r1, hx, af1⟩
  cases q : itemsQ x' with
  | none => rw [q] at af1; exact False.elim af1
  | some ds =>
    rw [q] at af1
    unfold itemsQ at q
    split at q
    · cases q
      cases hx with
      | lst hs hd => exact ⟨_, rfl, .inl ⟨⟨_, r1.hd.seq hs⟩, af1 _ H1 ρ1 Hd1 .refl r1 (walk_list hs hd)⟩⟩
    · cases q
      cases hx with
      | tup hs hd => exact ⟨_, rfl, .inr ⟨⟨_, same_t r1.hd hs⟩, af1 _ H1 ρ1 Hd1 .refl r1 (walk_tup hs hd)⟩⟩
    · cases q
end Z
end
section
set_option Elab.async false
set_option linter.all false
set_option maxRecDepth 100000
set_option autoImplicit false
set_option maxHeartbeats 1000000
namespace Z
open PySem L2 PySem.Spec
theorem bt_min : bootBuiltins "min" = some (.builtin "min") := by decide +kernel
theorem bt_max : bootBuiltins "max" = some (.builtin "max") := by decide +kernel
theorem bt_sum : bootBuiltins "sum" = some (.builtin "sum") := by decide +kernel
theorem bt_all : bootBuiltins "all" = some (.builtin "all") := by decide +kernel
theorem bt_any : bootBuiltins "any" = some (.builtin "any") := by decide +kernel
theorem bt_abs : bootBuiltins "abs" = some (.builtin "abs") := by decide +kernel
theorem bt_len : bootBuiltins "len" = some (.builtin "len") := by decide +kernel
theorem bt_sorted : bootBuiltins "sorted" = some (.builtin "sorted") := by decide +kernel
theorem bt_isinstance : bootBuiltins "isinstance" = some (.builtin "isinstance") := by decide +kernel
theorem bt_int : bootBuiltins "int" = some (.type "int") := by decide +kernel
theorem bt_str : bootBuiltins "str" = some (.type "str") := by decide +kernel
theorem bt_tuple : bootBuiltins "tuple" = some (.type "tuple") := by decide +kernel
theorem bt_list : bootBuiltins "list" = some (.type "list") := by decide +kernel
theorem bt_bool : bootBuiltins "bool" = some (.type "bool") := by decide +kernel
theorem bt_dict : bootBuiltins "dict" = some (.type "dict") := by decide +kernel
theorem bt_set : bootBuiltins "set" = some (.type "set") := by decide +kernel
theorem hu65 {k : Nat} {A : Around} (r : Room k A) : A.units + 65 < cLine := by have := r.un; omega
theorem hu1 {k : Nat} {A : Around} (r : Room k A) : A.units + 1 < cLine := by have := r.un; omega
def fuel : Nat := 100000
/-! ### a new dict -/
def zdnew : ZF := fun _ S => .val (.dic []) S
section
variable {X : CxF} {x : Str} {pos : Pos}
theorem pz_glob {i : Int} (hg : Gl X x) (hm : ∃ t, X.mg x = some (.int i t)) (hd : (x == ("__debug__" : Str)) = false := by decide) : PZ X (.Name x pos) (zc (.int i)) :=
  let ⟨t, e⟩ := hm
  pz_c (pe_glob (v := .int i) hg e ⟨t, rfl⟩ hd) fun _ => .int i
theorem pz_globS {i : Str} (hg : Gl X x) (hm : ∃ t, X.mg x = some (.str i t)) (hd : (x == ("__debug__" : Str)) = false := by decide) : PZ X (.Name x pos) (zc (.str i)) :=
  let ⟨t, e⟩ := hm
  pz_c (pe_glob (v := .str i) hg e ⟨t, rfl⟩ hd) fun _ => .str i
end
/-- a new object of the store, as a value -/
def znew (z : ZF) : ZE := fun Γ S => (z Γ S).bind fun b S1 => .val (.box S1.length) (S1 ++ [b])
section
variable {X : CxF} {a b : Expr} {za : ZE} {zf : ZF} {pos : Pos}
theorem pzf_dnew : PZF X (.Dict [] [] pos) zdnew := fun _ _ => ⟨_, pe_dnewK, fun F σ H Q Γ S ρ Hd r sl af p hp => af p _ ρ Hd .refl (r.junk hp) (fun z => r.ne_new hp z rfl) (r.fr_free hp) (r.hd.free hp) (by rw [upd_same]; simp) ⟨p, [], rfl, upd_same, .nil⟩⟩
theorem pz_new (he : PZF X a zf) : PZ X a (znew zf) := fun W tk => by
  obtain ⟨t, p, s⟩ := he W tk
  refine ⟨t, p, fun F σ H Q Γ S ρ Hd rl sl af => ?_⟩
  refine s F σ H _ Γ S ρ Hd rl sl ?_
  unfold znew at af
  cases q : zf Γ S with
  | val b S1 =>
    rw [q] at af
    intro p H1 ρ1 Hd1 g1 r1 h1 h2 h3 h4 h5
    exact af _ H1 _ Hd1 (g1.trans Rel.grB) (r1.newB h1 h2 h3 h4 h5) ⟨p, [], rfl, by rw [← r1.len]; simp⟩
  | exc c S1 => rw [q] at af; exact af
  | bad => rw [q] at af; exact af
end
end Z
end
section
set_option Elab.async false
set_option linter.all false
set_option maxRecDepth 100000
set_option autoImplicit false
set_option maxHeartbeats 1000000
namespace Z
open PySem PySem.Spec PyProof.Rows L2
theorem nodup_inj {α : Type} : ∀ {l : List α} {a b : Nat}, l.Nodup → ∀ (la : a < l.length) (lb : b < l.length), l[a] = l[b] → a = b
  | [], _, _, _, la, _, _ => absurd la (Nat.not_lt_zero _)
  | x :: l, 0, 0, _, _, _, _ => rfl
  | x :: l, 0, b + 1, nd, _, lb, e => by
    have e : x = l[b]'(Nat.lt_of_succ_lt_succ lb) := e
    exact absurd (e ▸ List.getElem_mem _) (List.nodup_cons.mp nd).1
  | x :: l, a + 1, 0, nd, la, _, e => by
    have e : l[a]'(Nat.lt_of_succ_lt_succ la) = x := e
    exact absurd (e ▸ List.getElem_mem _) (List.nodup_cons.mp nd).1
  | x :: l, a + 1, b + 1, nd, la, lb, e => by
    rw [nodup_inj (List.nodup_cons.mp nd).2 (Nat.lt_of_succ_lt_succ la) (Nat.lt_of_succ_lt_succ lb) e]
/-! ### a lambda of two parameters: made, called -/
structure LamP (sc scope : Scope) (x y : Str) : Prop where
  kind : scope.kind = .function
  co : scope.isCoroutine = false
  gen : scope.isGenerator = false
  ne : x ≠ y
  px : scope.names.lookup x = some .local
  py : scope.names.lookup y = some .local
  own : ∀ z ∈ scope.names, z.2 ≠ .cell ∧ (z.2 = .local → z.1 = x ∨ z.1 = y)
  free : ∀ z ∈ scope.names, z.2 = .free → sc.names.lookup z.1 = some .cell ∨ sc.names.lookup z.1 = some .free
def lamPB (sc scope : Scope) (x y : Str) : Bool :=
  decide (scope.kind = .function) && (!scope.isCoroutine && (!scope.isGenerator && (decide (x ≠ y) && (decide (scope.names.lookup x = some .local) && (decide (scope.names.lookup y = some .local) &&
    ((scope.names.all fun z => !decide (z.2 = .cell) && (!decide (z.2 = .local) || (decide (z.1 = x) || decide (z.1 = y)))) &&
     scope.names.all fun z => !decide (z.2 = .free) || (decide (sc.names.lookup z.1 = some .cell) || decide (sc.names.lookup z.1 = some .free))))))))
theorem lamP_by {sc scope : Scope} {x y : Str} (h : lamPB sc scope x y = true) : LamP sc scope x y := by
  unfold lamPB at h
  simp only [Bool.and_eq_true, Bool.or_eq_true, Bool.not_eq_true', decide_eq_true_eq, decide_eq_false_iff_not, List.all_eq_true] at h
  obtain ⟨a1, a2, a3, a4, a5, a6, a7, a8⟩ := h
  exact ⟨a1, a2, a3, a4, a5, a6, fun z hz => ⟨(a7 z hz).1, fun q => (a7 z hz).2.resolve_left (fun n => n q)⟩, fun z hz q => (a8 z hz).resolve_left (fun n => n q)⟩
section
variable {X : Cx} {pins : List (Addr × Obj)} {σ : L2.St} {H HZ : Hp} {s s1 : Shared}
theorem LamP.caps {scope : Scope} {x y : Str} (L : LamP X.env.scope scope x y) (ok : X.Ok) : ∀ z ∈ scope.names, z.2 = .free → ∃ c, X.env.cells.lookup z.1 = some c := fun z hz q =>
  (L.free z hz q).elim (fun k => ok.has _ (.inl k)) fun k => ok.has _ (.inr k)
/-- what the making leaves: the table and the new code object, or nothing new -/
def LamLeft (Hd H Hd1 H1 : Hp) (P c' : Addr) (q : Str) : Prop := (H1 = H ∧ Hd1 = Hd) ∨
  ∃ (ps more : Array Value), H P = some (.tbl ps) ∧ H c' = none ∧ Hd1 = upd Hd c' (LamX.CodeO c' q) ∧ H1 = upd (upd H P (.tbl (ps ++ more))) c' (LamX.CodeO c' q)
theorem lam_make3 {c P : Addr} {params : Arguments} {body : Expr} {scope : Scope} {pos : Pos} {E : Value → Shared → Prop} {Q : Value → Shared → Prop} {Hd : Hp} (I : Inv X pins σ H s) (TB : LamX.TabB X.base X.mg c P) (hcode : X.env.code = .ref c)
    (hT : TabOk Hd H P (X.env.qual ++ "<lambda>")) (sm : Same Hd H) (hdef : defaultsOf params X.env = ([], [])) (hfree : ∀ y ∈ scope.names, y.2 = .free → ∃ c, X.env.cells.lookup y.1 = some c)
    (h : ∀ (f c' : Addr) (pm ctv : Value) (H1 Hd1 : Hp) (s' : Shared), Inv X pins σ H1 s' → LamLeft Hd H Hd1 H1 P c' (X.env.qual ++ "<lambda>") → TabOk Hd1 H1 P (X.env.qual ++ "<lambda>") →
      s'.heap.get? f = some (PySem.W.kla_obj "<lambda>" (X.env.qual ++ "<lambda>") params body scope (cloFrom X.env.cells scope.names []) pm c' ctv) → H1 f = none → f ∉ frs X.stack → Hd1 c' = some (LamX.CodeO c' (X.env.qual ++ "<lambda>")) → Q (.ref f) s') :
    wpAny (model X.prog X.w) X.A (eval (.Lambda params body scope pos) X.env) Q E s := by
  obtain ⟨ps, hP, tri, am⟩ := hT
  refine PySem.W.kla_eval hdef ?_
  have bl : s.heap.BuiltinsAt X.mg P := TB.bm.keeps I.bk
  have objP : s.heap.get? P = some { cls := .none, data := .fields ps } := I.hok P _ hP
  have nostk : ∀ g, s.heap.objs.size ≤ g → g ∉ frs X.stack := by
    intro g hg z
    rcases List.mem_cons.mp (I.stkSub _ z) with e | e
    · have lt := I.lt
      rw [← e] at lt
      exact absurd (Nat.lt_of_lt_of_le lt hg) (Nat.lt_irrefl _)
    · exact I.nofs hg e
  cases hq : codeAmong pos ps.toList with
  | none =>
    refine PySem.W.kla_makeFunction (mg := X.mg) (c := c) (P := P) (ps := ps) (closure_ok hfree) I.ok.glob (I.mod.glob.keeps I.bk) hcode (TB.code.keeps I.bk) objP tri hq TB.gP bl ?_
    intro c' ctv g tk ext le lt rc tb
    obtain ⟨c2, ob, vs, t, e2, gob, dob, vob⟩ := rc
    cases e2
    have big : s.heap.objs.size ≤ g.objs.size := Nat.le_trans le (Nat.le_of_lt lt)
    have newC : H c' = none := I.hok.fresh le
    have dC : Hd c' = none := sm.free newC
    have J := LamX.inv_table (t' := tk) (more := #[rawInt pos.line, rawInt pos.col, .ref c']) (h' := g.push (PySem.W.kla_obj "<lambda>" (X.env.qual ++ "<lambda>") params body scope (cloFrom X.env.cells scope.names []) ((X.mg "__name__").getD .none) c' ctv)) I hP
      (fun b o nb e => Heap.get?_push_of_some _ (ext b o nb e)) (Heap.get?_push_of_some _ tb) le ⟨ob, vs, t, Heap.get?_push_of_some _ gob, dob, vob⟩
    have toL : (ps ++ #[rawInt pos.line, rawInt pos.col, .ref c']).toList = ps.toList ++ [rawInt pos.line, rawInt pos.col, .ref c'] := by simp
    refine h g.objs.size c' ((X.mg "__name__").getD .none) ctv _ (upd Hd c' (LamX.CodeO c' (X.env.qual ++ "<lambda>"))) _ J (.inr ⟨ps, _, hP, newC, rfl, rfl⟩) ?_ (Heap.get?_push_size _ rfl) ?_ (nostk _ big) upd_same
    · refine ⟨_, by rw [upd_ne (ne_of_none hP newC), upd_same], by rw [toL]; exact PySem.TriplesOk_snoc _ _ _ _ tri, ?_⟩
      intro p' cv hcv
      rw [toL] at hcv
      rcases LamX.among_app _ tri hcv with z | z
      · obtain ⟨d, e1, e2⟩ := am p' cv z
        exact ⟨d, e1, by rw [upd_ne (ne_of_none e2 dC)]; exact e2⟩
      · exact ⟨c', z, upd_same⟩
    · have n1 : g.objs.size ≠ c' := Nat.ne_of_gt lt
      have n2 : g.objs.size ≠ P := Nat.ne_of_gt (Nat.lt_of_lt_of_le (Heap.lt_size objP) big)
      rw [upd_ne n1, upd_ne n2]
      exact I.hok.fresh big
  | some cv =>
    obtain ⟨c', e, hco⟩ := am pos cv hq
    subst e
    refine PySem.W.kla_makeFunctionHit (mg := X.mg) (c := c) (P := P) (ps := ps) (closure_ok hfree) I.ok.glob (I.mod.glob.keeps I.bk) hcode (TB.code.keeps I.bk) objP tri hq bl ?_
    intro ctv g tk ext big
    have J : Inv X pins σ H { s with heap := g.push (PySem.W.kla_obj "<lambda>" (X.env.qual ++ "<lambda>") params body scope (cloFrom X.env.cells scope.names []) ((X.mg "__name__").getD .none) c' ctv), toks := tk } :=
      I.kept fun b o e => Heap.get?_push_of_some _ (ext b o e)
    exact h g.objs.size c' ((X.mg "__name__").getD .none) ctv H Hd _ J (.inl ⟨rfl, rfl⟩) ⟨ps, hP, tri, am⟩ (Heap.get?_push_size _ rfl) (I.hok.fresh big) (nostk _ big) hco
/-- the frame of a call of it -/
theorem lam_start3 {A : Around} {outer : List Env} {E : XK} {scope : Scope} {f c' : Addr} {h₁ : Heap} {tk : Nat} {x y : Str} {i j : Nat} {v1 v2 : V} {u1 u2 : Value} (I : Inv X pins σ H s) (L : LamP X.env.scope scope x y) (hN : X.N.Nodup) (hi : X.N[i]? = some x) (hj : X.N[j]? = some y)
    (e0 : Env0 X.prog X.w X.K X.mg X.base A outer s1 HZ) (hd : A.handled = none) (un : Un (frs X.stack) [] H HZ s.heap s1.heap) (r1 : RelV v1 u1) (r2 : RelV v2 u2)
    (hns : h₁.Ns s1.heap.objs.size fun z => ([(x, u1), (y, u2)] : List (Str × Value)).reverse.lookup z) (kp : ∀ b o, s1.heap.get? b = some o → h₁.get? b = some o) :
    Inv (LamX.lamCx X A outer s1 HZ E scope f c') [] ((σ.set i (some v1)).set j (some v2)) HZ { s1 with heap := h₁, toks := tk } := by
  have caps := L.caps I.ok
  have cm : ∀ {z c}, (cloFrom X.env.cells scope.names []).lookup z = some c → X.env.cells.lookup z = some c := fun {z c} e => NdefX.clo_cm caps e
  have look : ∀ {z}, scope.names.lookup z = some .free → ∃ c, (cloFrom X.env.cells scope.names []).lookup z = some c := by
    intro z hl
    obtain ⟨c, hc⟩ := caps (z, .free) (PySem.mem_of_lookup hl) rfl
    exact ⟨c, NdefX.clo_has caps (PySem.mem_of_lookup hl) hc⟩
  have cellK : ∀ {c : Addr} {v : Option Value}, H c = none → s.heap.IsCell c v → h₁.IsCell c v := by
    rintro c v n ⟨o, ho, od⟩
    obtain ⟨sl, q⟩ := un.any ho n (by simp)
    exact ⟨_, kp _ _ q, od⟩
  have nx : ∀ b : Addr, b ∉ (LamX.lamCx X A outer s1 HZ E scope f c').ex := fun b z => by
    have z : b ∈ ([] : List Addr) := z
    simp at z
  have hij : i ≠ j := by
    rintro rfl
    rw [hi] at hj
    exact L.ne (Option.some.inj hj)
  have il : i < σ.length := by rw [I.len]; exact (List.getElem?_eq_some_iff.mp hi).1
  have jl : j < σ.length := by rw [I.len]; exact (List.getElem?_eq_some_iff.mp hj).1
  have uniq : ∀ {a b : Nat} {z : Str}, X.N[a]? = some z → X.N[b]? = some z → a = b := by
    intro a b z ha hb
    obtain ⟨la, ea⟩ := List.getElem?_eq_some_iff.mp ha
    obtain ⟨lb, eb⟩ := List.getElem?_eq_some_iff.mp hb
    exact nodup_inj hN la lb (ea.trans eb.symm)
  refine ⟨⟨e0.mod, L.kind, rfl, rfl, Nat.le_refl _, fun a b c p q => I.ok.inj a b c (cm p) (cm q), fun z hz => ?c1, fun z c q _ => ?c2, fun _ => hd, Around.frames_deeper e0.frames, .inr ⟨rfl, rfl⟩, fun b z => absurd z (nx b), e0.bs, e0.bsz, fun b _ _ => nx b,
      fun b z => absurd z (nx b), e0.funs, e0.frf⟩,
    rfl, e0.bare, Un.kept kp, ⟨_, hns, fun k z v p1 p2 p3 => ?c3⟩, fun z c e => ?c4, e0.hok.fresh (Nat.le_refl _), fun z c e => ?c5, fun q hq => ?c6, e0.hok.kept kp, ?c7⟩
  case c1 =>
    have hz : scope.names.lookup z = some .cell ∨ scope.names.lookup z = some .free := hz
    rcases hz with hz | hz
    · exact absurd rfl (L.own (z, .cell) (PySem.mem_of_lookup hz)).1
    · exact look hz
  case c2 =>
    have q : false = true := q
    cases q
  case c3 =>
    have p3 : Vis scope z := p3
    have p1 : X.N[k]? = some z := p1
    rcases p3 with lk | lk | lk
    · rcases (L.own (z, .local) (PySem.mem_of_lookup lk)).2 rfl with e | e
      · have e : z = x := e
        subst e
        have ek := uniq p1 hi
        subst ek
        rw [List.getElem?_set_ne (Ne.symm hij), List.getElem?_set_self il] at p2
        cases p2
        refine ⟨u1, r1, .inl ⟨lk, ?_⟩⟩
        show List.lookup z [(y, u2), (z, u1)] = some u1
        have ne : (z == y) = false := by
          rw [beq_eq_false_iff_ne]
          exact L.ne
        simp [List.lookup, ne]
      · have e : z = y := e
        subst e
        have ek := uniq p1 hj
        subst ek
        rw [List.getElem?_set_self (by rw [List.length_set]; exact jl)] at p2
        cases p2
        refine ⟨u2, r2, .inl ⟨lk, ?_⟩⟩
        show List.lookup z [(z, u2), (x, u1)] = some u2
        simp [List.lookup]
    · exact absurd rfl (L.own (z, .cell) (PySem.mem_of_lookup lk)).1
    · have nk : k ≠ i ∧ k ≠ j := by
        constructor
        · rintro rfl
          rw [p1] at hi
          have e := Option.some.inj hi
          rw [e, L.px] at lk
          cases lk
        · rintro rfl
          rw [p1] at hj
          have e := Option.some.inj hj
          rw [e, L.py] at lk
          cases lk
      rw [List.getElem?_set_ne (Ne.symm nk.2), List.getElem?_set_ne (Ne.symm nk.1)] at p2
      obtain ⟨m, hn, hl⟩ := I.loc
      have fz := L.free (z, .free) (PySem.mem_of_lookup lk) rfl
      have vis : Vis X.env.scope z := fz.elim (fun q => .inr (.inl q)) fun q => .inr (.inr q)
      obtain ⟨u, ru, q⟩ := hl k z v p1 p2 vis
      obtain ⟨c2, h2⟩ := look lk
      refine ⟨u, ru, .inr ⟨.inr lk, c2, h2, ?_⟩⟩
      have c1 := cm h2
      rcases q with ⟨k', _⟩ | ⟨_, c3, e', hc⟩
      · have k' : X.env.scope.names.lookup z = some .local := k'
        rcases fz with q | q
        · have q : X.env.scope.names.lookup z = some .cell := q
          rw [q] at k'
          cases k'
        · have q : X.env.scope.names.lookup z = some .free := q
          rw [q] at k'
          cases k'
      · rw [c1] at e'
        cases e'
        exact cellK (I.freeC z _ c1) hc
  case c4 =>
    obtain ⟨w', q⟩ := I.cell z c (cm e)
    exact ⟨w', cellK (I.freeC z c (cm e)) q⟩
  case c5 =>
    obtain ⟨v, o, ho, _⟩ := I.cell z c (cm e)
    exact un.free c o ho (I.freeC z c (cm e)) (by simp)
  case c6 =>
    have hq : q ∈ ([] : List (Addr × Obj)) ++ [] := hq
    simp at hq
  case c7 =>
    rw [List.length_set, List.length_set]
    exact I.len
end
end Z
end
section
set_option Elab.async false
set_option linter.all false
set_option maxRecDepth 100000
set_option autoImplicit false
set_option maxHeartbeats 1000000
namespace Z
open PySem PySem.Spec PyProof.Rows L2
section
variable {X : Cx} {pins : List (Addr × Obj)} {σ : L2.St} {H : Hp} {s : Shared}
/-- a(e1, e2) in the def that has got the lambda; it was entered at s -/
theorem pe_act2 {CXg : CXT} {Eg : XK} {Ng : List Str} {qg : Str} {sg : Scope} {g f c' : Addr} {cdg pm ctv : Value} {params : Arguments} {body : Expr} {scope : Scope} {k i ix iy : Nat} {a x y : Str} {E : L2.St → XK} {tb : XK → TE} {t : TA} {e1 e2 : Expr} {p1 p2 : Pos}
    (I : Inv X pins σ H s) (L : LamP X.env.scope scope x y) (hN : X.N.Nodup) (hx : X.N[ix]? = some x) (hy : X.N[iy]? = some y)
    (hf : s.heap.get? f = some (PySem.W.kla_obj "<lambda>" (X.env.qual ++ "<lambda>") params body scope (cloFrom X.env.cells scope.names []) pm c' ctv)) (hfn : H f = none) (hfr : f ∉ frs X.stack)
    (hbind : ∀ u1 u2 : Value, bindArgs (PySem.W.kla_fn "<lambda>" (X.env.qual ++ "<lambda>") params body scope (cloFrom X.env.cells scope.names []) pm (.ref c') ctv) ⟨[u1, u2], []⟩ = pure [(x, u1), (y, u2)])
    (hp : ∀ σZ, PassesAt (L2.CX X.prog X.w) (cxOf CXg X.prog X.w X.K X.mg X.base Ng qg sg g cdg X.A X.stack s H Eg) σZ (E σZ)) (hr : Room (k + 1) (X.A.deeper (envOfC qg sg s.heap.objs.size g cdg)))
    (hbody : ∀ (E : XK) (A : Around) (outer : List Env) (s : Shared) (H : Hp), Room k (A.deeper (LamX.lamEnv X scope s.heap.objs.size f c')) → PE (LamX.lamCx X A outer s H E scope f c') body (tb E))
    (ha : PA (cxOf CXg X.prog X.w X.K X.mg X.base Ng qg sg g cdg X.A X.stack s H Eg) [e1, e2] t)
    (hNg : Ng[i]? = some a) (hv : Vis sg a) (hd : (a == ("__debug__" : Str)) = false) (hcd : (a == ("__classdict__" : Str)) = false)
    (he : starEach [e1, e2] (cxOf CXg X.prog X.w X.K X.mg X.base Ng qg sg g cdg X.A X.stack s H Eg).env = (false, eval e1 (cxOf CXg X.prog X.w X.K X.mg X.base Ng qg sg g cdg X.A X.stack s H Eg).env) :: starEach [e2] (cxOf CXg X.prog X.w X.K X.mg X.base Ng qg sg g cdg X.A X.stack s H Eg).env)
    (hpl : (backTo p2 (starEach [e2] (cxOf CXg X.prog X.w X.K X.mg X.base Ng qg sg g cdg X.A X.stack s H Eg).env)).any (·.1) = false) :
    PE (cxOf CXg X.prog X.w X.K X.mg X.base Ng qg sg g cdg X.A X.stack s H Eg) (.Call (.Name a p1) [e1, e2] [] p2)
      (fun σZ HZ Q => σZ[i]? = some (some (.ref f)) ∧ t σZ HZ fun vs HY => ∃ v1 v2, vs = [v1, v2] ∧ HY c' = some (LamX.CodeO c' (X.env.qual ++ "<lambda>")) ∧ tb (E σZ) ((σ.set ix (some v1)).set iy (some v2)) HY Q) := by
  refine ⟨fun pinsZ sZ σZ HZ Q IZ hh => ?_⟩
  obtain ⟨hs, ht⟩ := hh
  refine wpAny_Call_Name_kw (thn ((pe_var (pos := p1) (i := i) hNg hv hd hcd).run pinsZ sZ σZ HZ (fun v H1 => v = .ref f ∧ H1 = HZ) IZ ⟨.ref f, hs, rfl, rfl⟩) ?_)
  rintro u sA ⟨v, H1, IA, rA, qA⟩
  obtain ⟨ev, eH⟩ := qA
  subst ev
  rw [eH] at IA
  obtain rfl : u = Value.ref f := rA
  have keepF : ∀ {s2 : Shared} {σ2 : L2.St} {H2 : Hp} {pn : List (Addr × Obj)}, Inv (cxOf CXg X.prog X.w X.K X.mg X.base Ng qg sg g cdg X.A X.stack s H Eg) pn σ2 H2 s2 → s2.heap.get? f = some (PySem.W.kla_obj "<lambda>" (X.env.qual ++ "<lambda>") params body scope (cloFrom X.env.cells scope.names []) pm c' ctv) := fun J =>
    J.base.keep f _ hf hfn hfr fun z => nomatch (show f ∈ ([] : List Addr) from z)
  refine PySem.W.callWith_F ⟨_, _, _, _, keepF IA⟩ (thn (ha.run p2 pinsZ sA σZ _ _ IA ht) ?_) he hpl
  rintro us sB ⟨vs, HY, IB, rB, v1, v2, ev, hc, hb⟩
  subst ev
  obtain ⟨u1, u2, rfl, r1, r2⟩ : ∃ u1 u2, us = [u1, u2] ∧ RelV v1 u1 ∧ RelV v2 u2 := by
    cases rB with
    | cons q1 q2 =>
      cases q2 with
      | cons q3 q4 =>
        cases q4
        exact ⟨_, _, rfl, q1, q3⟩
  have fB := keepF IB
  refine ⟨⟨_, _, _, _, fB⟩, ?_⟩
  have un : Un (frs X.stack) [] H HY s.heap sB.heap := IB.base
  obtain ⟨⟨oc, ws, tt, hoc, hdc, hvc⟩, _, _⟩ := IB.hok c' _ hc
  have rc : codeAny (model X.prog X.w) (X.A.deeper (envOfC qg sg s.heap.objs.size g cdg)) (.call (.ref f) ⟨[u1, u2], []⟩) (CR (L2.CX X.prog X.w) (envOfC qg sg s.heap.objs.size g cdg :: X.stack) X.prog X.w HY sB Q (E σZ)) sB := by
    refine PySem.W.kla_callFunE hr.depth fB rfl L.co L.gen rfl ⟨c', oc, ws, tt, rfl, hoc, hdc, hvc⟩ ?_
    rw [hbind]
    refine wpAny_pure (wpAny_newFunctionEnv (fun z hz => (L.own z hz).1) (fun z hz => ?_) (fun h₁ hns hsb => ⟨IB.nolimit.fresh _ hsb, ?_⟩) L.kind)
    · rcases List.mem_cons.mp hz with e | e
      · rw [e]
        exact L.px
      · have e : z = (y, u2) := by simpa using e
        rw [e]
        exact L.py
    show codeAny _ _ (.expr body (LamX.lamEnv X scope sB.heap.objs.size f c')) _ _
    have kp : ∀ b o, sB.heap.get? b = some o → h₁.get? b = some o := fun b o e => hsb.extBut b o (Nat.ne_of_lt (Heap.lt_size e)) (Heap.get?_push_of_some _ e)
    have J := lam_start3 (A := X.A.deeper (envOfC qg sg s.heap.objs.size g cdg)) (outer := envOfC qg sg s.heap.objs.size g cdg :: X.stack) (E := E σZ) (f := f) (c' := c') (tk := sB.toks + ([(x, u1), (y, u2)] : List (Str × Value)).length) I L hN hx hy IB.env0 hr.hd un r1 r2 hns kp
    refine PySem.W.kla_codeExpr (wpAny_mono ((hbody _ _ _ sB HY (hr.deeper _)).run [] _ _ HY Q J hb) ?_ fun e s' hq => hq)
    rintro v s' ⟨w', H', J', rv, q⟩
    exact ⟨w', H', J'.os, J'.bare, J'.base, J'.hok, rv, q⟩
  refine wpAny_call (codeAny_mono rc ?_)
  intro r s' hq
  cases r with
  | error e => exact hp σZ pinsZ HY sB e s' IB hq
  | ok fl =>
    cases fl with
    | ret u => exact IB.after hq
    | next => exact False.elim hq
    | brk => exact False.elim hq
    | cont => exact False.elim hq
end
end Z
end
section
set_option Elab.async false
set_option linter.all false
set_option maxRecDepth 100000
set_option autoImplicit false
set_option maxHeartbeats 1000000
namespace Z
open PySem PySem.Spec PyProof.Rows L2
/-! ### the closure's meaning -/
def lamOf (ze : ZE) (ix iy : Nat) (Γ : Env1) : Fn := fun xs S => match xs with
  | [.d a, .d b] => (ze ((Γ.set ix (some (.d a))).set iy (some (.d b))) S).bind fun r S2 => match r with
    | .d y => .val (.d y) S2
    | _ => .bad
  | _ => .bad
def zact (i : Nat) (lam : Fn) (za : ZA) : ZE := fun Γ S => match Γ[i]? with
  | some (some .fn) => (za Γ S).bind fun xs S1 => lam xs S1
  | _ => .bad
def datS : List PyData → List Sl := List.map .d
def zlamcall (z : Fn → ZS) (n : Nat) (ze : ZE) (ix iy : Nat) (z1 z2 z3 z4 : ZE) : ZE := fun Γ S => (z1 Γ S).bind fun x1 S1 => (z2 Γ S1).bind fun x2 S2 => (z3 Γ S2).bind fun x3 S3 => (z4 Γ S3).bind fun x4 S4 =>
  match (S4[0]? : Option Box) with
  | some (.scr _) => (match x1, x2, x3, x4 with
    | .d a1, .d a2, .d a3, .d a4 => zdef 5 n (z (lamOf ze ix iy Γ)) [.d a1, .d a2, .d a3, .d a4, .fn] S4
    | _, _, _, _ => .bad)
  | _ => .bad
/-! ### another closure -/
theorem Rel.other {K : PySem.W.Frag} {φ ψ : Fi} {F : Hp} {ρ : Ads} {Hd H : Hp} {S : Sto} (r : Rel ⟨K, φ⟩ F ρ Hd H S) (g : Grow ψ.ρ0 ψ.Hd0 ρ Hd) : Rel ⟨K, ψ⟩ F ρ Hd H S :=
  ⟨g, r.hd, r.fr, r.dj, r.nf, r.nk, r.len, r.nd, r.trk, r.box⟩
theorem SlIs.other {K : PySem.W.Frag} {φ ψ : Fi} {ρ : Ads} {Hd : Hp} {v : V} : ∀ {x : Sl}, x ≠ .fn → SlIs ⟨K, φ⟩ ρ Hd v x → SlIs ⟨K, ψ⟩ ρ Hd v x
  | .d _, _, h => h
  | .box _, _, h => h
  | .sub _, _, h => h
  | .pr _ _, _, h => h
  | .fn, n, _ => absurd rfl n
theorem zdef_fn {a n : Nat} {z : ZS} {xs : List Sl} {S S' : Sto} {x : Sl} (h : zdef a n z xs S = .val x S') : x ≠ .fn := by
  rintro rfl
  unfold zdef at h
  split at h
  · unfold retS at h
    split at h
    · cases h
    · unfold retN at h
      split at h
      · cases h
      · split at h
        · cases h
        · split at h
          · cases h
          · cases h
          · cases h
      · split at h
        · cases h
        · split at h
          · cases h
          · cases h
      · cases h
    · cases h
    · cases h
  · cases h
/-! ### the call of it -/
section
variable {X : CxF} {pins : List (Addr × Obj)} {σ : L2.St} {H : Hp} {s : Shared}
theorem pz_act2 {Ng : List Str} {qg : Str} {sg : Scope} {g f c' : Addr} {cdg pm ctv : Value} {params : Arguments} {body : Expr} {scope : Scope} {k i ix iy : Nat} {a x y : Str} {Eg : XK} {ze : ZE} {zs : ZA} {e1 e2 : Expr} {p1 p2 : Pos} {Fr : Hp} {Γ : Env1} {S : Sto} {ρ : Ads} {Hd : Hp}
    (I : Inv X.X pins σ H s) (rl : Rel X.K Fr ρ Hd H S) (sl : Slots X.K ρ Hd σ Γ) (L : LamP X.env.scope scope x y) (hN : X.N.Nodup) (hx : X.N[ix]? = some x) (hy : X.N[iy]? = some y)
    (hf : s.heap.get? f = some (PySem.W.kla_obj "<lambda>" (X.env.qual ++ "<lambda>") params body scope (cloFrom X.env.cells scope.names []) pm c' ctv)) (hfn : H f = none) (hfr : f ∉ frs X.stack) (hc : Hd c' = some (LamX.CodeO c' (X.env.qual ++ "<lambda>")))
    (hbind : ∀ u1 u2 : Value, bindArgs (PySem.W.kla_fn "<lambda>" (X.env.qual ++ "<lambda>") params body scope (cloFrom X.env.cells scope.names []) pm (.ref c') ctv) ⟨[u1, u2], []⟩ = pure [(x, u1), (y, u2)])
    (hr : Room (k + 1) (X.A.deeper (envOfC qg sg s.heap.objs.size g cdg)))
    (hbody : ∀ (E : XK) (A : Around) (outer : List Env) (s : Shared) (H : Hp), Room k (A.deeper (LamX.lamEnv X.X scope s.heap.objs.size f c')) → PZ ⟨LamX.lamCx X.X A outer s H E scope f c', X.φ⟩ body ze)
    (hNg : Ng[i]? = some a) (hv : Vis sg a) (hd : (a == ("__debug__" : Str)) = false) (hcd : (a == ("__classdict__" : Str)) = false)
    (ha : PZA ⟨cxOf (L2.CX X.prog X.w) X.prog X.w X.X.K X.mg X.base Ng qg sg g cdg X.A X.stack s H Eg, ⟨f, ρ, Hd⟩⟩ [e1, e2] zs)
    (he : starEach [e1, e2] (cxOf (L2.CX X.prog X.w) X.prog X.w X.X.K X.mg X.base Ng qg sg g cdg X.A X.stack s H Eg).env = (false, eval e1 (cxOf (L2.CX X.prog X.w) X.prog X.w X.X.K X.mg X.base Ng qg sg g cdg X.A X.stack s H Eg).env) :: starEach [e2] (cxOf (L2.CX X.prog X.w) X.prog X.w X.X.K X.mg X.base Ng qg sg g cdg X.A X.stack s H Eg).env)
    (hpl : (backTo p2 (starEach [e2] (cxOf (L2.CX X.prog X.w) X.prog X.w X.X.K X.mg X.base Ng qg sg g cdg X.A X.stack s H Eg).env)).any (·.1) = false) :
    PZ ⟨cxOf (L2.CX X.prog X.w) X.prog X.w X.X.K X.mg X.base Ng qg sg g cdg X.A X.stack s H Eg, ⟨f, ρ, Hd⟩⟩ (.Call (.Name a p1) [e1, e2] [] p2) (zact i (lamOf ze ix iy Γ) zs) := fun W tk => by
  obtain ⟨t, pa, sd⟩ := ha W tk
  refine ⟨_, pe_act2 (E := WE W) (tb := fun E => tZ X.K (fun c d _ H => E c d H) (SlIs X.K) ze) I L hN hx hy hf hfn hfr hbind (fun σZ => passAt tk σZ) hr (fun E A outer s H r => pe_z (hbody E A outer s H r) (takes_of rfl rfl rfl rfl)) pa hNg hv hd hcd he hpl, ?_⟩
  intro F2 σZ HZ Q ΓZ SZ ρZ HdZ rZ slZ af
  unfold zact at af
  split at af
  · rename_i eg
    obtain ⟨v, ev, hvf⟩ := slZ.2 i _ eg
    have hvf : v = .ref f := hvf
    subst hvf
    refine ⟨ev, sd F2 σZ HZ _ ΓZ SZ ρZ HdZ rZ slZ (Aft.imp (aft_bind af) ?_)⟩
    rintro vs HY ⟨ρY, HdY, xs, SY, gY, rY, hxs, aY⟩
    have hcY : HY c' = some (LamX.CodeO c' (X.env.qual ++ "<lambda>")) := rY.hd _ _ (rY.gr.h _ _ hc)
    unfold lamOf at aY
    split at aY
    · rename_i a b
      cases hxs with
      | cons q1 q2 =>
        rename_i v1 vs2
        cases q2 with
        | cons q3 q4 =>
          rename_i v2 vs3
          cases q4
          have gm : Grow X.K.φ.ρ0 X.K.φ.Hd0 ρY HdY := rl.gr.trans rY.gr
          have slY := ((sl.grow rY.gr).set (i := ix) (x := .d a) (v := v1) q1).set (i := iy) (x := .d b) (v := v2) q3
          refine ⟨_, _, rfl, hcY, F2, _, SY, ρY, HdY, rY.other gm, slY, ?_⟩
          have key : ∀ o : Out Sl, Aft ⟨X.X.K, ⟨f, ρ, Hd⟩⟩ F2 W σZ (SlIs ⟨X.X.K, ⟨f, ρ, Hd⟩⟩) Q ρY HdY (o.bind fun r S2 => match r with | .d y => .val (.d y) S2 | _ => .bad) →
              Aft X.K F2 (fun c d _ H => WE W σZ c d H) ((σ.set ix (some v1)).set iy (some v2)) (SlIs X.K) Q ρY HdY o := by
            intro o ho
            cases o with
            | val r S2 =>
              cases r with
              | d y => exact fun v H' ρ' Hd' g' r' hv' => ho v H' ρ' Hd' g' (r'.other (rY.gr.trans g')) hv'
              | _ => exact False.elim ho
            | exc c S2 => exact fun H' ρ' Hd' g' r' => ho H' ρ' Hd' g' (r'.other (rY.gr.trans g'))
            | bad => exact ho
          exact key _ aY
    · exact False.elim aY
  · exact False.elim af
end
/-! ### a def that gets a closure -/
structure CalL (P : Program) (w : World) (K : PySem.W.Frag) (mg : Str → Option Value) (base : Heap) (x : Str) (k : Nat) (a : Str) (i n : Nat) (z : Fn → ZS) : Prop where
  ex : ∃ (g : Addr) (fd : FuncData) (N ps : List Str) (params : Arguments) (body : List Stmt) (scope : Scope), mg x = some (.ref g) ∧ FunD K x x params body scope [] [] g fd ∧ Binds K fd ps [] ∧ FnScope N ps scope ∧ ps.length = 5 ∧ N.length - 5 = n ∧ N[i]? = some a ∧ Vis scope a ∧
    (∀ (lam : Fn) (φ : Fi) (cdv : Value) (A : Around) (outer : List Env) (s : Shared) (H : Hp) (E : XK), Room k (A.deeper (envOfC x scope s.heap.objs.size g cdv)) →
      (∀ (e1 e2 : Expr) (zs : ZA) (p1 p2 : Pos), PZA ⟨cxOf (L2.CX P w) P w K mg base N x scope g cdv A outer s H E, φ⟩ [e1, e2] zs → starEach [e1, e2] (cxOf (L2.CX P w) P w K mg base N x scope g cdv A outer s H E).env = (false, eval e1 (cxOf (L2.CX P w) P w K mg base N x scope g cdv A outer s H E).env) :: starEach [e2] (cxOf (L2.CX P w) P w K mg base N x scope g cdv A outer s H E).env →
        (backTo p2 (starEach [e2] (cxOf (L2.CX P w) P w K mg base N x scope g cdv A outer s H E).env)).any (·.1) = false → PZ ⟨cxOf (L2.CX P w) P w K mg base N x scope g cdv A outer s H E, φ⟩ (.Call (.Name a p1) [e1, e2] [] p2) (zact i lam zs)) →
      PZSs ⟨cxOf (L2.CX P w) P w K mg base N x scope g cdv A outer s H E, φ⟩ body (z lam))
/-- one argument -/
theorem spl_one {X : CxF} {pins : List (Addr × Obj)} {σ : L2.St} {H : Hp} {s : Shared} {e : Expr} {z : ZE} {W : WX} (hz : PZ X e z) (tk : Takes X.X W) {rest : List (Bool × Sem Value)} {R : List Value → Shared → Prop} {f : Sl → Sto → Out Sl} {Fr : Hp} {Γ : Env1} {S : Sto} {ρ : Ads} {Hd : Hp} {Q : VK}
    (I : Inv X.X pins σ H s) (rl : Rel X.K Fr ρ Hd H S) (sl : Slots X.K ρ Hd σ Γ) (af : Aft X.K Fr W σ (SlIs X.K) Q ρ Hd ((z Γ S).bind f))
    (h : ∀ (u : Value) (v : V) (s' : Shared) (H' : Hp) (ρ' : Ads) (Hd' : Hp) (x : Sl) (S' : Sto), Inv X.X pins σ H' s' → RelV v u → Grow ρ Hd ρ' Hd' → Rel X.K Fr ρ' Hd' H' S' → SlIs X.K ρ' Hd' v x → Aft X.K Fr W σ (SlIs X.K) Q ρ' Hd' (f x S') → wpAny (model X.prog X.w) X.A (spliced rest) (fun us s2 => R (u :: us) s2) X.X.xe s') :
    wpAny (model X.prog X.w) X.A (spliced ((false, eval e X.env) :: rest)) R X.X.xe s := by
  obtain ⟨t, p, sd⟩ := hz W tk
  refine Calls.spliced_cons (thn (p.run pins s σ H _ I (sd Fr σ H _ Γ S ρ Hd rl sl (Aft.imp (aft_bind af) fun v H' q => q))) ?_)
  rintro u s1 ⟨v, H1, I1, r1, ρ1, Hd1, x, S1, g1, rl1, hx, a1⟩
  exact h u v s1 H1 ρ1 Hd1 x S1 I1 r1 g1 rl1 hx a1
end Z
end
section
set_option Elab.async false
set_option linter.all false
set_option maxRecDepth 100000
set_option autoImplicit false
set_option maxHeartbeats 1000000
namespace Z
open PySem PySem.Spec PyProof.Rows L2
theorem flat_nd : ∀ {ρ : Ads} {i : Nat} {as : List Addr}, ρ.flatten.Nodup → ρ[i]? = some as → as.Nodup
  | [], _, _, _, h => by simp at h
  | r :: ρ, 0, as, nd, h => by
    have e : r = as := by simpa using h
    rw [List.flatten_cons] at nd
    exact e ▸ (List.nodup_append.mp nd).1
  | r :: ρ, i + 1, as, nd, h => by
    rw [List.flatten_cons] at nd
    exact flat_nd (List.nodup_append.mp nd).2.1 (by simpa using h)
theorem map_inj_of_nodup {α β : Type} {g : α → β} : ∀ {l : List α} {a b : α}, (l.map g).Nodup → a ∈ l → b ∈ l → g a = g b → a = b
  | [], _, _, _, ha, _, _ => by simp at ha
  | x :: l, a, b, nd, ha, hb, e => by
    rw [List.map_cons] at nd
    obtain ⟨n1, n2⟩ := List.nodup_cons.mp nd
    rcases List.mem_cons.mp ha with ea | ma
    · rcases List.mem_cons.mp hb with eb | mb
      · rw [ea, eb]
      · exact absurd (List.mem_map.mpr ⟨b, mb, by rw [← e, ea]⟩) n1
    · rcases List.mem_cons.mp hb with eb | mb
      · exact absurd (List.mem_map.mpr ⟨a, ma, by rw [e, eb]⟩) n1
      · exact map_inj_of_nodup n2 ma mb e
theorem Rel.lam {K : KF} {F : Hp} {ρ : Ads} {Hd H Hd1 H1 : Hp} {S : Sto} {ns : List Int} {p : Str × Option Str} {c' : Addr} (r : Rel K F ρ Hd H S) (h0 : S[0]? = some (.scr ns)) (hp : p ∈ tfOf K) (hl : LamLeft Hd H Hd1 H1 (He.cT K p).2 c' (lamQ p)) (ht : TabOk Hd1 H1 (He.cT K p).2 (lamQ p)) : Same Hd Hd1 ∧ Rel K F ρ Hd1 H1 S := by
  rcases hl with ⟨rfl, rfl⟩ | ⟨ps, more, hP, hc, rfl, rfl⟩
  · exact ⟨Same.refl _, r⟩
  · have hlen : 0 < ρ.length := by rw [r.len]; exact (List.getElem?_eq_some_iff.mp h0).1
    have hr : ρ[0]? = some ρ[0] := List.getElem?_eq_getElem hlen
    generalize ρ[0] = as at hr
    have r1 : Rel K F ρ (upd Hd c' (LamX.CodeO c' (lamQ p))) (upd H c' (LamX.CodeO c' (lamQ p))) S := r.newD hc True.intro
    have hPc : (He.cT K p).2 ≠ c' := ne_of_none hP hc
    have comm : upd (upd H (He.cT K p).2 (.tbl (ps ++ more))) c' (LamX.CodeO c' (lamQ p)) = upd (upd H c' (LamX.CodeO c' (lamQ p))) (He.cT K p).2 (.tbl (ps ++ more)) := by
      funext b
      by_cases q1 : b = c'
      · subst q1
        rw [upd_same, upd_ne (Ne.symm hPc), upd_same]
      · rw [upd_ne q1]
        by_cases q2 : b = (He.cT K p).2
        · rw [q2, upd_same, upd_same]
        · rw [upd_ne q2, upd_ne q2, upd_ne q1]
    rw [comm] at ht ⊢
    refine ⟨same_upd (r.hd.free hc), ?_⟩
    have nd := flat_nd r.nd hr
    obtain ⟨_, a, ea, ha, htb⟩ := r1.box 0 _ _ h0 hr (by simp)
    have hm : (He.cT K p).2 ∈ as := by
      rw [ea]
      exact List.mem_cons_of_mem _ (List.mem_map.mpr ⟨p, hp, rfl⟩)
    have w := r1.write (b' := .scr ns) (o := .tbl (ps ++ more)) h0 hr (by simp) hm ?_
    · rw [set_same h0] at w
      exact w
    · rw [ea] at nd
      obtain ⟨n1, n2⟩ := List.nodup_cons.mp nd
      refine ⟨a, ea, ?_, fun p' hp' => ?_⟩
      · rw [upd_ne]
        · exact ha
        · rintro rfl
          exact n1 (List.mem_map.mpr ⟨p, hp, rfl⟩)
      · by_cases q : (He.cT K p').2 = (He.cT K p).2
        · have e := map_inj_of_nodup n2 hp' hp q
          rw [e]
          exact ht
        · exact (htb p' hp').congr (Same.refl _) (upd_ne q)
section
variable {X : CxF}
/-- x(e1, e2, e3, e4, lambda a, b: ..) -/
theorem pz_lamcall {x a nx ny : Str} {k i n ix iy : Nat} {z : Fn → ZS} {ze z1 z2 z3 z4 : ZE} {e1 e2 e3 e4 : Expr} {params : Arguments} {body : Expr} {scope : Scope} {p lpos pos : Pos} (q : Str × Option Str) (cl : CalL X.prog X.w X.X.K X.mg X.base x (k + 1) a i n z) (hr : Room (k + 2) X.A)
    (hq : q ∈ tfOf X.X.K) (TB : LamX.TabB X.base X.mg (He.cT X.X.K q).1 (He.cT X.X.K q).2) (hcode : X.env.code = .ref (He.cT X.X.K q).1) (hqn : X.env.qual ++ "<lambda>" = lamQ q)
    (L : LamP X.env.scope scope nx ny) (hN : X.N.Nodup) (h1 : PZ X e1 z1) (h2 : PZ X e2 z2) (h3 : PZ X e3 z3) (h4 : PZ X e4 z4)
    (hbody : ∀ (f c' : Addr) (E : XK) (A : Around) (outer : List Env) (s : Shared) (H : Hp), Room k (A.deeper (LamX.lamEnv X.X scope s.heap.objs.size f c')) → PZ ⟨LamX.lamCx X.X A outer s H E scope f c', X.φ⟩ body ze)
    (hbind : ∀ (qn : Str) (cls : List (Str × Addr)) (pm cv ctv u1 u2 : Value), bindArgs (PySem.W.kla_fn "<lambda>" qn params body scope cls pm cv ctv) ⟨[u1, u2], []⟩ = pure [(nx, u1), (ny, u2)])
    (hx : X.N[ix]? = some nx := by rfl) (hy : X.N[iy]? = some ny := by rfl) (hdef : defaultsOf params X.env = ([], []) := by rfl) (hg : Gl X x := by rfl) (hdb : (x == ("__debug__" : Str)) = false := by decide) (hda : (a == ("__debug__" : Str)) = false := by decide) (hdc : (a == ("__classdict__" : Str)) = false := by decide)
    (he : starEach [e1, e2, e3, e4, .Lambda params body scope lpos] X.env = [(false, eval e1 X.env), (false, eval e2 X.env), (false, eval e3 X.env), (false, eval e4 X.env), (false, eval (.Lambda params body scope lpos) X.env)] := by rfl)
    (he2 : starEach [e2, e3, e4, .Lambda params body scope lpos] X.env = [(false, eval e2 X.env), (false, eval e3 X.env), (false, eval e4 X.env), (false, eval (.Lambda params body scope lpos) X.env)] := by rfl) :
    PZ X (.Call (.Name x p) [e1, e2, e3, e4, .Lambda params body scope lpos] [] pos) (zlamcall z n ze ix iy z1 z2 z3 z4) := fun W tk => by
  obtain ⟨g, fd, N, ps, prs, bdy, sc, hm, FD, hb, S, hps, hn, hNi, hvi, hbd⟩ := cl.ex
  refine ⟨tZ X.K W (SlIs X.K) (zlamcall z n ze ix iy z1 z2 z3 z4), ⟨fun pins s σ H Q I hh => ?_⟩, fun F σ H Q Γ S ρ Hd rl sl af => ⟨F, Γ, S, ρ, Hd, rl, sl, af⟩⟩
  obtain ⟨Fr, Γ, S0, ρ, Hd, rl, sl, af⟩ := hh
  obtain ⟨oc, od, dV, kV, doc, pm, an, cdv, ct, osl, rfl, lk, hcd, _, _⟩ := FD.ex
  refine wpAny_Call_Name_kw (ld_glob I hg hm ?_ hdb)
  refine PySem.W.callWith_K (h₀ := X.base) I.ok.mod.kin FD.kp ?_ (by rw [he, he2]) (by rw [he2]; rfl)
  rw [he]
  show wpAny _ _ (spliced [(false, eval e1 X.env), (false, eval e2 X.env), (false, eval e3 X.env), (false, eval e4 X.env), (false, eval (.Lambda params body scope lpos) X.env)]) _ _ s
  unfold zlamcall at af
  refine spl_one h1 tk I rl sl af ?_
  intro u1 v1 s1 H1 ρ1 Hd1 x1 S1 I1 r1 g1 rl1 hx1 af1
  refine spl_one h2 tk I1 rl1 (sl.grow g1) af1 ?_
  intro u2 v2 s2 H2 ρ2 Hd2 x2 S2 I2 r2 g2 rl2 hx2 af2
  refine spl_one h3 tk I2 rl2 (sl.grow (g1.trans g2)) af2 ?_
  intro u3 v3 s3 H3 ρ3 Hd3 x3 S3 I3 r3 g3 rl3 hx3 af3
  refine spl_one h4 tk I3 rl3 (sl.grow ((g1.trans g2).trans g3)) af3 ?_
  intro u4 v4 s4 H4 ρ4 Hd4 x4 S4 I4 r4 g4 rl4 hx4 af4
  have sl4 := sl.grow (((g1.trans g2).trans g3).trans g4)
  split at af4
  · rename_i ns e0
    split at af4
    · rename_i a1 a2 a3 a4
      have hlen : 0 < ρ4.length := by rw [rl4.len]; exact (List.getElem?_eq_some_iff.mp e0).1
      obtain ⟨_, ad, ea, _, htb⟩ := rl4.box 0 _ _ e0 (List.getElem?_eq_getElem hlen) (by simp)
      have tb := htb q hq
      rw [← hqn] at tb
      refine Calls.spliced_cons (lam_make3 I4 TB hcode tb rl4.hd hdef (L.caps I4.ok) ?_)
      intro f c' pm' ctv H5 Hd5 s5 I5 hl ht hf hfn hfr hc
      rw [hqn] at hl ht
      obtain ⟨sm, rl5⟩ := rl4.lam e0 hq hl ht
      refine Calls.spliced_nil ⟨I5.kIn, ?_⟩
      have gr5 : Grow ρ4 Hd4 ρ4 Hd5 := .hd sm
      have sl5 := sl4.grow gr5
      have rlφ : Rel ⟨X.X.K, ⟨f, ρ4, Hd5⟩⟩ Fr ρ4 Hd5 H5 S4 := rl5.other .refl
      have d1 : Dp X.X.K Hd5 v1 a1 := dp_mono (((g2.trans g3).trans g4).trans gr5).h hx1
      have d2 : Dp X.X.K Hd5 v2 a2 := dp_mono ((g3.trans g4).trans gr5).h hx2
      have d3 : Dp X.X.K Hd5 v3 a3 := dp_mono (g4.trans gr5).h hx3
      have d4 : Dp X.X.K Hd5 v4 a4 := dp_mono gr5.h hx4
      have all : SlAll ⟨X.X.K, ⟨f, ρ4, Hd5⟩⟩ ρ4 Hd5 [v1, v2, v3, v4, .ref f] [.d a1, .d a2, .d a3, .d a4, .fn] := .cons d1 (.cons d2 (.cons d3 (.cons d4 (.cons rfl .nil))))
      have vals : Vals [v1, v2, v3, v4, .ref f] [u1, u2, u3, u4, .ref f] := .cons r1 (.cons r2 (.cons r3 (.cons r4 (.cons rfl .nil))))
      have rc : codeAny (model X.prog X.w) X.A (.call (.ref g) ⟨[u1, u2, u3, u4, .ref f], []⟩) (CR (L2.CX X.prog X.w) X.stack X.prog X.w H5 s5 Q (WE W σ)) s5 := by
        have bt := hb s5 [u1, u2, u3, u4, .ref f] I5.kIn (by rw [List.append_nil, hps]; rfl)
        rw [List.append_nil] at bt
        refine LamX.run_ofS (k := k + 1) lk hcd S hr I5.env0 bt vals (by rw [hps]; rfl) fun hr' => ?_
        obtain ⟨t, pt, sd⟩ := hbd (lamOf ze ix iy Γ) ⟨f, ρ4, Hd5⟩ cdv X.A X.stack s5 H5 (WE W σ) hr' (fun y1 y2 zs p1 p2 ha hs1 hs2 =>
          pz_act2 I5 rl5 sl5 L hN hx hy hf hfn hfr hc (fun u1 u2 => hbind _ _ _ _ _ u1 u2) hr' (fun E A outer s H r => hbody f c' E A outer s H r) hNi hvi hda hdc ha hs1 hs2) (passes_of rfl) (fun c d _ H => WE W σ c d H) (takes_of rfl rfl rfl rfl)
        refine ⟨t, pt, sd Fr _ _ H5 _ S4 ρ4 Hd5 rlφ (slots_start all (by simpa using hn)) (aft_def rlφ rfl (fun _ _ _ _ e => e) ?_)⟩
        cases qz : zdef 5 n (z (lamOf ze ix iy Γ)) [.d a1, .d a2, .d a3, .d a4, .fn] S4 with
        | val y Sy =>
          rw [qz] at af4
          exact fun v H' ρ' Hd' g' r' hv' => af4 v H' ρ' Hd' (gr5.trans g') (r'.other (rl5.gr.trans g')) (hv'.other (zdef_fn qz))
        | exc c Sy =>
          rw [qz] at af4
          exact fun H' ρ' Hd' g' r' => af4 H' ρ' Hd' (gr5.trans g') (r'.other (rl5.gr.trans g'))
        | bad =>
          rw [qz] at af4
          exact af4
      refine wpAny_call (codeAny_mono rc ?_)
      intro r s6 hq6
      cases r with
      | error e => exact passAt tk σ pins H5 s5 e s6 I5 hq6
      | ok fl =>
        cases fl with
        | ret u => exact I5.after hq6
        | next => exact False.elim hq6
        | brk => exact False.elim hq6
        | cont => exact False.elim hq6
    · exact False.elim af4
  · exact False.elim af4
end
end Z
end
section
set_option Elab.async false
set_option linter.all false
set_option maxRecDepth 100000
set_option autoImplicit false
set_option maxHeartbeats 1000000
namespace Z
open PySem PySem.Spec PyProof.Rows L2
/-! ### dict(x), x a tuple or list of pairs -/
/-- a tuple that has no dict -/
def PlT (K : PySem.W.Frag) (H : Hp) (a : Addr) (xs : List V) : Prop := (∃ o, H a = some (FT o xs) ∧ o.dict = none) ∨
  ∃ (o : Obj) (its : Array Value) (n : Nat), K.lookup a = some o ∧ o.cls = .type "tuple" ∧ o.dict = none ∧ o.data = .seq its n ∧ its.size ≤ sizeLine ∧ Vals xs its.toList
theorem Rel.plT {K : KF} {F : Hp} {ρ : Ads} {Hd H : Hp} {S : Sto} (r : Rel K F ρ Hd H S) {a : Addr} {xs : List V} (h : SqT K Hd a xs) : PlT K H a xs := by
  rcases h with (h | ⟨o, h⟩) | ⟨o, its, n, hk, hc, hs, hz, hv⟩
  · exact (r.nf _ _ h).elim
  · exact .inl ⟨o, r.hd _ _ h, r.nf _ _ h⟩
  · exact .inr ⟨o, its, n, hk, hc, (r.nk _ _ hk).2 hc, hs, hz, hv⟩
section
variable {X : Cx} {pins : List (Addr × Obj)} {σ : L2.St} {H : Hp} {s : Shared}
theorem plT_at {a : Addr} {xs : List V} (I : Inv X pins σ H s) (h : PlT X.K H a xs) : ∃ its : List Value, Vals xs its ∧ PySem.PlainSeq "tuple" s.heap a its.toArray ∧ xs.length ≤ sizeLine := by
  rcases h with ⟨o, h, hd⟩ | ⟨o, its, n, hk, hc, hd, hs, hz, hv⟩
  · obtain ⟨e, hz, its, rv, o', e', hc, n, hs⟩ := (show ObjOk X.prog X.w H s.heap a (.frz o (.tup xs)) from I.hok a _ h)
    rw [e] at e'
    cases e'
    exact ⟨its, rv, ⟨o, n, e, hc, hd, hs⟩, hz⟩
  · refine ⟨its.toList, hv, ⟨o, n, I.kIn a o hk, hc, hd, by simpa using hs⟩, ?_⟩
    rw [hv.length]
    simpa using hz
theorem prs_of (I : Inv X pins σ H s) : ∀ {ps : List Addr} {kvs : List (Key × V)}, Paired (fun p kv => SqT X.K H p [kV kv.1, kv.2]) ps kvs →
    ∃ (prs : List (Key × Value)) (pp : List (Value × Value)), KV kvs prs ∧ prs.length = ps.length ∧ pp.length = ps.length ∧
      ∀ (j : Nat) (b : Addr), ps[j]? = some b → ∃ k u v, prs[j]? = some (k, v) ∧ pp[j]? = some (u, v) ∧ s.heap.IsTuple b #[u, v] ∧ (mixKind X.prog X.w).is k u = true
  | _, _, .nil => ⟨[], [], .nil, rfl, rfl, fun j b e => by simp at e⟩
  | _, _, .cons (a := p) (b := kv) h t => by
    obtain ⟨prs, pp, r, l1, l2, hh⟩ := prs_of I t
    obtain ⟨its, rv, ht, _⟩ := I.tuple h
    obtain ⟨u, y, rfl, ru, ry⟩ := vals2 rv
    refine ⟨(kv.1, y) :: prs, (u, y) :: pp, .cons ⟨rfl, ry⟩ r, by simp [l1], by simp [l2], fun j b e => ?_⟩
    cases j with
    | zero =>
      have e : p = b := Option.some.inj e
      subst e
      exact ⟨_, _, _, rfl, rfl, ht, kV_is ru⟩
    | succ j =>
      obtain ⟨k, u', v, a1, a2, a3, a4⟩ := hh j b (by simpa using e)
      exact ⟨k, u', v, by simpa using a1, by simpa using a2, a3, a4⟩
theorem call_dictF (hcalm : X.calm = true) : CallR X (.type "dict") (fun xs H Q => ∃ (a : Addr) (ps : List Addr) (kvs : List (Key × V)), xs = [.ref a] ∧ PlT X.K H a (ps.map V.ref) ∧ Paired (fun p kv => SqT X.K H p [kV kv.1, kv.2]) ps kvs ∧
    ∀ p, H p = none → Q (.ref p) (upd H p (.dK (mergeK [] kvs)))) := by
  intro pins s σ H xs us Q I r hh
  obtain ⟨a, ps, kvs, rfl, hq, hp, q⟩ := hh
  obtain ⟨u, rfl, ru⟩ := vals1 r
  cases ru
  obtain ⟨its, rv, pl, hz⟩ := plT_at I hq
  have ei := refs_at rv
  subst ei
  rw [List.length_map] at hz
  obtain ⟨prs, pp, rel, l1, l2, hh⟩ := prs_of I hp
  have arg := PySem.PairArg.tuple (prog := X.prog) (w := X.w) a (ps.map Value.ref).toArray (fun j => (ps[j]?).getD 0) pp
  refine PySem.call_dict_pairs (knd := mixKind X.prog X.w) (kvs := prs) arg (I.ok.hd hcalm) ⟨pl, by simp [l2], fun j k v e => ?_⟩ ⟨by rw [l1, l2], fun j k v e => ?_⟩ (by rw [l2]; exact hz) fun h' tk hd' k => ?_
  · have hj : j < ps.length := by rw [← l2]; exact (List.getElem?_eq_some_iff.mp e).1
    obtain ⟨k', u', v', _, a2, a3, _⟩ := hh j ps[j] (List.getElem?_eq_getElem hj)
    rw [a2] at e
    cases e
    refine ⟨?_, .inl ?_⟩
    · simp [List.getElem?_eq_getElem hj]
    · show s.heap.IsTuple ((ps[j]?).getD 0) _
      rw [List.getElem?_eq_getElem hj]
      exact a3
  · have hj : j < ps.length := by rw [← l2]; exact (List.getElem?_eq_some_iff.mp e).1
    obtain ⟨k', u', v', a1, a2, _, a4⟩ := hh j ps[j] (List.getElem?_eq_getElem hj)
    have e : pp[j]? = some (k, v) := e
    rw [a2] at e
    cases e
    exact ⟨k', a1, a4⟩
  · have hm : (s.heap.objs.size == sysModules) = false := beq_eq_false_iff_ne.mpr (Nat.ne_of_gt I.big)
    have len : (mergeK [] kvs).length ≤ sizeLine := by
      have z := length_mergeK kvs []
      have z2 := rel.length
      rw [List.length_nil] at z
      omega
    refine ⟨.ref s.heap.objs.size, _, I.laid (t' := tk) (o := .dK (mergeK [] kvs)) (fun b o e => k b o (by simp) e) (Nat.le_refl _) ?_, rfl, q _ (I.hok.fresh (Nat.le_refl _))⟩
    exact ⟨len, hm, merged [] prs, KV.merge rel .nil, hd'⟩
end
def pairsOf : List PyData → Option (List (Key × PyData))
  | [] => some []
  | .tuple [k, v] :: r => (match keyOf k, pairsOf r with
    | some k, some r => some ((k, v) :: r)
    | _, _ => none)
  | _ => none
def mergeD (acc more : List (Key × PyData)) : List (Key × PyData) := more.foldl (fun acc kv => putD acc kv.1 kv.2) acc
def bDic : PyData → Option Box
  | .tuple ds => (pairsOf ds).map fun kvs => .dic (mergeD [] kvs)
  | .list ds => (pairsOf ds).map fun kvs => .dic (mergeD [] kvs)
  | _ => none
theorem keyOf_v {K : PySem.W.Frag} {Hd : Hp} {v : V} {d : PyData} {k : Key} (h : Dp K Hd v d) (e : keyOf d = some k) : v = kV k := by
  cases h <;> first | (cases e; rfl) | cases e
theorem pairs_vs {K : PySem.W.Frag} {Hd H : Hp} (s : Same Hd H) : ∀ {vs : List V} {ds : List PyData} {kvs : List (Key × PyData)}, DpAll K Hd vs ds → pairsOf ds = some kvs →
    ∃ (ps : List Addr) (us : List (Key × V)), vs = ps.map V.ref ∧ Paired (fun p kv => SqT K H p [kV kv.1, kv.2]) ps us ∧ KvOk K Hd us kvs
  | _, _, _, .nil, e => by
    cases e
    exact ⟨[], [], rfl, .nil, .nil⟩
  | _, _, _, .cons (v := v) (d := d) h t, e => by
    unfold pairsOf at e
    split at e
    · rename_i z; cases z
    · rename_i k0 v0 r z
      injection z with z1 z2
      subst z1 z2
      split at e
      · rename_i k r' e1 e2
        cases e
        obtain ⟨ps, us, rfl, a2, a3⟩ := pairs_vs s t e2
        cases h with
        | tup hs ha =>
          cases ha with
          | cons h1 t1 =>
            cases t1 with
            | cons h2 t2 =>
              cases t2
              have ek := keyOf_v h1 e1
              subst ek
              exact ⟨_ :: ps, (k, _) :: us, rfl, .cons (same_t s hs) a2, .cons ⟨rfl, h2⟩ a3⟩
      · cases e
    · cases e
theorem kv_merge {K : PySem.W.Frag} {Hd : Hp} : ∀ {us : List (Key × V)} {kvs : List (Key × PyData)} {au : List (Key × V)} {ak : List (Key × PyData)}, KvOk K Hd us kvs → KvOk K Hd au ak → KvOk K Hd (mergeK au us) (mergeD ak kvs)
  | _, _, _, _, .nil, h => h
  | _, _, _, _, .cons (a := p) (b := q) h t, h0 => by
    have e : p.1 = q.1 := h.1
    have := kv_merge t (kv_put (k := p.1) h.2 h0)
    unfold mergeK mergeD at this ⊢
    rw [List.foldl_cons, List.foldl_cons, ← e]
    exact this
section
variable {X : CxF}
theorem cz_dict (hc : X.calm = true := by rfl) : CallZF X (.type "dict") (on1 bDic) := by
  refine ⟨_, CallR.or (call_dictF hc) (call_dictP hc), fun F vs H Q xs c S ρ Hd r h e m => ?_⟩
  obtain ⟨v, d, rfl, w, e⟩ := on1_ok r h e
  cases d with
  | tuple ds =>
    have e : (pairsOf ds).map (fun kvs => Box.dic (mergeD [] kvs)) = some c := e
    cases q : pairsOf ds with
    | none => rw [q] at e; cases e
    | some kvs =>
      rw [q] at e
      cases e
      obtain ⟨a, vs, rfl, h1, h2⟩ := w
      obtain ⟨ps, us, rfl, a2, a3⟩ := pairs_vs r.hd h2 q
      refine .inl ⟨a, ps, us, rfl, r.plT h1, a2, fun p hp => m p _ hp ⟨p, _, rfl, upd_same, ?_⟩⟩
      exact kv_merge a3 .nil
  | list ds =>
    have e : (pairsOf ds).map (fun kvs => Box.dic (mergeD [] kvs)) = some c := e
    cases q : pairsOf ds with
    | none => rw [q] at e; cases e
    | some kvs =>
      rw [q] at e
      cases e
      obtain ⟨a, vs, rfl, h1, h2⟩ := w
      obtain ⟨ps, us, rfl, a2, a3⟩ := pairs_vs r.hd h2 q
      refine .inr ⟨a, ps, us, rfl, h1, a2, fun p hp => m p _ hp ⟨p, _, rfl, upd_same, ?_⟩⟩
      exact kv_merge a3 .nil
  | _ => cases e
end
end Z
end
section
set_option Elab.async false
set_option linter.all false
set_option maxRecDepth 100000
set_option autoImplicit false
set_option maxHeartbeats 1000000
namespace Z
open PySem PySem.Spec PyProof.Rows L2
/-! ### exceptions: raise C() -/
structure ExO (K : PySem.W.Frag) (mg : Str → Option Value) (c : Str) : Prop where
  g : mg c = some (.ref (He.ga K c))
  q : PySem.W.excIn K (He.ga K c) He.veBase "ValueError.__new__" = true
  k : PySem.W.keepIn K (.ref (He.ga K c)) = true
  s : PySem.W.subIn K (.ref (He.ga K c)) (.type "BaseException") = some true
  t : PySem.W.typeIn K (.ref (He.ga K c)) = some (.type "type")
theorem exO_of {K : PySem.W.Frag} {mg : Str → Option Value} {c : Str} (g : mg c = some (.ref (He.ga K c))) (h : (He.Fa.exc c).ok K = true) : ExO K mg c := by
  obtain ⟨h1, h2, h3, h4⟩ := He.exc_ok h
  exact ⟨g, h1, h2, h3, h4⟩
section
variable {X : Cx}
theorem pmk_own0 {c : Str} {p pos : Pos} (O : ExO X.K X.mg c) (hg : Gl X c) (hdb : (c == ("__debug__" : Str)) = false) : PMk X (.Call (.Name c p) [] [] pos) (fun _ H Q => Q (.ref (He.ga X.K c)) none H) := by
  intro pins s σ H Q I hh
  refine wpAny_Call_Name_kw (ld_glob I hg O.g ?_ hdb)
  refine PySem.W.callWith_K0 I.kIn O.k ?_
  show wpAny _ _ (call (.ref (He.ga X.K c)) []) _ _ _
  obtain ⟨bm, N, nm, qn, bs, hdct, sn, sub, ab, col, dd, k0, k1, k2, k3, k5, mN, hC, hN, hni, T⟩ := exc_obj I.kIn O.q
  refine wpAny_call_exc_subT PySem.F.excBase_ValueError T hC hN hni (fun h' e made => ?_) (Nat.zero_le _)
  exact mk_of I made (raises_own O.s O.t) hh (I.hok.gone made.new)
end
def zraise (c : Str) : ZS := fun Γ S => .ex c Γ S
section
variable {X : CxF}
theorem pzs_raise (c : Str) {p pos pos' : Pos} (O : ExO X.X.K X.mg c) (hc : X.calm = true := by rfl) (hg : Gl X c := by rfl) (hdb : (c == ("__debug__" : Str)) = false := by decide) : PZS X (.Raise (some (.Call (.Name c p) [] [] pos)) none pos') (zraise c) := fun _ W tk =>
  ⟨_, ps_raise hc tk (pmk_own0 O hg hdb), fun F D σ H Γ S ρ Hd rl sl af => af σ H ρ Hd .refl rl sl⟩
end
/-! ### try -/
def isSub (c x : Str) : Bool := c == x || x == "DrumError"
def zcatch (c : Str) : List (Str × ZS) → ZS
  | [] => fun Γ S => .ex c Γ S
  | (x, z) :: r => fun Γ S => if isSub c x = true then z Γ S else zcatch c r Γ S
def ztry (cs : List Str) (zb : ZS) (hs : List (Str × ZS)) : ZS := fun Γ S => match zb Γ S with
  | .ex c Γ' S' => if cs.contains c = true then zcatch c hs Γ' S' else .bad
  | o => o
def tZS (K : KF) (W : WX) (z : ZS) : TS := fun D σ H => ∃ F Γ S ρ Hd, Rel K F ρ Hd H S ∧ Slots K ρ Hd σ Γ ∧ AftS K F W D ρ Hd (z Γ S)
theorem pss_z {X : CxF} {st : List Stmt} {z : ZS} {W : WX} (h : PZSs X st z) (hp : PassesOwn (model X.prog X.w) X.A X.env X.xe) (tk : Takes X W) : PSs X st (tZS X.K W z) := by
  obtain ⟨t, p, s⟩ := h hp W tk
  exact ⟨fun pins sh σ H D I ⟨F, Γ, S, ρ, Hd, r, sl, a⟩ => p.run pins sh σ H D I (s F D σ H Γ S ρ Hd r sl a)⟩
abbrev noW : WX := fun _ _ _ _ => False
def hdL (K : KF) (hs : List (Str × ZS)) : List (Value × (Addr → Value → Option Addr → TS)) := hs.map fun h => (.ref (He.ga K h.1), fun _ _ _ => tZS K noW h.2)
/-- the clauses -/
def PZH (X : CxF) (hds : List ExceptHandler) (hs : List (Str × ZS)) : Prop := HdsOk X hds (hdL X.K hs)
section
variable {X : CxF}
theorem pzh_nil : PZH X [] [] := .nil
theorem pzh_cons {x : Str} {z : ZS} {b₀ : Stmt} {suite : List Stmt} {np pos' : Pos} {hds : List ExceptHandler} {hs : List (Str × ZS)} (hm : X.mg x = some (.ref (He.ga X.X.K x)))
    (hb : ∀ (a : Addr) (oe : Obj) (pn : List (Addr × Obj)), PZSs ⟨X.X.suite a ((a, oe) :: pn), X.φ⟩ (b₀ :: suite) z) (r : PZH X hds hs) (hg : Gl X x := by rfl) (hdb : (x == ("__debug__" : Str)) = false := by decide) :
    PZH X (.ExceptHandler (some (.Name x np)) none (b₀ :: suite) pos' :: hds) ((x, z) :: hs) :=
  .cons ⟨hg, hdb, .inl hm⟩ (fun a oe cls d pn _ _ => pss_z (hb a oe pn) PassesOwn.never takes_none5) r
theorem aft_catch {K : KF} {F : Hp} {W : WX} {D : Ends} {ρ ρ' : Ads} {Hd Hd' : Hp} {c : Str} {Γ : Env1} {S : Sto} {σ : L2.St} {H : Hp} : ∀ {hs : List (Str × ZS)}, (∀ h ∈ hs, PySem.W.exmOne K.K (.ref (He.ga K c)) (.ref (He.ga K h.1)) = some (isSub c h.1)) →
    AftS K F W D ρ Hd (zcatch c hs Γ S) → (∀ h ∈ hs, ∀ Γ S, AftS K F W D ρ Hd (h.2 Γ S) → AftS K F noW D ρ Hd (h.2 Γ S)) → Grow ρ Hd ρ' Hd' → Rel K F ρ' Hd' H S → Slots K ρ' Hd' σ Γ → wMany K.K W D (hdL K hs) (.ref (He.ga K c)) none σ H
  | [], _, af, _, g, r, sl => af σ H ρ' Hd' g r sl
  | (x, z) :: hs, hx, af, hn, g, r, sl => by
    refine ⟨isSub c x, hx (x, z) List.mem_cons_self, fun e a _ => ?_, fun e => ?_⟩
    · have af : AftS K F W D ρ Hd (if isSub c x = true then z Γ S else zcatch c hs Γ S) := af
      rw [if_pos e] at af
      exact ⟨F, Γ, S, ρ', Hd', r, sl, AftS.grow g (hn (x, z) List.mem_cons_self Γ S af)⟩
    · have af : AftS K F W D ρ Hd (if isSub c x = true then z Γ S else zcatch c hs Γ S) := af
      rw [if_neg (by rw [e]; exact Bool.false_ne_true)] at af
      exact aft_catch (fun h hh => hx h (List.mem_cons_of_mem _ hh)) af (fun h hh => hn h (List.mem_cons_of_mem _ hh)) g r sl
/-- a suite that raises nothing -/
def Quiet (z : ZS) : Prop := ∀ Γ S c Γ' S', z Γ S ≠ .ex c Γ' S'
theorem Quiet.aft {z : ZS} (q : Quiet z) {K : KF} {F : Hp} {W : WX} {D : Ends} {ρ : Ads} {Hd : Hp} {Γ : Env1} {S : Sto} (h : AftS K F W D ρ Hd (z Γ S)) : AftS K F noW D ρ Hd (z Γ S) := by
  cases e : z Γ S with
  | ex c Γ' S' => exact absurd e (q Γ S c Γ' S')
  | nx _ _ => rw [e] at h; exact h
  | rt _ _ => rw [e] at h; exact h
  | bk _ _ => rw [e] at h; exact h
  | ct _ _ => rw [e] at h; exact h
  | bad => rw [e] at h; exact h
theorem pzs_try (cs : List Str) {body : List Stmt} {h₀ : ExceptHandler} {hds : List ExceptHandler} {hs : List (Str × ZS)} {zb : ZS} {pos : Pos} (hb : ∀ (pn : List (Addr × Obj)) (xe : Value → Shared → Prop), PZSs ⟨X.X.tr pn xe, X.φ⟩ body zb) (hh : PZH X (h₀ :: hds) hs)
    (hx : ∀ c ∈ cs, ∀ h ∈ hs, PySem.W.exmOne X.X.K (.ref (He.ga X.X.K c)) (.ref (He.ga X.X.K h.1)) = some (isSub c h.1)) (hq : ∀ h ∈ hs, Quiet h.2) (h1 : X.X.stack = X.X.env :: X.X.outer := by rfl) (h2 : X.X.env.frame = some X.X.env.locals := by rfl) :
    PZS X (.Try body (h₀ :: hds) [] [] pos) (ztry cs zb hs) := fun _ W tk => by
  refine ⟨_, ps_try_many (Wout := W) (tb := fun W => tZS X.K W zb) h1 h2 tk (fun W pn xe tk hp => pss_z (X := ⟨X.X.tr pn xe, X.φ⟩) (hb pn xe) hp tk) hh, fun F D σ H Γ S ρ Hd rl sl af => ⟨F, Γ, S, ρ, Hd, rl, sl, ?_⟩⟩
  unfold ztry at af
  cases e : zb Γ S with
  | ex c Γ' S' =>
    rw [e] at af
    have af : AftS X.K F W D ρ Hd (if cs.contains c = true then zcatch c hs Γ' S' else .bad) := af
    split at af
    · rename_i hc
      exact fun σ' H' ρ' Hd' g r sl' => aft_catch (fun h hh => hx c (List.contains_iff_mem.mp hc) h hh) af (fun h hh Γ S a => (hq h hh).aft a) g r sl'
    · exact False.elim af
  | nx _ _ => rw [e] at af; exact af
  | rt _ _ => rw [e] at af; exact af
  | bk _ _ => rw [e] at af; exact af
  | ct _ _ => rw [e] at af; exact af
  | bad => rw [e] at af; exact af
theorem quiet_set {i : Nat} {x : PyData} : Quiet (zset i (zc x)) := fun Γ S c Γ' S' e => by cases e
theorem quiet_ret {x : PyData} : Quiet (zret (zc x)) := fun Γ S c Γ' S' e => by cases e
end
end Z
end
section
set_option Elab.async false
set_option linter.all false
set_option maxRecDepth 100000
set_option autoImplicit false
set_option maxHeartbeats 1000000
namespace Z
open PySem PySem.Spec PyProof.Rows L2
/-! ### instances: a class with data fields and one dict -/
def insAt (S : Sto) (C : Str) : Sl → Option (Nat × List (Str × PyData) × Str × List (Key × PyData))
  | .box n => (match S[n]? with
    | some (.ins C' fs g kvs) => if C' = C then some (n, fs, g, kvs) else none
    | _ => none)
  | _ => none
theorem ins_of {K : KF} {F : Hp} {ρ : Ads} {Hd H : Hp} {S : Sto} {C : Str} {v : V} {x : Sl} {n : Nat} {fs : List (Str × PyData)} {g : Str} {kvs : List (Key × PyData)} (r : Rel K F ρ Hd H S) (h : SlIs K ρ Hd v x) (e : insAt S C x = some (n, fs, g, kvs)) :
    x = .box n ∧ S[n]? = some (.ins C fs g kvs) ∧ ∃ a b dx gs us, v = .ref a ∧ ρ[n]? = some [a, b] ∧ H a = some (.ins (He.ga K C) dx gs) ∧ gs.length ≤ 100 ∧ (∀ f x, fs.lookup f = some x → ∃ v, gs.lookup f = some v ∧ Dp K Hd v x) ∧ gs.lookup g = some (.ref b) ∧ H b = some (.dK us) ∧ KvOk K Hd us kvs ∧
      ∀ f, f ≠ g → fs.lookup f = none → gs.lookup f = none := by
  cases x with
  | box m =>
    unfold insAt at e
    dsimp only at e
    split at e
    · rename_i C' fs' g' kvs' h1
      split at e
      · rename_i hC
        cases e
        subst hC
        obtain ⟨a, as, rfl, h2⟩ := h
        obtain ⟨_, a', b, dx, gs, us, e1, k1, k2, k3, k4, k5, k6, k7⟩ := r.box _ _ _ h1 h2 (by simp)
        obtain ⟨e2, e3⟩ := List.cons.inj e1
        subst e2
        refine ⟨rfl, h1, a, b, dx, gs, us, rfl, ?_, k1, k2, k3, k4, k5, k6, k7⟩
        rw [h2, e1]
      · cases e
    · cases e
  | _ => cases e
structure ClsOk (K : PySem.W.Frag) (C : Str) (fl : List Str) : Prop where
  cls : Cls K (He.ga K C)
  no : ∀ f ∈ fl, NoAttr K (He.ga K C) f
def zattr (C f : Str) (z : ZE) : ZE := fun Γ S => (z Γ S).bind fun x S1 => match insAt S1 C x with
  | some (n, fs, g, _) => if f = g then .val (.sub n) S1 else (match fs.lookup f with
    | some d => .val (.d d) S1
    | none => .bad)
  | none => .bad
section
variable {X : CxF} {e o : Expr} {z zo zv : ZE} {pos : Pos}
theorem pz_attr {C f : Str} {fl : List Str} (c : ClsOk X.X.K C fl) (hf : f ∈ fl) (h : PZ X e z) (hb : attributeBase e f X.env (eval e X.env) = eval e X.env := by rfl) : PZ X (.Attribute e f pos) (zattr C f z) := fun W tk => by
  obtain ⟨t, p, s⟩ := h W tk
  refine ⟨_, pe_fld p hb, fun F σ H Q Γ S ρ Hd rl sl af => ?_⟩
  refine s F σ H _ Γ S ρ Hd rl sl (Aft.imp (aft_bind af) ?_)
  rintro x H1 ⟨ρ1, Hd1, x', S1, g1, r1, hx, af1⟩
  split at af1
  · rename_i n fs g kvs ei
    obtain ⟨rfl, h1, a, b, dx, gs, us, rfl, h2, k1, k2, k3, k4, k5, k6, k7⟩ := ins_of r1 hx ei
    split at af1
    · rename_i eg
      subst eg
      exact ⟨a, _, dx, gs, .ref b, rfl, k1, c.cls, c.no f hf, k4, af1 _ H1 ρ1 Hd1 .refl r1 ⟨a, b, [], rfl, h2⟩⟩
    · split at af1
      · rename_i d ed
        obtain ⟨v, ev, dv⟩ := k3 f d ed
        exact ⟨a, _, dx, gs, v, rfl, k1, c.cls, c.no f hf, ev, af1 _ H1 ρ1 Hd1 .refl r1 dv⟩
      · exact False.elim af1
  · exact False.elim af1
end
def putA (f : Str) (d : PyData) : List (Str × PyData) → List (Str × PyData)
  | [] => []
  | (g, x) :: r => if g = f then (g, d) :: r else (g, x) :: putA f d r
theorem putA_look {f g : Str} {d : PyData} : ∀ {fs : List (Str × PyData)}, (putA f d fs).lookup g = if g = f then (fs.lookup g).map (fun _ => d) else fs.lookup g
  | [] => by simp [putA]
  | (h, x) :: r => by
    unfold putA
    by_cases q : h = f
    · rw [if_pos q]
      by_cases q2 : g = f
      · rw [if_pos q2, q2, q]
        simp [List.lookup]
      · rw [if_neg q2]
        have : (g == h) = false := by rw [beq_eq_false_iff_ne]; intro z; exact q2 (z.trans q)
        simp [List.lookup, this]
    · rw [if_neg q]
      by_cases q3 : g = h
      · subst q3
        rw [if_neg q]
        simp [List.lookup]
      · have : (g == h) = false := by rw [beq_eq_false_iff_ne]; exact q3
        simp only [List.lookup, this]
        exact putA_look
theorem putF_len {f : Str} {v : V} : ∀ {gs : List (Str × V)} {u : V}, gs.lookup f = some u → (putF f v gs).length = gs.length
  | [], _, h => by cases h
  | (h, x) :: r, u, e => by
    unfold putF
    by_cases q : h = f
    · rw [if_pos q]
      rfl
    · rw [if_neg q]
      have : (f == h) = false := by rw [beq_eq_false_iff_ne]; exact Ne.symm q
      simp only [List.lookup, this] at e
      rw [List.length_cons, List.length_cons, putF_len e]
def zaset (C f : Str) (zo zv : ZE) : ZS := fun Γ S => (zv Γ S).st Γ fun y S1 => (zo Γ S1).st Γ fun x S2 => match y, insAt S2 C x with
  | .d d, some (n, fs, g, kvs) => if f ≠ g ∧ (fs.lookup f).isSome = true then .nx Γ (S2.set n (.ins C (putA f d fs) g kvs)) else .bad
  | _, _ => .bad
section
variable {X : CxF} {e o value : Expr} {z zo zv : ZE} {pos pos' : Pos}
theorem pzs_aset {C f : Str} {fl : List Str} (c : ClsOk X.X.K C fl) (hf : f ∈ fl) (ho : PZ X o zo) (hv : PZ X value zv) (hs : swapsWith value (some (.Attribute o f pos')) pos.line X.env = pure false := by rfl) : PZS X (.Assign [.Attribute o f pos'] value pos) (zaset C f zo zv) := fun _ W tk => by
  obtain ⟨t, p, s⟩ := ho W tk
  obtain ⟨t', p', s'⟩ := hv W tk
  refine ⟨_, ps_fld p p' hs, fun F D σ H Γ S ρ Hd rl sl af => ?_⟩
  refine s' F σ H _ Γ S ρ Hd rl sl (Aft.imp (aft_st sl af) ?_)
  rintro y H1 ⟨ρ1, Hd1, y', S1, g1, r1, hy, af1⟩
  refine s F σ H1 _ Γ S1 ρ1 Hd1 r1 (sl.grow g1) (Aft.imp (aft_st (sl.grow g1) af1) ?_)
  rintro x H2 ⟨ρ2, Hd2, x', S2, g2, r2, hx, af2⟩
  split at af2
  · rename_i d n fs g kvs ei
    split at af2
    · rename_i hfg
      obtain ⟨rfl, h1, a, b, dx, gs, us, rfl, h2, k1, k2, k3, k4, k5, k6, k7⟩ := ins_of r2 hx ei
      obtain ⟨d0, hd0⟩ := Option.isSome_iff_exists.mp hfg.2
      obtain ⟨v0, ev0, _⟩ := k3 f d0 hd0
      have ll := putF_len (v := y) ev0
      refine ⟨a, _, dx, gs, rfl, k1, c.cls, c.no f hf, by omega, ?_⟩
      have nab : b ≠ a := ne_of k5 k1 (by intro z; cases z)
      refine af2 σ _ ρ2 Hd2 .refl (r2.write h1 h2 (by simp) (by simp) ⟨a, b, dx, _, us, rfl, upd_same, by omega, fun f' x' q => ?_, ?_, by rw [upd_ne nab]; exact k5, k6, fun f' n1 n2 => ?_⟩) ((sl.grow g1).grow g2)
      · rw [putA_look] at q
        rw [lookup_putF]
        split at q
        · rename_i ef
          rw [if_pos ef]
          cases q1 : fs.lookup f' with
          | none => rw [q1] at q; cases q
          | some z =>
            rw [q1] at q
            cases q
            exact ⟨y, rfl, dp_mono g2.h hy⟩
        · rename_i ef
          rw [if_neg ef]
          exact k3 f' x' q
      · rw [lookup_putF, if_neg (Ne.symm hfg.1)]
        exact k4
      · rw [putA_look] at n2
        rw [lookup_putF]
        split at n2
        · rename_i ef
          rw [ef, hd0] at n2
          cases n2
        · rename_i ef
          rw [if_neg ef]
          exact k7 f' n1 n2
    · exact False.elim af2
  · exact False.elim af2
end
/-! ### methods -/
structure CalM (P : Program) (w : World) (K : PySem.W.Frag) (mg : Str → Option Value) (base : Heap) (C m : Str) (k n : Nat) (F : Fn) : Prop where
  ex : ∃ (f : Addr) (fd : FuncData) (ps : List Str), Meth K (He.ga K C) m f ∧ Binds K fd ps [] ∧ ps.length = n ∧ FnOk P w K mg base (L2.CX P w) k f fd ps (spOf K n F)
def noExc (o : Out Sl) : Out Sl := match o with
  | .val x S => .val x S
  | _ => .bad
def zmeth (C m : Str) (n : Nat) (F : Fn) (zo : ZE) (za : ZA) : ZE := fun Γ S => (zo Γ S).bind fun x S1 => match insAt S1 C x with
  | some (_, fs, g, _) => if m ≠ g ∧ fs.lookup m = none then (za Γ S1).bind fun xs S2 => if xs.length + 1 = n then noExc (F (x :: xs) S2) else .bad else .bad
  | none => .bad
theorem no_ex0 {P : Program} {w : World} {X : Cx} (hP : X.prog = P) : Passes (L2.CX P w) X (fun _ _ _ => False) := fun _ _ _ _ _ _ _ h => by
  obtain ⟨_, _, _, _, _, _, _, _, _, _, _, _, z⟩ := h
  exact z.elim
section
variable {X : CxF} {o e : Expr} {es : List Expr} {zo : ZE} {za : ZA} {pos apos : Pos}
theorem snd_meth {W : WX} {C m : Str} {n : Nat} {F : Fn} {t : TE} {ta : TA} {f : Addr} {fd : FuncData} {ps : List Str} (s : Snd X.K W (SlIs X.K) t zo) (sa : Snd X.K W (SlAll X.K) ta za) :
    Snd X.K W (SlIs X.K) (tMeth (He.ga X.X.K C) m (spOf X.X.K n F) [] (fun _ _ _ => False) t ta) (zmeth C m n F zo za) := by
  intro Fr σ H Q Γ S ρ Hd rl sl af
  refine s Fr σ H _ Γ S ρ Hd rl sl (Aft.imp (aft_bind af) ?_)
  rintro x H1 ⟨ρ1, Hd1, x', S1, g1, r1, hx, af1⟩
  split at af1
  · rename_i nn fs g kvs ei
    split at af1
    · rename_i hm
      obtain ⟨ebox, h1, a, b, dx, gs, us, rfl, h2, k1, k2, k3, k4, k5, k6, k7⟩ := ins_of r1 hx ei
      refine ⟨a, dx, gs, rfl, k1, k7 m hm.1 hm.2, sa Fr σ H1 _ Γ S1 ρ1 Hd1 r1 (sl.grow g1) (Aft.imp (aft_bind af1) ?_)⟩
      rintro vs H2 ⟨ρ2, Hd2, xs, S2, g2, r2, hxs, af2⟩
      split at af2
      · rename_i hn
        have hlen := sl_len hxs
        refine ⟨by simp; omega, X.φ, Fr, ρ2, Hd2, S2, x' :: xs, r2, .cons (hx.grow g2) (by rw [List.append_nil]; exact hxs), ?_⟩
        cases q : F (x' :: xs) S2 with
        | val y S3 => rw [q] at af2; exact af2
        | exc c S3 => rw [q] at af2; exact False.elim af2
        | bad => rw [q] at af2; exact False.elim af2
      · exact False.elim af2
    · exact False.elim af1
  · exact False.elim af1
theorem pz_meth {C m : Str} {k n : Nat} {F : Fn} {fl : List Str} {pl : Sem Bool} (c : ClsOk X.X.K C fl) (M : CalM X.prog X.w X.X.K X.mg X.base C m k n F) (hr : Room k X.A) (ho : PZ X o zo) (ha : PZA X (e :: es) za)
    (hst : starEach (e :: es) X.env = (false, eval e X.env) :: starEach es X.env := by rfl) (hpl : (backTo pos (starEach es X.env)).any (·.1) = false := by rfl)
    (ht : eval (.Call (.Attribute o m apos) (e :: es) [] pos) X.env = (do
      let ov ← eval o X.env
      standAt apos.atName
      let (f, first) ← holding [ov] (getMethod ov m pl)
      callWith pos f first (backTo pos (starEach (e :: es) X.env)) (backToKw pos (keywordEach [] X.env))) := by rfl) : PZ X (.Call (.Attribute o m apos) (e :: es) [] pos) (zmeth C m n F zo za) := fun W tk => by
  obtain ⟨f, fd, ps, hm, hb, hn, FO⟩ := M.ex
  obtain ⟨t, p, s⟩ := ho W tk
  obtain ⟨ta, pa, sa⟩ := ha W tk
  exact ⟨_, pe_meth (pl := pl) p c.cls hm FO hr hb .nil (no_ex0 rfl) pa hst hpl ht, snd_meth (f := f) (fd := fd) (ps := ps) s sa⟩
theorem pz_meth0 {C m : Str} {k n : Nat} {F : Fn} {fl : List Str} {pl : Sem Bool} (c : ClsOk X.X.K C fl) (M : CalM X.prog X.w X.X.K X.mg X.base C m k n F) (hr : Room k X.A) (ho : PZ X o zo)
    (ht : eval (.Call (.Attribute o m apos) [] [] pos) X.env = (do
      let ov ← eval o X.env
      standAt apos.atName
      let (f, first) ← holding [ov] (getMethod ov m pl)
      callWith pos f first (backTo pos (starEach [] X.env)) (backToKw pos (keywordEach [] X.env))) := by rfl) : PZ X (.Call (.Attribute o m apos) [] [] pos) (zmeth C m n F zo zanil) := fun W tk => by
  obtain ⟨f, fd, ps, hm, hb, hn, FO⟩ := M.ex
  obtain ⟨t, p, s⟩ := ho W tk
  exact ⟨_, pe_meth0 (pl := pl) p c.cls hm FO hr hb .nil (no_ex0 rfl) ht, snd_meth (f := f) (fd := fd) (ps := ps) s (fun _ _ H _ _ _ ρ Hd r _ a => a [] H ρ Hd .refl r .nil)⟩
end
end Z
end
section
set_option Elab.async false
set_option linter.all false
set_option maxRecDepth 100000
set_option autoImplicit false
set_option maxHeartbeats 1000000
namespace Z
open PySem PySem.Spec PyProof.Rows L2
/-! ### C(..): an instance is made -/
section
variable {K : KF} {F : Hp} {ρ : Ads} {Hd H : Hp} {S : Sto}
/-- an object that nothing is said of is written -/
theorem Rel.put (r : Rel K F ρ Hd H S) {x : Addr} {o : HO} (h1 : x ∉ ρ.flatten) (h2 : F x = none) (h3 : Hd x = none) : Rel K F ρ Hd (upd H x o) S := by
  refine ⟨r.gr, fun c u e => ?_, fun c u e => ?_, r.dj, r.nf, r.nk, r.len, r.nd, fun c hc => ?_, fun i b as g1 g2 g3 => ⟨(r.box i b as g1 g2 g3).1, (r.box i b as g1 g2 g3).2.congr (Same.refl _) fun c hc => upd_ne ?_⟩⟩
  · rw [upd_ne (ne_of_none e h3)]
    exact r.hd _ _ e
  · rw [upd_ne (ne_of_none e h2)]
    exact r.fr _ _ e
  · rw [upd_ne (fun z => h1 (by rw [← z]; exact hc))]
    exact r.trk c hc
  · exact fun z => h1 (by rw [← z]; exact mem_flat g2 hc)
theorem Rel.new2 (r : Rel K F ρ Hd H S) {x p : Addr} {b : Box} (hx : x ∉ ρ.flatten) (hp : p ∉ ρ.flatten) (xp : x ≠ p) (fx : F x = none) (fp : F p = none) (dx : Hd x = none) (dp : Hd p = none) (tx : H x ≠ none) (tp : H p ≠ none) (ok : BoxOk K Hd H [x, p] b) : Rel K F (ρ ++ [[x, p]]) Hd H (S ++ [b]) := by
  refine ⟨r.gr.trans ⟨Same.refl _, [[x, p]], rfl⟩, r.hd, r.fr, r.dj, r.nf, r.nk, by simp [r.len], ?_, fun a ha => ?_, fun i c as h1 h2 h3 => ?_⟩
  · rw [List.flatten_append]
    refine List.nodup_append.mpr ⟨r.nd, by simp [xp], fun a ha b hb => ?_⟩
    have e : b = x ∨ b = p := by simpa using hb
    rintro rfl
    rcases e with e | e
    · exact hx (e ▸ ha)
    · exact hp (e ▸ ha)
  · rw [List.flatten_append] at ha
    rcases List.mem_append.mp ha with h | h
    · exact r.trk a h
    · have e : a = x ∨ a = p := by simpa using h
      rcases e with e | e
      · rw [e]; exact tx
      · rw [e]; exact tp
  · by_cases hi : i < S.length
    · rw [List.getElem?_append_left hi] at h1
      rw [List.getElem?_append_left (by rw [r.len]; exact hi)] at h2
      exact r.box i c as h1 h2 h3
    · have e : i = S.length := by
        have := (List.getElem?_eq_some_iff.mp h1).1
        rw [List.length_append, List.length_singleton] at this
        omega
      subst e
      have e1 : b = c := by simpa using h1
      have e2 : [x, p] = as := by
        rw [← r.len] at h2
        simpa using h2
      subst e1 e2
      refine ⟨fun a ha => ?_, ok⟩
      have e : a = x ∨ a = p := by simpa using ha
      rcases e with e | e
      · rw [e]; exact ⟨fx, dx⟩
      · rw [e]; exact ⟨fp, dp⟩
end
abbrev Ini := List Sl → Option (List (Str × PyData) × List (Key × PyData))
def spIni (K : PySem.W.Frag) (C g : Str) (n : Nat) (ini : Ini) : Sp := fun vs H Q _ => vs.length = n ∧ ∃ φ Fr ρ Hd S x dx vs' xs fs kvs, vs = .ref x :: vs' ∧ Rel ⟨K, φ⟩ Fr ρ Hd H S ∧ H x = some (.ins (He.ga K C) dx []) ∧ x ∉ ρ.flatten ∧ Fr x = none ∧ Hd x = none ∧ SlAll ⟨K, φ⟩ ρ Hd vs' xs ∧
  ini xs = some (fs, kvs) ∧ ∀ H' p, Rel ⟨K, φ⟩ Fr (ρ ++ [[x, p]]) Hd H' (S ++ [.ins C fs g kvs]) → Q .non H'
structure CalI (P : Program) (w : World) (K : PySem.W.Frag) (mg : Str → Option Value) (base : Heap) (C g : Str) (k n : Nat) (ini : Ini) : Prop where
  ex : ∃ (f : Addr) (fd : FuncData) (ps : List Str), mg C = some (.ref (He.ga K C)) ∧ Mk K (He.ga K C) f ∧ Binds K fd ps [] ∧ ps.length = n ∧ FnOk P w K mg base (L2.CX P w) k f fd ps (spIni K C g n ini)
def zmake (C g : Str) (n : Nat) (ini : Ini) (za : ZA) : ZE := fun Γ S => (za Γ S).bind fun xs S1 => if xs.length + 1 = n then (match ini xs with
  | some (fs, kvs) => .val (.box S1.length) (S1 ++ [.ins C fs g kvs])
  | none => .bad) else .bad
section
variable {X : CxF} {e : Expr} {es : List Expr} {za : ZA} {p pos : Pos}
theorem pz_make {C g : Str} {k n : Nat} {ini : Ini} (c : CalI X.prog X.w X.X.K X.mg X.base C g k n ini) (hr : Room (k + 1) X.A) (ha : PZA X (e :: es) za) (hg : Gl X C := by rfl) (hdb : (C == ("__debug__" : Str)) = false := by decide)
    (he : starEach (e :: es) X.env = (false, eval e X.env) :: starEach es X.env := by rfl) (hpl : (backTo pos (starEach es X.env)).any (·.1) = false := by rfl) : PZ X (.Call (.Name C p) (e :: es) [] pos) (zmake C g n ini za) := fun W tk => by
  obtain ⟨f, fd, ps, hm, M, hb, hn, FO⟩ := c.ex
  obtain ⟨t, pa, s⟩ := ha W tk
  refine ⟨_, pe_make M FO hr hg hm hb .nil (no_ex0 rfl) pa hdb he hpl, fun Fr σ H Q Γ S ρ Hd rl sl af => ?_⟩
  refine s Fr σ H _ Γ S ρ Hd rl sl (Aft.imp (aft_bind af) ?_)
  rintro vs H1 ⟨ρ1, Hd1, xs, S1, g1, r1, hx, af1⟩
  split at af1
  · rename_i hl
    split at af1
    · rename_i fs kvs ei
      intro x dx nx ndx dxx
      have rj := (r1.junk (o := .own x) ndx).junk (p := x) (o := .ins (He.ga X.X.K C) dx []) (by rw [upd_ne (Ne.symm dxx)]; exact nx)
      have lx := sl_len hx
      refine ⟨by simp; omega, X.φ, Fr, ρ1, Hd1, S1, x, dx, vs, xs, fs, kvs, by rw [List.append_nil], rj, upd_same, fun z => r1.ne_new nx z rfl, r1.fr_free nx, r1.hd.free nx, hx, ei, fun H' q r2 => ⟨rfl, ?_⟩⟩
      exact af1 _ H' _ Hd1 ⟨Same.refl _, [[x, q]], rfl⟩ r2 ⟨x, [q], rfl, by rw [← r1.len]; simp⟩
    · exact False.elim af1
  · exact False.elim af1
end
theorem sl1 {K : KF} {ρ : Ads} {Hd : Hp} {vs : List V} {x : Sl} (h : SlAll K ρ Hd vs [x]) : ∃ v, vs = [v] ∧ SlIs K ρ Hd v x := by
  cases h with
  | cons a b => cases b; exact ⟨_, rfl, a⟩
theorem sl3 {K : KF} {ρ : Ads} {Hd : Hp} {vs : List V} {x y z : Sl} (h : SlAll K ρ Hd vs [x, y, z]) : ∃ u v w, vs = [u, v, w] ∧ SlIs K ρ Hd u x ∧ SlIs K ρ Hd v y ∧ SlIs K ρ Hd w z := by
  cases h with
  | cons a b => cases b with
    | cons c d => cases d with
      | cons e f => cases f; exact ⟨_, _, _, rfl, a, c, e⟩
/-! ### the program's classes -/
def rDicF (K : PySem.W.Frag) : List V → Hp → VK → Prop := fun xs H Q => ∃ (a : Addr) (ps : List Addr) (kvs : List (Key × V)), xs = [.ref a] ∧ PlT K H a (ps.map V.ref) ∧ Paired (fun p kv => SqT K H p [kV kv.1, kv.2]) ps kvs ∧
    ∀ p, H p = none → Q (.ref p) (upd H p (.dK (mergeK [] kvs)))
theorem cr_dicF {X : Cx} (hc : X.calm = true) : CallR X (.type "dict") (rDicF X.K) := call_dictF hc
def iniM : Ini := fun xs => match xs with
  | [.d (.tuple p), .d s, .d t] => (pairsOf p).map fun kvs => ([("held", .int 0), ("next", s), ("time", t)], mergeD [] kvs)
  | _ => none
def tIniM (K : PySem.W.Frag) : TS := tSeq (sFld K (tVar 0) (tCB (rDicF K) (tCons (tVar 1) tNil)) "cells") (tSeq (sFld K (tVar 0) (tC (.int 0)) "held") (tSeq (sFld K (tVar 0) (tVar 2) "next") (sFld K (tVar 0) (tVar 3) "time")))
theorem pf1 {m : V} : putF "cells" m [] = ([("cells", m)] : List (Str × V)) := rfl
theorem pf2 {m a : V} : putF "held" a [("cells", m)] = ([("cells", m), ("held", a)] : List (Str × V)) := by
  have h : ¬ (("cells" : Str) = "held") := by decide
  simp [putF, h]
theorem pf3 {m a b : V} : putF "next" b [("cells", m), ("held", a)] = ([("cells", m), ("held", a), ("next", b)] : List (Str × V)) := by
  have h : ¬ (("cells" : Str) = "next") := by decide
  have h' : ¬ (("held" : Str) = "next") := by decide
  simp [putF, h, h']
theorem pf4 {m a b d : V} : putF "time" d [("cells", m), ("held", a), ("next", b)] = ([("cells", m), ("held", a), ("next", b), ("time", d)] : List (Str × V)) := by
  have h : ¬ (("cells" : Str) = "time") := by decide
  have h' : ¬ (("held" : Str) = "time") := by decide
  have h2 : ¬ (("next" : Str) = "time") := by decide
  simp [putF, h, h', h2]
theorem pg1 {m : V} : putF "drum" m [] = ([("drum", m)] : List (Str × V)) := rfl
theorem pg2 {m a : V} : putF "laid" a [("drum", m)] = ([("drum", m), ("laid", a)] : List (Str × V)) := by
  have h : ¬ (("drum" : Str) = "laid") := by decide
  simp [putF, h]
theorem ini_m {K : PySem.W.Frag} {N : List Str} {vs : List V} {H : Hp} {Q : VK} {E : XK} (hN : N.length = 4) (c : ClsOk K "Machine" ["cells", "held", "next", "time"]) (h : spIni K "Machine" "cells" 4 iniM vs H Q E) : tIniM K { nx := fun _ H' => Q .non H', rt := Q } (L2.start N vs) H := by
  obtain ⟨_, φ, Fr, ρ, Hd, S, x, dx, vs', xs, fs, kvs, rfl, rl, hx, nx, fx, dxx, hxs, hi, q⟩ := h
  unfold iniM at hi
  split at hi
  · rename_i p s t
    cases qp : pairsOf p with
    | none => rw [qp] at hi; cases hi
    | some ks =>
      rw [qp] at hi
      cases hi
      obtain ⟨v1, v2, v3, rfl, h1, h2, h3⟩ := sl3 hxs
      · · · obtain ⟨a, us, rfl, hs, ha⟩ : ∃ a us, v1 = .ref a ∧ SqT K Hd a us ∧ DpAll K Hd us p := by
              cases (show Dp K Hd v1 (.tuple p) from h1) with
              | tup hs ha => exact ⟨_, _, rfl, hs, ha⟩
            obtain ⟨ps, uks, rfl, a2, a3⟩ := pairs_vs rl.hd ha qp
            refine ⟨.ref a, rfl, a, ps, uks, rfl, rl.plT hs, a2, fun m hm => ?_⟩
            have xm : x ≠ m := ne_of_none hx hm
            refine ⟨.ref x, rfl, x, _, dx, [], rfl, by rw [upd_ne xm]; exact hx, c.cls, c.no _ (by simp), by simp, ?_⟩
            refine ⟨.ref x, rfl, x, _, dx, _, rfl, upd_same, c.cls, c.no _ (by simp), by rw [pf1]; simp, ?_⟩
            refine ⟨v2, rfl, .ref x, rfl, x, _, dx, _, rfl, upd_same, c.cls, c.no _ (by simp), by rw [pf1, pf2]; simp, ?_⟩
            refine ⟨v3, rfl, .ref x, rfl, x, _, dx, _, rfl, upd_same, c.cls, c.no _ (by simp), by rw [pf1, pf2, pf3]; simp, ?_⟩
            refine q _ m ?_
            have nm : m ∉ ρ.flatten := fun z => rl.ne_new hm z rfl
            have fm := rl.fr_free hm
            have dm := rl.hd.free hm
            have R := ((((rl.junk (o := .dK (mergeK [] uks)) hm).put (o := .ins (He.ga K "Machine") dx (putF "cells" (.ref m) [])) nx fx dxx).put (o := .ins (He.ga K "Machine") dx (putF "held" (.int 0) (putF "cells" (.ref m) []))) nx fx dxx).put (o := .ins (He.ga K "Machine") dx (putF "next" v2 (putF "held" (.int 0) (putF "cells" (.ref m) [])))) nx fx dxx).put
              (o := .ins (He.ga K "Machine") dx (putF "time" v3 (putF "next" v2 (putF "held" (.int 0) (putF "cells" (.ref m) []))))) nx fx dxx
            have hm' : upd (upd (upd (upd (upd H m (.dK (mergeK [] uks))) x (.ins (He.ga K "Machine") dx (putF "cells" (.ref m) []))) x (.ins (He.ga K "Machine") dx (putF "held" (.int 0) (putF "cells" (.ref m) [])))) x (.ins (He.ga K "Machine") dx (putF "next" v2 (putF "held" (.int 0) (putF "cells" (.ref m) []))))) x
                (.ins (He.ga K "Machine") dx (putF "time" v3 (putF "next" v2 (putF "held" (.int 0) (putF "cells" (.ref m) []))))) m = some (.dK (mergeK [] uks)) := by
              rw [upd_ne (Ne.symm xm), upd_ne (Ne.symm xm), upd_ne (Ne.symm xm), upd_ne (Ne.symm xm), upd_same]
            have eg : putF "time" v3 (putF "next" v2 (putF "held" (.int 0) (putF "cells" (.ref m) []))) = ([("cells", .ref m), ("held", .int 0), ("next", v2), ("time", v3)] : List (Str × V)) := by
              rw [pf1, pf2, pf3, pf4]
            refine R.new2 nx nm xm fx fm dxx dm (by rw [upd_same]; simp) (by rw [hm']; simp) ⟨x, m, dx, _, _, rfl, upd_same, by rw [eg]; simp, fun f y qf => ?_, by rw [eg]; rfl, hm', kv_merge a3 .nil, fun f n1 n2 => ?_⟩
            · rw [eg]
              simp only [List.lookup] at qf
              split at qf
              · rename_i ef
                cases qf
                rw [eq_of_beq ef]
                exact ⟨.int 0, rfl, .int 0⟩
              · split at qf
                · rename_i ef
                  cases qf
                  rw [eq_of_beq ef]
                  exact ⟨v2, rfl, h2⟩
                · split at qf
                  · rename_i ef
                    cases qf
                    rw [eq_of_beq ef]
                    exact ⟨v3, rfl, h3⟩
                  · cases qf
            · rw [eg]
              simp only [List.lookup] at n2 ⊢
              have : (f == "cells") = false := by rw [beq_eq_false_iff_ne]; exact n1
              rw [this]
              revert n2
              generalize (f == Str.ofString "held") = b1
              generalize (f == Str.ofString "next") = b2
              generalize (f == Str.ofString "time") = b3
              cases b1 <;> cases b2 <;> cases b3 <;> simp
  · cases hi
def iniP : Ini := fun xs => match xs with
  | [.d d] => some ([("drum", d)], [])
  | _ => none
def tIniP (K : PySem.W.Frag) (tn : TE) : TS := tSeq (sFld K (tVar 0) (tVar 1) "drum") (sFld K (tVar 0) tn "laid")
theorem ini_p {K : PySem.W.Frag} {N : List Str} {tn : TE} {vs : List V} {H : Hp} {Q : VK} {E : XK} (hN : N.length = 2) (htn : ∀ σ H Q, (∀ p, H p = none → Q (.ref p) (upd H p (.dK []))) → tn σ H Q) (c : ClsOk K "Placer" ["drum", "laid"]) (h : spIni K "Placer" "laid" 2 iniP vs H Q E) : tIniP K tn { nx := fun _ H' => Q .non H', rt := Q } (L2.start N vs) H := by
  obtain ⟨_, φ, Fr, ρ, Hd, S, x, dx, vs', xs, fs, kvs, rfl, rl, hx, nx, fx, dxx, hxs, hi, q⟩ := h
  unfold iniP at hi
  split at hi
  · rename_i d
    cases hi
    obtain ⟨v1, rfl, h1⟩ := sl1 hxs
    · refine ⟨v1, rfl, .ref x, rfl, x, _, dx, [], rfl, hx, c.cls, c.no _ (by simp), by simp, htn _ _ _ fun m hm => ?_⟩
      have xm : x ≠ m := fun z => by
        rw [← z, upd_same] at hm
        cases hm
      rw [upd_ne (Ne.symm xm)] at hm
      refine ⟨.ref x, rfl, x, _, dx, _, rfl, by rw [upd_ne xm, upd_same], c.cls, c.no _ (by simp), by rw [pg1]; simp, ?_⟩
      refine q _ m ?_
      have nm : m ∉ ρ.flatten := fun z => rl.ne_new hm z rfl
      have fm := rl.fr_free hm
      have dm := rl.hd.free hm
      have R := ((rl.put (o := .ins (He.ga K "Placer") dx (putF "drum" v1 [])) nx fx dxx).junk (p := m) (o := .dK []) (by rw [upd_ne (Ne.symm xm)]; exact hm)).put (o := .ins (He.ga K "Placer") dx (putF "laid" (.ref m) (putF "drum" v1 []))) nx fx dxx
      have eg : putF "laid" (.ref m) (putF "drum" v1 []) = ([("drum", v1), ("laid", .ref m)] : List (Str × V)) := by rw [pg1, pg2]
      refine R.new2 nx nm xm fx fm dxx dm (by rw [upd_same]; simp) (by rw [upd_ne (Ne.symm xm), upd_same]; simp) ⟨x, m, dx, _, [], rfl, upd_same, by rw [eg]; simp, fun f y qf => ?_, by rw [eg]; rfl, by rw [upd_ne (Ne.symm xm), upd_same], .nil, fun f n1 n2 => ?_⟩
      · rw [eg]
        simp only [List.lookup] at qf
        split at qf
        · rename_i ef
          cases qf
          rw [eq_of_beq ef]
          exact ⟨v1, rfl, h1⟩
        · cases qf
      · rw [eg]
        simp only [List.lookup] at n2 ⊢
        have : (f == "laid") = false := by rw [beq_eq_false_iff_ne]; exact n1
        rw [this]
        revert n2
        generalize (f == Str.ofString "drum") = b1
        cases b1 <;> simp
  · cases hi
end Z
end
section
set_option Elab.async false
set_option linter.all false
set_option maxRecDepth 100000
set_option autoImplicit false
set_option maxHeartbeats 1000000
namespace Z
open PySem PySem.Spec PyProof.Rows L2
/-! ### a pair of data and an instance -/
def zpr (z1 z2 : ZE) : ZE := fun Γ S => (z1 Γ S).bind fun x S1 => (z2 Γ S1).bind fun y S2 => match x, y with
  | .d d, .box n => .val (.pr d n) S2
  | _, _ => .bad
def zpr1 (z : ZE) : ZE := fun Γ S => (z Γ S).bind fun x S1 => match x with
  | .pr _ n => .val (.box n) S1
  | _ => .bad
def zasgP (i j : Nat) (z : ZE) : ZS := fun Γ S => (z Γ S).st Γ fun x S1 => match x with
  | .pr d n => .nx ((Γ.set i (some (.d d))).set j (some (.box n))) S1
  | _ => .bad
section
variable {X : CxF} {a b e : Expr} {z1 z2 z : ZE} {pos : Pos} {k : Nat}
theorem pz_pr (h1 : PZ X a z1) (h2 : PZ X b z2) (hs : starEach [a, b] X.env = (false, eval a X.env) :: starEach [b] X.env := by rfl) (hs2 : starEach [b] X.env = (false, eval b X.env) :: starEach [] X.env := by rfl) : PZ X (.Tuple [a, b] k pos) (zpr z1 z2) := fun W tk => by
  obtain ⟨t1, p1, s1⟩ := h1 W tk
  obtain ⟨t2, p2, s2⟩ := h2 W tk
  refine ⟨_, pe_tupF (pa_cons p1 (pa_cons p2 pa_nil hs2) hs), fun F σ H Q Γ S ρ Hd rl sl af => ?_⟩
  refine s1 F σ H _ Γ S ρ Hd rl sl (Aft.imp (aft_bind af) ?_)
  rintro x H1 ⟨ρ1, Hd1, x', S1, g1, r1, hx, af1⟩
  refine s2 F σ H1 _ Γ S1 ρ1 Hd1 r1 (sl.grow g1) (Aft.imp (aft_bind af1) ?_)
  rintro y H2 ⟨ρ2, Hd2, y', S2, g2, r2, hy, af2⟩
  split at af2
  · rename_i d n
    obtain ⟨ad, as, rfl, hn⟩ := hy
    refine ⟨by show 2 ≤ sizeLine; rw [sizeLine_eq]; omega, fun p o hp ho => ?_⟩
    refine af2 (.ref p) _ ρ2 _ (r2.grD hp) (r2.newD hp (o := FT o _) ho) ⟨p, x, ad, as, rfl, .inl (.inr ⟨o, upd_same⟩), dp_mono (g2.h.trans (same_upd (r2.hd.free hp))) hx, hn⟩
  · exact False.elim af2
theorem pz_pr1 {j : Nat} {p2 : Pos} (h : PZ X a z) (hs : PlainIx (.Constant (.int 1) j p2) := by exact fun _ _ => rfl) : PZ X (.Subscript a (.Constant (.int 1) j p2) pos) (zpr1 z) := fun W tk => by
  obtain ⟨t, p, s⟩ := h W tk
  refine ⟨_, pe_ix ix_tup p pe_int hs, fun F σ H Q Γ S ρ Hd rl sl af => ?_⟩
  refine s F σ H _ Γ S ρ Hd rl sl (Aft.imp (aft_bind af) ?_)
  rintro x H1 ⟨ρ1, Hd1, x', S1, g1, r1, hx, af1⟩
  split at af1
  · rename_i d n
    obtain ⟨t', v1, ad, as, rfl, ht, hd, hn⟩ := hx
    exact ⟨t', _, 1, .ref ad, rfl, rfl, same_t r1.hd ht, rfl, af1 _ H1 ρ1 Hd1 .refl r1 ⟨ad, as, rfl, hn⟩⟩
  · exact False.elim af1
theorem pzs_asgP (i j : Nat) {x y : Str} {px py pt : Pos} (h : PZ X e z) (hN : X.N.Nodup) (hc : X.calm = true := by rfl) (hi : X.N[i]? = some x := by rfl) (hj : X.N[j]? = some y := by rfl) (hx : Loc X.env.scope x := by first | exact .inl rfl | exact .inr rfl) (hy : Loc X.env.scope y := by first | exact .inl rfl | exact .inr rfl)
    (hfx : X.fn x = true ∨ X.env.scope.names.lookup x = some .local := by first | exact .inl rfl | exact .inr rfl) (hfy : X.fn y = true ∨ X.env.scope.names.lookup y = some .local := by first | exact .inl rfl | exact .inr rfl)
    (hs : swapsWithSole [.Tuple [.Name x px, .Name y py] k pt] e pos.line X.env = pure false := by rfl) (hw : swappedStores [.Tuple [.Name x px, .Name y py] k pt] e X.env = pure none := by rfl) (h1 : (assignEach [.Tuple [.Name x px, .Name y py] k pt] X.env).map (·.2) = [assign (.Tuple [.Name x px, .Name y py] k pt) X.env] := by rfl)
    (ha : (assignEach [.Name x px, .Name y py] X.env).map (·.2) = assign (.Name x px) X.env :: (assignEach [.Name y py] X.env).map (·.2) := by rfl) (ha2 : (assignEach [.Name y py] X.env).map (·.2) = assign (.Name y py) X.env :: (assignEach [] X.env).map (·.2) := by rfl)
    (hn : (assignEach [.Name x px, .Name y py] X.env).length = 2 := by rfl) (hst : (assignEach [.Name x px, .Name y py] X.env).findIdx? (·.1) = none := by rfl) : PZS X (.Assign [.Tuple [.Name x px, .Name y py] k pt] e pos) (zasgP i j z) := fun _ W tk => by
  obtain ⟨t, p, s⟩ := h W tk
  refine ⟨_, ps_asg p (pg_tup hc (pgs_cons (pg_name hN hi hx hfx) (pgs_cons (pg_name hN hj hy hfy) pgs_nil ha2) ha) hn hst) hs hw h1, fun F D σ H Γ S ρ Hd rl sl af => ?_⟩
  refine s F σ H _ Γ S ρ Hd rl sl (Aft.imp (aft_st sl af) ?_)
  rintro v H1 ⟨ρ1, Hd1, x', S1, g1, r1, hx', af1⟩
  split at af1
  · rename_i d n
    obtain ⟨t', v1, ad, as, rfl, ht, hd, hbx⟩ := hx'
    refine ⟨t', _, rfl, same_t r1.hd ht, rfl, v1, _, rfl, .ref ad, _, rfl, rfl, ?_⟩
    exact af1 _ H1 ρ1 Hd1 .refl r1 (((sl.grow g1).set (x := .d d) hd).set (x := .box n) ⟨ad, as, rfl, hbx⟩)
  · exact False.elim af1
end
/-! ### len(set(xs)), list(range(n)) -/
def ddup (ns : List Int) : List Int := PyProof.Rows.firstMet (fun i => ns.getD i 0) ns.length
section
variable {X : Cx} {a : Expr} {ta : TE}
def tLenS (K : PySem.W.Frag) (ta : TE) : TE := fun σ H Q => ta σ H fun x H1 => ∃ (l : Addr) (ns : List Int), x = .ref l ∧ SqL K H1 l (ns.map V.int) ∧ ns.length ≤ 4000 ∧ Q (.int ((ddup ns).length : Nat)) H1
theorem pe_lenS {p p2 q pos : Pos} (hg : Gl X "len") (hm : X.mg "len" = none) (hg2 : Gl X "set") (hm2 : X.mg "set" = none) (ha : PE X a ta) (hc : X.calm = true)
    (na : starEach [a] X.env = (false, eval a X.env) :: starEach [] X.env) : PE X (.Call (.Name "len" p) [.Call (.Name "set" p2) [a] [] q] [] pos) (tLenS X.K ta) := by
  refine ⟨fun pins s σ H Q I hh => ?_⟩
  refine Call_ (ld_blt I hg hm boot_len (PyProof.Rows.callWith_builtin1 (PyProof.Rows.args_cons ?_ rfl) rfl rfl))
  refine Call_ (ld_blt I hg2 hm2 boot_set (PyProof.Rows.callWith_type1 (PyProof.Rows.args_cons (thn (ha.run pins s σ H _ I hh) ?_) na) na rfl))
  rintro v s1 ⟨x, H1, I1, r1, l, ns, rfl, hq, hl, hQ⟩
  refine PyProof.Rows.args_nil ?_
  cases r1
  obtain ⟨its, r, pl, _⟩ := I1.list hq
  have el : its.toArray.size = ns.length := by rw [List.size_toArray, ← r.length, List.length_map]
  refine call_set_list (I1.ok.hd hc) pl.isList (by simpa using RZ.intsAre_vals r) (by rw [el]; unfold scanBound; omega) fun h' tk hS keep => ?_
  refine PyProof.Rows.args_nil ?_
  rw [el] at hS
  obtain ⟨o, es, ep, t, ho, hex, hd, _, _, _, hf, hn⟩ := hS
  have J : Inv X pins σ H1 { s1 with heap := h', toks := tk } := I1.kept fun b o e => keep b o (Heap.lt_size e) e
  have le := PyProof.Rows.firstMet_length_le (fun i => ns.getD i 0) ns.length
  exact call_len_set ho hex hd hf (by rw [hn]; omega) ⟨.int ((ddup ns).length : Nat), H1, J.tok _, ⟨_, by rw [hn]; rfl⟩, hQ⟩
end
def zlset (z : ZE) : ZE := fun Γ S => (z Γ S).bind fun x S1 => match res S1 x with
  | some (.list ds) => (match intsOf ds with
    | some ns => if ns.length ≤ 4000 then .val (.d (.int ((ddup ns).length : Nat))) S1 else .bad
    | none => .bad)
  | _ => .bad
section
variable {X : CxF} {a e : Expr} {z : ZE} {pos p p2 q : Pos}
theorem pz_lset (hm : X.mg "len" = none) (hm2 : X.mg "set" = none) (h : PZ X a z) (hg : Gl X "len" := by rfl) (hg2 : Gl X "set" := by rfl) (hc : X.calm = true := by rfl) (na : starEach [a] X.env = (false, eval a X.env) :: starEach [] X.env := by rfl) : PZ X (.Call (.Name "len" p) [.Call (.Name "set" p2) [a] [] q] [] pos) (zlset z) := fun W tk => by
  obtain ⟨t, p, s⟩ := h W tk
  refine ⟨_, pe_lenS hg hm hg2 hm2 p hc na, fun F σ H Q Γ S ρ Hd rl sl af => ?_⟩
  refine s F σ H _ Γ S ρ Hd rl sl (Aft.imp (aft_bind af) ?_)
  rintro x H1 ⟨ρ1, Hd1, x', S1, g1, r1, hx, af1⟩
  split at af1
  · rename_i ds e1
    split at af1
    · rename_i ns e2
      split at af1
      · rename_i hl
        obtain ⟨l, rfl, hq⟩ := list_ints (vw_of r1 hx e1) e2
        exact ⟨l, ns, rfl, hq, hl, af1 _ H1 ρ1 Hd1 .refl r1 (.int _)⟩
      · exact False.elim af1
    · exact False.elim af1
  · exact False.elim af1
end
def zlrg (z : ZE) : ZF := fun Γ S => (z Γ S).bind fun x S1 => match x with
  | .d (.int n) => if n.natAbs < 100000 then .val (.lst (rngL 0 n.toNat)) S1 else .bad
  | _ => .bad
theorem rgV_dp {K : PySem.W.Frag} {H : Hp} {n : Int} : DpAll K H (rgV 0 n) (rngL 0 n.toNat) := by
  have e : rgV 0 n = ((List.range n.toNat).map fun (i : Nat) => (0 + (i : Int))).map V.int := by
    unfold rgV
    simp
  have e2 : rngL 0 n.toNat = ((List.range n.toNat).map fun (i : Nat) => (0 + (i : Int))).map PyData.int := by
    unfold rngL
    rw [List.map_map]
    rfl
  rw [e, e2]
  exact ints_dp _
section
variable {X : CxF} {a e : Expr} {z : ZE} {pos p p2 q : Pos}
theorem pzf_lrg (hm : X.mg "list" = none) (hm2 : X.mg "range" = none) (h : PZ X a z) (hg : Gl X "list" := by rfl) (hg2 : Gl X "range" := by rfl) (hc : X.calm = true := by rfl) (na : starEach [.Call (.Name "range" p2) [a] [] q] X.env = (false, eval (.Call (.Name "range" p2) [a] [] q) X.env) :: starEach [] X.env := by rfl)
    (nb : starEach [a] X.env = (false, eval a X.env) :: starEach [] X.env := by rfl) : PZF X (.Call (.Name "list" p) [.Call (.Name "range" p2) [a] [] q] [] pos) (zlrg z) := fun W tk => by
  obtain ⟨t, p, s⟩ := h W tk
  refine ⟨_, pe_listRg hc hg hm (prg_1 hg2 hm2 p nb) na, fun F σ H Q Γ S ρ Hd rl sl af => ?_⟩
  refine s F σ H _ Γ S ρ Hd rl sl (Aft.imp (aft_bindF af) ?_)
  rintro x H1 ⟨ρ1, Hd1, x', S1, g1, r1, hx, af1⟩
  split at af1
  · rename_i n
    split at af1
    · rename_i hn
      have ex : x = .int n := dp_vw (H := Hd1) (Same.refl _) hx
      refine ⟨n, ex, ⟨by omega, by omega, by omega, by omega, by omega⟩, fun np hp => ?_⟩
      exact af1 np _ ρ1 Hd1 .refl (r1.junk hp) (fun z => r1.ne_new hp z rfl) (r1.fr_free hp) (r1.hd.free hp) (by rw [upd_same]; simp) ⟨np, _, rfl, upd_same, rgV_dp⟩
    · exact False.elim af1
  · exact False.elim af1
end
/-! ### a dict of the module with text keys -/
structure KTab (K : PySem.W.Frag) (w : World) (mg : Str → Option Value) (x : Str) (kvs : List (Str × Int)) (no : List Str) : Prop where
  g : mg x = some (.ref (He.ga K x))
  d : ∃ es n, KDict K w (He.ga K x) es n
  v : ∀ k i, kvs.lookup k = some i → ∃ u, PySem.W.nsIn K (He.ga K x) k = some (some u) ∧ RelV (.int i) u
  n : ∀ k ∈ no, PySem.W.nsIn K (He.ga K x) k = some none
def ktabB (K : PySem.W.Frag) (x : Str) (kvs : List (Str × Int)) (no : List Str) : Bool := (kvs.all fun q => match PySem.W.nsIn K (He.ga K x) q.1 with
  | some (some (.int j _)) => decide (j = q.2)
  | _ => false) && no.all fun k => He.eqO (PySem.W.nsIn K (He.ga K x) k) (some none)
theorem look_in {α : Type} {k : Str} {v : α} : ∀ {l : List (Str × α)}, l.lookup k = some v → (k, v) ∈ l
  | (b, y) :: r, h => by
    rw [List.lookup_cons] at h
    split at h
    · rename_i e
      cases h
      rw [eq_of_beq e]
      exact List.mem_cons_self
    · exact List.mem_cons_of_mem _ (look_in h)
theorem ktab_of {K : PySem.W.Frag} {w : World} {mg : Str → Option Value} {x : Str} {kvs : List (Str × Int)} {no : List Str} (g : mg x = some (.ref (He.ga K x))) (d : ∃ es n, KDict K w (He.ga K x) es n) (h : ktabB K x kvs no = true) : KTab K w mg x kvs no := by
  obtain ⟨h1, h2⟩ := He.ba h
  refine ⟨g, d, fun k i e => ?_, fun k hk => He.eqO_ok (List.all_eq_true.mp h2 k hk)⟩
  have := List.all_eq_true.mp h1 (k, i) (look_in e)
  dsimp only at this
  split at this
  · rename_i j t q
    have ej : j = i := of_decide_eq_true this
    exact ⟨_, q, t, by rw [ej]⟩
  · cases this
def zkin (kvs : List (Str × Int)) (no : List Str) (z : ZE) : ZE := fun Γ S => (z Γ S).bind fun x S1 => match x with
  | .d (.str k) => (match kvs.lookup k with
    | some _ => .val (.d (.bool true)) S1
    | none => if no.contains k = true then .val (.d (.bool false)) S1 else .bad)
  | _ => .bad
def zkget (kvs : List (Str × Int)) (z : ZE) : ZE := fun Γ S => (z Γ S).bind fun x S1 => match x with
  | .d (.str k) => (match kvs.lookup k with
    | some i => .val (.d (.int i)) S1
    | none => .bad)
  | _ => .bad
section
variable {X : CxF} {a e : Expr} {z : ZE} {pos p p2 q : Pos} {x : Str} {kvs : List (Str × Int)} {no : List Str}
theorem snd_kin {W : WX} {t : TE} (T : KTab X.X.K X.w X.mg x kvs no) (s : Snd X.K W (SlIs X.K) t z) :
    Snd X.K W (SlIs X.K) (tOp (fun x' y H Q => ∃ (k : Str) (r : Option Value), x' = .str k ∧ y = .ref (He.ga X.X.K x) ∧ PySem.W.nsIn X.X.K (He.ga X.X.K x) k = some r ∧ Q (.bl r.isSome) H) t (tC (.ref (He.ga X.X.K x)))) (zkin kvs no z) := by
  intro F σ H Q Γ S ρ Hd rl sl af
  refine s F σ H _ Γ S ρ Hd rl sl (Aft.imp (aft_bind af) ?_)
  rintro v H1 ⟨ρ1, Hd1, x', S1, g1, r1, hx, af1⟩
  split at af1
  · rename_i k
    have ev : v = .str k := dp_vw (H := Hd1) (Same.refl _) hx
    split at af1
    · rename_i i e1
      obtain ⟨u, e2, _⟩ := T.v k i e1
      exact ⟨k, _, ev, rfl, e2, af1 _ H1 ρ1 Hd1 .refl r1 (.bl _)⟩
    · split at af1
      · rename_i hn
        exact ⟨k, _, ev, rfl, T.n k (List.contains_iff_mem.mp hn), af1 _ H1 ρ1 Hd1 .refl r1 (.bl _)⟩
      · exact False.elim af1
  · exact False.elim af1
theorem pz_kin (T : KTab X.X.K X.w X.mg x kvs no) (h : PZ X a z) (hg : Gl X x := by rfl) (hd : (x == ("__debug__" : Str)) = false := by decide) (hm : behindInMarks .In (.Name x p) = false := by rfl) : PZ X (.Compare a [.In] [.Name x p] pos) (zkin kvs no z) := fun W tk => by
  obtain ⟨t, pp, s⟩ := h W tk
  obtain ⟨es, n, D⟩ := T.d
  exact ⟨_, pe_cmpR (op_in_kd D) pp (pe_glob (v := .ref (He.ga X.X.K x)) hg T.g rfl hd) hm, snd_kin T s⟩
theorem pzt_kin (T : KTab X.X.K X.w X.mg x kvs no) (h : PZ X a z) (hg : Gl X x := by rfl) (hd : (x == ("__debug__" : Str)) = false := by decide) (hm : behindInMarks .In (.Name x p) = false := by rfl) : PZT X (.Compare a [.In] [.Name x p] pos) (ztst (zkin kvs no z)) := fun W tk => by
  obtain ⟨t, pp, s⟩ := h W tk
  obtain ⟨es, n, D⟩ := T.d
  exact ⟨_, pt_cmpR (op_in_kd D) pp (pe_glob (v := .ref (He.ga X.X.K x)) hg T.g rfl hd) hm, snd_tst (snd_kin T s)⟩
theorem pz_kget (T : KTab X.X.K X.w X.mg x kvs no) (h : PZ X a z) (hg : Gl X x := by rfl) (hd : (x == ("__debug__" : Str)) = false := by decide) (hs : PlainIx a := by exact fun _ _ => rfl) : PZ X (.Subscript (.Name x p) a pos) (zkget kvs z) := fun W tk => by
  obtain ⟨t, pp, s⟩ := h W tk
  obtain ⟨es, n, D⟩ := T.d
  refine ⟨_, pe_ix ix_kdict (pe_glob (v := .ref (He.ga X.X.K x)) hg T.g rfl hd) pp hs, fun F σ H Q Γ S ρ Hd rl sl af => ?_⟩
  refine s F σ H _ Γ S ρ Hd rl sl (Aft.imp (aft_bind af) ?_)
  rintro v H1 ⟨ρ1, Hd1, x', S1, g1, r1, hx, af1⟩
  split at af1
  · rename_i k
    have ev : v = .str k := dp_vw (H := Hd1) (Same.refl _) hx
    split at af1
    · rename_i i e1
      obtain ⟨u, e2, e3⟩ := T.v k i e1
      exact ⟨_, k, .int i, rfl, ev, ⟨es, n, u, D.at_, D.lit, e2, e3⟩, af1 _ H1 ρ1 Hd1 .refl r1 (.int _)⟩
    · exact False.elim af1
  · exact False.elim af1
end
end Z
end
section
set_option Elab.async false
set_option linter.all false
set_option maxRecDepth 100000
namespace Z
open PySem PySem.Spec PyProof.Rows L2
/-! ### a or b, of data -/
def tOrD (K : PySem.W.Frag) (ta tb : TE) : TE := fun σ H Q => ta σ H fun x H1 => ∃ k, TruV K x H1 k ∧ if k = true then Q x H1 else tb σ H1 Q
theorem pe_orD {X : Cx} {a b : Expr} {rest : List Expr} {pos : Pos} {ta tb : TE} (ha : PE X a ta) (hb : PE X (.BoolOp .Or (b :: rest) pos) tb) : PE X (.BoolOp .Or (a :: b :: rest) pos) (tOrD X.K ta tb) := by
  refine ⟨fun pins s σ H Q I h => ?_⟩
  refine BoolOp_or (thn (ha.run pins s σ H _ I h) fun v s1 ⟨x, H1, I1, r1, q1⟩ => ?_)
  obtain ⟨k, hk, q1⟩ := q1
  refine thn (tru_ok pins s1 σ H1 x v (fun k' H' => k' = k ∧ H' = H1) I1 r1 ⟨k, hk, rfl, rfl⟩) ?_
  rintro c s2 ⟨H2, I2, rfl, rfl⟩
  cases c with
  | true =>
    rw [if_pos rfl] at q1 ⊢
    exact ⟨x, _, I2, r1, q1⟩
  | false =>
    rw [if_neg Bool.false_ne_true] at q1 ⊢
    exact hb.run pins s2 σ _ Q I2 q1
def zorD (za zb : ZE) : ZE := fun Γ S => (za Γ S).bind fun x S1 => (ofOpt (truS S1 x) S1).bind fun k S1 => if k = true then .val x S1 else zb Γ S1
theorem pz_orD {X : CxF} {a b : Expr} {rest : List Expr} {pos : Pos} {za zb : ZE} (ha : PZ X a za) (hb : PZ X (.BoolOp .Or (b :: rest) pos) zb) : PZ X (.BoolOp .Or (a :: b :: rest) pos) (zorD za zb) := fun W tk => by
  obtain ⟨t, p, s⟩ := ha W tk
  obtain ⟨t', p', s'⟩ := hb W tk
  refine ⟨_, pe_orD p p', fun F σ H Q Γ S ρ Hd rl sl af => ?_⟩
  refine s F σ H _ Γ S ρ Hd rl sl (Aft.imp (aft_bind af) ?_)
  rintro x H1 ⟨ρ1, Hd1, x', S1, g1, r1, hx, af1⟩
  cases e : truS S1 x' with
  | none => rw [e] at af1; exact False.elim af1
  | some k =>
    rw [e] at af1
    refine ⟨k, tru_of r1 hx e, ?_⟩
    cases k with
    | true =>
      rw [if_pos rfl]
      exact af1 x H1 ρ1 Hd1 .refl r1 hx
    | false =>
      rw [if_neg Bool.false_ne_true]
      exact s' F σ H1 Q Γ S1 ρ1 Hd1 r1 (sl.grow g1) af1
end Z
end
section
set_option Elab.async false
set_option linter.all false
set_option maxRecDepth 100000
set_option autoImplicit false
namespace Z
open PySem L2 RZ
/-! ### names, many at once -/
def setAll (Γ : Env1) : List Nat → List Sl → Env1
  | i :: is, x :: xs => setAll (Γ.set i (some x)) is xs
  | _, _ => Γ
def setSt (σ : L2.St) : List Nat → List V → L2.St
  | i :: is, x :: xs => setSt (σ.set i (some x)) is xs
  | _, _ => σ
theorem setSt_len : ∀ {is : List Nat} {vs : List V} {σ : L2.St}, (setSt σ is vs).length = σ.length
  | [], _, _ => rfl
  | _ :: _, [], _ => rfl
  | i :: is, v :: vs, σ => by
    rw [setSt, setSt_len, List.length_set]
theorem setSt_ne {j : Nat} : ∀ {is : List Nat} {vs : List V} {σ : L2.St}, j ∉ is → (setSt σ is vs)[j]? = σ[j]?
  | [], _, _, _ => rfl
  | _ :: _, [], _, _ => rfl
  | i :: is, v :: vs, σ, h => by
    rw [setSt, setSt_ne (fun z => h (List.mem_cons_of_mem _ z)), List.getElem?_set_ne (fun z => h (by rw [z]; simp))]
theorem slots_all {K : KF} {ρ : Ads} {Hd : Hp} : ∀ (is : List Nat) (vs : List V) (xs : List Sl) (σ : L2.St) (Γ : Env1), Slots K ρ Hd σ Γ → SlAll K ρ Hd vs xs → Slots K ρ Hd (setSt σ is vs) (setAll Γ is xs)
  | [], vs, xs, σ, Γ, h, _ => by
    rw [setSt, setAll]
    · exact h
    all_goals (intros; contradiction)
  | i :: is, [], xs, σ, Γ, h, q => by
    cases q
    exact h
  | i :: is, v :: vs, xs, σ, Γ, h, q => by
    cases q with
    | cons a b => exact slots_all is vs _ _ _ (h.set a) b
/-- a row of names -/
def PZN (X : CxF) (ts : List Expr) (is : List Nat) : Prop := ∃ t : TGs, PGs X ts t ∧ ∀ vs σ H (Q : L2.St → Hp → Prop), vs.length = is.length → Q (setSt σ is vs) H → t vs σ H Q
section
variable {X : CxF}
theorem pzn_nil : PZN X [] [] := ⟨_, pgs_nil, fun vs σ H Q hl h => by
  cases vs with
  | nil => exact ⟨rfl, h⟩
  | cons v vs => simp at hl⟩
theorem pzn_cons (i : Nat) {x : Str} {px : Pos} {ts : List Expr} {is : List Nat} (h : PZN X ts is) (hN : X.N.Nodup) (hi : X.N[i]? = some x := by rfl) (hx : Loc X.env.scope x := by first | exact .inl rfl | exact .inr rfl) (hf : X.fn x = true ∨ X.env.scope.names.lookup x = some .local := by first | exact .inl rfl | exact .inr rfl)
    (hs : (assignEach (.Name x px :: ts) X.env).map (·.2) = assign (.Name x px) X.env :: (assignEach ts X.env).map (·.2) := by rfl) : PZN X (.Name x px :: ts) (i :: is) := by
  obtain ⟨t, p, s⟩ := h
  refine ⟨_, pgs_cons (pg_name hN hi hx hf) p hs, fun vs σ H Q hl h => ?_⟩
  cases vs with
  | nil => simp at hl
  | cons v vs => exact ⟨v, vs, rfl, s vs _ H Q (by simpa using hl) h⟩
end
/-- a, b, c, d = x, y, z, w: built as a tuple, and taken apart -/
def zparA (is : List Nat) (za : ZA) : ZS := fun Γ S => (za Γ S).st Γ fun xs S1 => if xs.length = is.length ∧ xs.length ≤ lim then .nx (setAll Γ is xs) S1 else .bad
theorem pzs_parA {X : CxF} {ts es : List Expr} {is : List Nat} {za : ZA} {k k2 : Nat} {pt pt2 pos : Pos} (hn : PZN X ts is) (ha : PZA X es za) (hc : X.calm = true := by rfl)
    (hl : (assignEach ts X.env).length = is.length := by rfl) (hst : (assignEach ts X.env).findIdx? (·.1) = none := by rfl)
    (hs : swapsWithSole [.Tuple ts k pt] (.Tuple es k2 pt2) pos.line X.env = pure false := by rfl) (hw : swappedStores [.Tuple ts k pt] (.Tuple es k2 pt2) X.env = pure none := by rfl) (h1 : (assignEach [.Tuple ts k pt] X.env).map (·.2) = [assign (.Tuple ts k pt) X.env] := by rfl) :
    PZS X (.Assign [.Tuple ts k pt] (.Tuple es k2 pt2) pos) (zparA is za) := fun _ W tk => by
  obtain ⟨t, p, s⟩ := ha W tk
  obtain ⟨tn, pn, sn⟩ := hn
  refine ⟨_, ps_asg (pe_tupF p) (pg_tup hc pn hl hst) hs hw h1, fun F D σ H Γ S ρ Hd rl sl af => ?_⟩
  refine s F σ H _ Γ S ρ Hd rl sl (Aft.imp (aft_st sl af) ?_)
  rintro vs H1 ⟨ρ1, Hd1, xs, S1, g1, r1, hx, af1⟩
  split at af1
  · rename_i hh
    have hlen : vs.length = xs.length := Paired.length hx
    refine ⟨lim_line (by omega), fun a o ho hd => ?_⟩
    refine ⟨a, vs, rfl, ?_, by omega, sn vs σ _ _ (by omega) ?_⟩
    · exact .inl (.inr ⟨o, upd_same⟩)
    · exact af1 _ _ ρ1 Hd1 .refl (r1.junk ho) (slots_all _ _ _ _ _ (sl.grow g1) hx)
  · exact False.elim af1
/-- names from a tuple of data -/
def gNs (is : List Nat) : ZG := fun d Γ => match d with
  | .tuple ds => if ds.length = is.length then some (setAll Γ is (ds.map .d)) else none
  | _ => none
theorem slAll_d {K : KF} {ρ : Ads} {Hd : Hp} : ∀ {vs : List V} {ds : List PyData}, DpAll K Hd vs ds → SlAll K ρ Hd vs (ds.map .d)
  | _, _, .nil => .nil
  | _, _, .cons a b => .cons a (slAll_d b)
theorem pzg_ns {X : CxF} {b : Bool} {ts : List Expr} {is : List Nat} {k : Nat} {pos : Pos} (hn : PZN X ts is) (hc : X.calm = true := by rfl)
    (hl : (assignEach ts X.env).length = is.length := by rfl) (hst : (assignEach ts X.env).findIdx? (·.1) = none := by rfl) : PZG X b (.Tuple ts k pos) (gNs is) is := by
  obtain ⟨tn, pn, sn⟩ := hn
  refine ⟨_, pg_tup hc pn hl hst, fun F v σ H Q Γ Γ' d S ρ Hd r sl hd e q => ?_⟩
  unfold gNs at e
  split at e
  · rename_i ds
    split at e
    · rename_i hlen
      cases e
      obtain ⟨ad, vs, rfl, hs, ha⟩ := hd.tup r.hd
      have h2 : vs.length = ds.length := dpAll_len ha
      refine ⟨ad, vs, rfl, hs, by omega, sn vs σ _ _ (by omega) ?_⟩
      exact q _ (slots_all _ _ _ _ _ sl (slAll_d ha)) setSt_len fun j hj => setSt_ne hj
    · cases e
  · cases e
end Z
end
section
set_option Elab.async false
set_option linter.all false
set_option maxRecDepth 100000
set_option autoImplicit false
namespace Z
open PySem L2 RZ
/-! ### a module's tuple of texts -/
structure CTup (K : PySem.W.Frag) (mg : Str → Option Value) (x : Str) (ss : List Str) : Prop where
  g : mg x = some (.ref (He.ga K x))
  d : ∃ (o : Obj) (its : Array Value) (n : Nat), K.lookup (He.ga K x) = some o ∧ o.cls = .type "tuple" ∧ o.data = .seq its n ∧ its.size ≤ sizeLine ∧ Vals (ss.map V.str) its.toList
def strsB : List Str → List Value → Bool
  | [], [] => true
  | s :: ss, .str t _ :: vs => decide (t = s) && strsB ss vs
  | _, _ => false
theorem strsB_ok : ∀ {ss : List Str} {vs : List Value}, strsB ss vs = true → Vals (ss.map V.str) vs
  | [], [], _ => .nil
  | s :: ss, .str t k :: vs, h => by
    rw [strsB, Bool.and_eq_true, decide_eq_true_eq] at h
    exact .cons ⟨k, by rw [h.1]⟩ (strsB_ok h.2)
  | [], _ :: _, h => by simp [strsB] at h
  | _ :: _, [], h => by simp [strsB] at h
  | _ :: _, .none :: _, h => by simp [strsB] at h
  | _ :: _, .bool _ :: _, h => by simp [strsB] at h
  | _ :: _, .int _ _ :: _, h => by simp [strsB] at h
  | _ :: _, .ref _ :: _, h => by simp [strsB] at h
  | _ :: _, .type _ :: _, h => by simp [strsB] at h
  | _ :: _, .builtin _ :: _, h => by simp [strsB] at h
def ctupB (K : PySem.W.Frag) (x : Str) (ss : List Str) : Bool := match K.lookup (He.ga K x) with
  | some o => decide (o.cls = .type "tuple") && (match o.data with
    | .seq its _ => decide (its.size ≤ 1000) && strsB ss its.toList
    | _ => false)
  | none => false
theorem ctup_of {K : PySem.W.Frag} {mg : Str → Option Value} {x : Str} {ss : List Str} (g : mg x = some (.ref (He.ga K x))) (h : ctupB K x ss = true) : CTup K mg x ss := by
  refine ⟨g, ?_⟩
  unfold ctupB at h
  split at h
  · rename_i o e
    rw [Bool.and_eq_true, decide_eq_true_eq] at h
    obtain ⟨h1, h2⟩ := h
    split at h2
    · rename_i its n e2
      rw [Bool.and_eq_true, decide_eq_true_eq] at h2
      exact ⟨o, its, n, e, h1, e2, lim_line (Nat.le_trans h2.1 (by decide)), strsB_ok h2.2⟩
    · cases h2
  · cases h
theorem dpStrs {K : PySem.W.Frag} {Hd : Hp} : ∀ (ss : List Str), DpAll K Hd (ss.map V.str) (ss.map PyData.str)
  | [] => .nil
  | s :: ss => .cons (.str s) (dpStrs ss)
theorem pz_globT {X : CxF} {x : Str} {ss : List Str} {pos : Pos} (hg : Gl X x) (h : CTup X.K X.mg x ss) (hd : (x == ("__debug__" : Str)) = false := by decide) : PZ X (.Name x pos) (zc (.tuple (ss.map .str))) :=
  pz_c (pe_glob (v := .ref (He.ga X.K x)) hg h.g rfl hd) fun Hd => .tup (.inr h.d) (dpStrs ss)
end Z
end
section
set_option Elab.async false
set_option linter.all false
set_option maxRecDepth 100000
set_option autoImplicit false
namespace Z
open PySem L2 RZ
/-! ### a dict of constants, written out -/
def cTrs (us : List (Str × V)) : List (TE × TE) := us.map fun u => (tC (.str u.1), tC u.2)
theorem cTrs_run : ∀ (us : List (Str × V)) (σ : L2.St) (H : Hp) (Q : List (V × V) → Hp → Prop), Q (us.map fun u => (V.str u.1, u.2)) H → tPairs (cTrs us) σ H Q
  | [], _, _, _, h => h
  | u :: us, σ, H, Q, h => cTrs_run us σ H (fun ps H3 => Q ((V.str u.1, u.2) :: ps) H3) h
structure PZD (X : CxF) (pos : Pos) (keys : List (Option Expr)) (values : List Expr) (us : List (Str × V)) (kvs : List (Str × PyData)) : Prop where
  p : PPs X pos keys values (cTrs us)
  d : ∀ Hd : Hp, KvOk X.K Hd (us.map fun u => ((Sum.inr u.1 : Key), u.2)) (kvs.map fun u => ((Sum.inr u.1 : Key), u.2))
section
variable {X : CxF} {pos : Pos} {keys : List (Option Expr)} {values : List Expr} {us : List (Str × V)} {kvs : List (Str × PyData)}
theorem pzd_nil : PZD X pos [] [] [] [] := ⟨pps_nil, fun _ => .nil⟩
theorem pzd_int {k : Str} {i : Int} {n m : Nat} {p1 p2 : Pos} (h : PZD X pos keys values us kvs) : PZD X pos (some (.Constant (.str k) n p1) :: keys) (.Constant (.int i) m p2 :: values) ((k, .int i) :: us) ((k, .int i) :: kvs) :=
  ⟨pps_cons pe_str pe_int h.p, fun Hd => .cons ⟨rfl, .int i⟩ (h.d Hd)⟩
theorem pzd_str {k i : Str} {n m : Nat} {p1 p2 : Pos} (h : PZD X pos keys values us kvs) : PZD X pos (some (.Constant (.str k) n p1) :: keys) (.Constant (.str i) m p2 :: values) ((k, .str i) :: us) ((k, .str i) :: kvs) :=
  ⟨pps_cons pe_str pe_str h.p, fun Hd => .cons ⟨rfl, .str i⟩ (h.d Hd)⟩
def zdis (kvs : List (Str × PyData)) : ZF := fun _ S => .val (.dic (mergeD [] (kvs.map fun u => (Sum.inr u.1, u.2)))) S
theorem pzf_dis (h : PZD X pos keys values us kvs) (hall : keys.all (·.isSome) = true := by rfl) (hl : keys.length = values.length := by rfl) (h0 : keys ≠ [] := by simp) (h15 : keys.length ≤ 15 := by decide) (hu : us.length ≤ 15 := by decide) : PZF X (.Dict keys values pos) (zdis kvs) := fun W tk => by
  refine ⟨_, pe_disp h.p hall hl h0 h15, fun F σ H Q Γ S ρ Hd rl sl af => ?_⟩
  intro p hp
  refine cTrs_run us σ _ _ ⟨upd_same, us.map fun u => ((Sum.inr u.1 : Key), u.2), by rw [List.map_map]; rfl, by simpa using hu, ?_⟩
  have r1 := rl.junk (o := .dK []) hp
  have e : upd (upd H p (.dK [])) p (.dK (mergeK [] (us.map fun u => ((Sum.inr u.1 : Key), u.2)))) = upd H p (.dK (mergeK [] (us.map fun u => ((Sum.inr u.1 : Key), u.2)))) := by
    funext a
    by_cases q : a = p
    · rw [q, upd_same, upd_same]
    · rw [upd_ne q, upd_ne q, upd_ne q]
  rw [e]
  exact af p _ ρ Hd .refl (rl.junk hp) (fun z => rl.ne_new hp z rfl) (rl.fr_free hp) (rl.hd.free hp) (by rw [upd_same]; simp) ⟨p, _, rfl, upd_same, kv_merge (h.d Hd) .nil⟩
end
end Z
end
section
set_option Elab.async false
set_option linter.all false
set_option maxRecDepth 100000
set_option autoImplicit false
set_option maxHeartbeats 1000000
namespace Z
open PySem PySem.Spec PyProof.Rows L2
/-! ### the head -/
def clsBody (s : Stmt) : List Stmt := match s with
  | .ClassDef _ _ _ body _ _ _ _ _ _ _ => body
  | _ => []
def plainB (K : PySem.W.Frag) : Bool := K.all fun p => decide (p.2.cls ≠ .type "list") && (!decide (p.2.cls = .type "tuple") || p.2.dict.isNone)
def headB (tf : List (Str × Option Str)) (K : PySem.W.Frag) : Bool := plainB K && ((lamDefs.all fun p => tf.contains p || !tabbed K p) && (decide ((tfOf K).map fun p => (He.cT K p).2).Nodup && tf.all fun p => lamDefs.contains p))
theorem look_mem {α : Type} : ∀ {l : List (Addr × α)} {a : Addr} {x : α}, l.lookup a = some x → (a, x) ∈ l
  | (b, y) :: r, a, x, h => by
    rw [List.lookup_cons] at h
    split at h
    · rename_i e
      cases h
      rw [eq_of_beq e]
      exact List.mem_cons_self
    · exact List.mem_cons_of_mem _ (look_mem h)
structure HdOk (tf : List (Str × Option Str)) (K : PySem.W.Frag) : Prop where
  nk : ∀ a o, K.lookup a = some o → o.cls ≠ .type "list" ∧ (o.cls = .type "tuple" → o.dict = none)
  cov : ∀ p ∈ tfOf K, p ∈ tf
  nd : ((tfOf K).map fun p => (He.cT K p).2).Nodup
  lam : ∀ p ∈ tf, p ∈ lamDefs
theorem headB_ok {tf : List (Str × Option Str)} {K : PySem.W.Frag} (h : headB tf K = true) : HdOk tf K := by
  obtain ⟨h1, h2⟩ := He.ba h
  obtain ⟨h3, h4⟩ := He.ba h2
  obtain ⟨h5, h6⟩ := He.ba h4
  refine ⟨fun a o e => ?_, fun p hp => ?_, of_decide_eq_true h5, fun p hp => List.contains_iff_mem.mp (List.all_eq_true.mp h6 p hp)⟩
  · obtain ⟨a1, a2⟩ := He.ba (List.all_eq_true.mp h1 (a, o) (look_mem e))
    refine ⟨of_decide_eq_true a1, fun ht => ?_⟩
    have a2 : (!decide (o.cls = .type "tuple") || o.dict.isNone) = true := a2
    rw [decide_eq_true ht] at a2
    simpa using a2
  · obtain ⟨m1, m2⟩ := List.mem_filter.mp hp
    have := List.all_eq_true.mp h3 p m1
    rw [m2] at this
    simpa using this
theorem law_sp {K : PySem.W.Frag} {tf : List (Str × Option Str)} {n : Nat} {F : Fn} (hk : HdOk tf K) (hF : ∀ ns : List Int, ns.length ≤ n → ∃ S', F [.box 0] [.scr ns] = .val (.d (.bool true)) S') (H : Hp) (a : Addr) (ns : List Int) (hl : ns.length ≤ n) (hT : ∀ p ∈ tfOf K, H (He.cT K p).2 = some (.tbl #[])) (hS : SqL K H a (ns.map V.int)) :
    spOf K 1 F [.ref a] H (fun v _ => v = .bl true) fun _ _ _ => False := by
  have hz : H a = some (.lst (ns.map V.int)) ∨ ∃ o, H a = some (.frz o (.lst (ns.map V.int))) := by
    rcases hS with h | ⟨o, its, m, hk1, hc, _⟩
    · exact h
    · exact absurd hc (hk.nk _ _ hk1).1
  obtain ⟨S', e⟩ := hF ns hl
  have na : a ∉ (tfOf K).map fun p => (He.cT K p).2 := fun z => by
    obtain ⟨p, hp, ep⟩ := List.mem_map.mp z
    have := hT p hp
    rw [ep] at this
    rcases hz with h | ⟨o, h⟩ <;> (rw [h] at this; cases this)
  refine ⟨rfl, fi0, fun _ => none, [a :: (tfOf K).map fun p => (He.cT K p).2], fun _ => none, [.scr ns], [.box 0], ⟨grow0, fun _ _ z => (nomatch z), fun _ _ z => (nomatch z), fun _ _ z => (nomatch z), fun _ _ z => (nomatch z), hk.nk, rfl, ?_, fun b hb => ?_, fun i b as h1 h2 _ => ?_⟩, .cons ⟨a, _, rfl, rfl⟩ .nil, ?_⟩
  · simp only [List.flatten_cons, List.flatten_nil, List.append_nil]
    exact List.nodup_cons.mpr ⟨na, hk.nd⟩
  · simp only [List.flatten_cons, List.flatten_nil, List.append_nil] at hb
    rcases List.mem_cons.mp hb with e | hb
    · rw [e]
      rcases hz with h | ⟨o, h⟩ <;> (rw [h]; simp)
    · obtain ⟨p, hp, ep⟩ := List.mem_map.mp hb
      rw [← ep, hT p hp]
      simp
  · have hi : i = 0 := by
      have := (List.getElem?_eq_some_iff.mp h1).1
      simpa using this
    subst hi
    cases h1
    cases h2
    refine ⟨fun _ _ => ⟨rfl, rfl⟩, a, rfl, hz, fun p hp => ⟨#[], hT p hp, trivial, fun pos cv z => ?_⟩⟩
    have z : codeAmong pos [] = some cv := z
    simp [codeAmong] at z
  · rw [e]
    intro v H' ρ' Hd' g r hv
    cases hv
    rfl
theorem walk_z {l : PySem.W.OpenLaw} {n k : Nat} {q : Program} {loose : List Str} {XP : (Str → Option Value) → Heap → Prop} {YP : World → Heap → Prop} {d : DefRec} {x : Str} {F : Fn} {tf : List (Str × Option Str)}
    (hn : l.most = some n) (hn2 : n ≤ sizeLine) (hdf : d.params.defaults = []) (hr : Room k callerA)
    (hF : ∀ ns : List Int, ns.length ≤ n → ∃ S', F [.box 0] [.scr ns] = .val (.d (.bool true)) S')
    (h : ∀ (w : World) (mg : Str → Option Value) (fa : Addr) (h : Heap), YP w h → h.Ns mainGlobals mg → mg d.name = some (.ref fa) →
      ∃ (K : PySem.W.Frag) (fd : FuncData), HdOk tf K ∧ (∀ p ∈ tf, h.get? (He.cT K p).2 = some { cls := .none, data := .fields #[] }) ∧ (∀ p ∈ tf, K.lookup (He.cT K p).2 = none) ∧ (∀ p ∈ tf, PySem.W.codeHdIn K (He.cT K p).1 (He.cT K p).2 = true) ∧ K.In h ∧ (∀ (s : Shared) (u : Value), BindsTo s fd ⟨[u], []⟩ [(x, u)]) ∧
        ∀ base : Heap, K.In base → base.Ns mainGlobals mg → (∀ p ∈ tfOf K, LamX.TabB base mg (He.cT K p).1 (He.cT K p).2) → FnOk l.prog w K mg base (L2.CX l.prog w) k fa fd [x] (spOf K 1 F)) :
    PySem.W.WalkO q loose XP YP l.row.toRowW d [] (fun f vs => PySem.call f vs) := by
  refine LamX.walk_ofTsE (CX := fun w => L2.CX l.prog w) (x := x) hn hn2 hdf hr (fun w mg fa hp Y G hmg => ?_) fun w H s e s' hz => ?_
  · obtain ⟨K, fd, hk, he, ho, hh, KX, hb, hF'⟩ := h w mg fa hp Y G hmg
    refine ⟨K, KX, fd, (tfOf K).map (He.cT K), spOf K 1 F, fun p hp => ?_, fun p hp => ?_, fun p hp => ?_, hb, fun H a ns hl _ hT hS => ?_, fun base B N hT => ?_⟩
    · obtain ⟨p', hp', rfl⟩ := List.mem_map.mp hp
      exact he p' (hk.cov p' hp')
    · obtain ⟨p', hp', rfl⟩ := List.mem_map.mp hp
      exact ho p' (hk.cov p' hp')
    · obtain ⟨p', hp', rfl⟩ := List.mem_map.mp hp
      exact PySem.W.codeHd_of_K KX (hh p' (hk.cov p' hp'))
    · exact law_sp hk hF H a ns hl (fun p hp => hT _ (List.mem_map.mpr ⟨p, hp, rfl⟩)) hS
    · exact hF' base B N fun p hp => hT _ (List.mem_map.mpr ⟨p, hp, rfl⟩)
  · obtain ⟨_, _, _, _, _, _, _, _, _, _, _, _, hf⟩ := hz
    exact hf
theorem tf_mem {tf : List (Str × Option Str)} {K : PySem.W.Frag} {p : Str × Option Str} (hk : HdOk tf K) (hp : p ∈ tf) (h1 : PySem.W.codeHdIn K (He.cT K p).1 (He.cT K p).2 = true) (h2 : K.lookup (He.cT K p).2 = none) : p ∈ tfOf K := by
  refine List.mem_filter.mpr ⟨hk.lam p hp, ?_⟩
  unfold tabbed
  rw [h1, h2]
  rfl
/-! ### a def whose code object is known; a def that gets a closure -/
section
variable {P : Program} {w : World} {K : PySem.W.Frag} {mg : Str → Option Value} {base : Heap} {x qual : Str} {params : Arguments} {body : List Stmt} {scope : Scope} {dvs : List V} {kws : List (Str × V)} {fd : FuncData}
theorem fn_okC {N ps : List Str} {k n : Nat} {z : ZS} {p : Str × Option Str} (F : FunD K x qual params body scope dvs kws (He.fAd K p) fd) (S : FnScope N ps scope) (hn : N.length - ps.length = n)
    (h : ∀ (φ : Fi) (A : Around) (outer : List Env) (s : Shared) (H : Hp) (E : XK), Room k (cxOf (L2.CX P w) P w K mg base N qual scope (He.fAd K p) (.ref (He.cT K p).1) A outer s H E).A → PZSs ⟨cxOf (L2.CX P w) P w K mg base N qual scope (He.fAd K p) (.ref (He.cT K p).1) A outer s H E, φ⟩ body z) :
    FnOk P w K mg base (L2.CX P w) (k + 1) (He.fAd K p) fd ps (spOf K ps.length (zdef ps.length n z)) := by
  obtain ⟨oc, od, dV, kV, doc, pm, an, cdv, ct, osl, rfl, lk, hcd, _, _⟩ := F.ex
  obtain ⟨c, rfl⟩ := He.codeIn_ref hcd
  have ec : (He.cT K p).1 = c := He.codeOf_eq lk rfl
  rw [ec] at h
  refine fn_of lk hcd S (fun vs H Q E h => h.1) fun A outer s H vs Q E hr hsp => ?_
  obtain ⟨hl, φ, Fr, ρ, Hd, St, xs, rl, hx, af⟩ := hsp
  obtain ⟨t, pt, sd⟩ := h φ A outer s H E hr (passes_of rfl) (fun c d _ H => E c d H) (takes_of rfl rfl rfl rfl)
  exact ⟨t, pt, sd Fr _ _ H _ St ρ Hd rl (slots_start hx (by rw [hl]; exact hn)) (aft_def rl (by rw [← sl_len hx]; exact hl) (fun _ _ _ _ e => e) af)⟩
/-- a method -/
theorem calM_mk {C m : Str} {k n : Nat} {z : ZS} {f : Addr} {fd : FuncData} {ps : List Str} (hm : Meth K (He.ga K C) m f) (hb : Binds K fd ps []) (FO : FnOk P w K mg base (L2.CX P w) k f fd ps (spOf K ps.length (zdef ps.length n z))) : CalM P w K mg base C m k ps.length (zdef ps.length n z) :=
  ⟨f, fd, ps, hm, hb, rfl, FO⟩
end
end Z
end
section
set_option Elab.async false
set_option linter.all false
set_option maxRecDepth 100000
set_option autoImplicit false
set_option maxHeartbeats 1000000
namespace Z
open PySem L2
/-! ### reckoning with the meanings -/
theorem allD_nil : allD [] = some [] := rfl
theorem allD_cons {x : PyData} {r : List Sl} : allD (.d x :: r) = (allD r).map (x :: ·) := rfl
theorem dMul_ok {i j : Int} (h : (-18446744073709551616 < i ∧ i < 18446744073709551616) ∨ (-18446744073709551616 < j ∧ j < 18446744073709551616)) : dMul (.int i) (.int j) = some (.int (i * j)) := by
  refine if_pos ?_
  omega
theorem dMod_ok {i j : Int} (h : 0 < j) : dMod (.int i) (.int j) = some (.int (i % j)) := if_pos h
theorem dDiv_ok {i j : Int} (h : 0 < j ∧ j < 1073741824) : dDiv (.int i) (.int j) = some (.int (i / j)) := if_pos ⟨h.1, by omega⟩
theorem dEq_i {i j : Int} : dEq (.int i) (.int j) = some (.bool (i == j)) := rfl
theorem dEq_s {i j : Str} : dEq (.str i) (.str j) = some (.bool (i == j)) := rfl
theorem dEq_b {i j : Bool} : dEq (.bool i) (.bool j) = some (.bool (i == j)) := rfl
theorem dNe_i {i j : Int} : dNe (.int i) (.int j) = some (.bool (!(i == j))) := rfl
theorem dNe_s {i j : Str} : dNe (.str i) (.str j) = some (.bool (!(i == j))) := rfl
theorem dNe_b {i j : Bool} : dNe (.bool i) (.bool j) = some (.bool (!(i == j))) := rfl
theorem intsOf_nil : intsOf [] = some [] := rfl
theorem intsOf_cons {i : Int} {r : List PyData} : intsOf (.int i :: r) = (intsOf r).map (i :: ·) := rfl
theorem atI_0 {α : Type} {a : α} {l : List α} : atI (a :: l) 0 = some a := by
  unfold atI ixN
  rw [if_pos (Int.le_refl 0), if_pos (by simp)]
  rfl
theorem atI_1 {α : Type} {a b : α} {l : List α} : atI (a :: b :: l) 1 = some b := by
  unfold atI ixN
  rw [if_pos (by omega), if_pos (by simp only [List.length_cons]; omega)]
  rfl
theorem atI_2 {α : Type} {a b c : α} {l : List α} : atI (a :: b :: c :: l) 2 = some c := by
  unfold atI ixN
  rw [if_pos (by omega), if_pos (by simp only [List.length_cons]; omega)]
  rfl
theorem atI_ok {α : Type} {l : List α} {i : Int} (h0 : 0 ≤ i) (h1 : i < l.length) : atI l i = l[i.toNat]? := by
  unfold atI ixN
  rw [if_pos h0, if_pos h1]
  rfl
theorem atI_ex {α : Type} {l : List α} {i : Int} (h0 : 0 ≤ i) (h1 : i < l.length) : ∃ x, atI l i = some x ∧ x ∈ l := by
  have h : i.toNat < l.length := by omega
  exact ⟨l[i.toNat], by rw [atI_ok h0 h1, List.getElem?_eq_getElem h], List.getElem_mem h⟩
theorem mod_le {a b : Int} (h : 0 < b) : 0 ≤ a % b ∧ a % b < b := ⟨Int.emod_nonneg _ (by omega), Int.emod_lt_of_pos _ h⟩
theorem putD_keys {κ : Type} [DecidableEq κ] {kvs : List (κ × PyData)} {k : κ} {v : PyData} : (putD kvs k v).map (·.1) = if k ∈ kvs.map (·.1) then kvs.map (·.1) else kvs.map (·.1) ++ [k] := by
  unfold putD
  by_cases h : k ∈ kvs.map (·.1)
  · rw [if_pos h, if_pos (by
      obtain ⟨p, hp, e⟩ := List.mem_map.mp h
      exact List.any_eq_true.mpr ⟨p, hp, decide_eq_true e⟩), List.map_map]
    refine List.map_congr_left fun p _ => ?_
    show (if p.1 = k then (p.1, v) else p).1 = p.1
    split <;> rfl
  · rw [if_neg h, if_neg (by
      intro z
      obtain ⟨p, hp, e⟩ := List.any_eq_true.mp z
      exact h (List.mem_map.mpr ⟨p, hp, of_decide_eq_true e⟩)), List.map_append]
    rfl
theorem isort_lt {ks : List Int} (h : ks.Nodup) : (isort ks).Pairwise (· < ·) := by
  have h1 := isort_pw ks
  have h2 : (isort ks).Nodup := (isort_perm ks).nodup_iff.mpr h
  exact (h1.and h2).imp fun ⟨a, b⟩ => by omega
theorem isort_mem {ks : List Int} {x : Int} : x ∈ isort ks ↔ x ∈ ks := (isort_perm ks).mem_iff
theorem isort_len {ks : List Int} : (isort ks).length = ks.length := (isort_perm ks).length_eq
def izs (n : Nat) : List Int := (List.range n).map fun (i : Nat) => (i : Int)
theorem izs_mem {n : Nat} {x : Int} : x ∈ izs n ↔ 0 ≤ x ∧ x < n := by
  unfold izs
  rw [List.mem_map]
  constructor
  · rintro ⟨i, hi, rfl⟩
    have := List.mem_range.mp hi
    omega
  · rintro ⟨h0, h1⟩
    exact ⟨x.toNat, List.mem_range.mpr (by omega), by omega⟩
theorem sum_const {c : Nat} : ∀ {l : List Nat}, (∀ x ∈ l, x = c) → l.sum = l.length * c
  | [], _ => by simp
  | x :: l, h => by
    rw [List.sum_cons, h x List.mem_cons_self, sum_const fun y hy => h y (List.mem_cons_of_mem _ hy), List.length_cons, Nat.add_mul]
    omega
theorem izs_len {n : Nat} : (izs n).length = n := by simp [izs]
def izr (lo : Int) (n : Nat) : List Int := (List.range n).map fun (i : Nat) => lo + (i : Int)
theorem izr_mem {lo : Int} {n : Nat} {x : Int} : x ∈ izr lo n ↔ lo ≤ x ∧ x < lo + n := by
  unfold izr
  rw [List.mem_map]
  constructor
  · rintro ⟨i, hi, rfl⟩
    have := List.mem_range.mp hi
    omega
  · rintro ⟨h0, h1⟩
    exact ⟨(x - lo).toNat, List.mem_range.mpr (by omega), by omega⟩
theorem izr_len {lo : Int} {n : Nat} : (izr lo n).length = n := by simp [izr]
theorem rngL_izs {n : Nat} : rngL 0 n = (izs n).map .int := by
  unfold rngL izs
  rw [List.map_map]
  refine List.map_congr_left fun i _ => ?_
  show PyData.int (0 + (i : Int)) = .int i
  rw [Int.zero_add]
theorem rngL_izr {lo : Int} {n : Nat} : rngL lo n = (izr lo n).map .int := by
  unfold rngL izr
  rw [List.map_map]
  rfl
theorem rng1_ok {j : Int} (h : -1000000 < j ∧ j < 1000000) : rng1 [.d (.int j)] = some ((izs j.toNat).map .int) := by
  rw [← rngL_izs]
  exact if_pos (by omega)
theorem rng2_ok {i j : Int} (h : (-1000000 < i ∧ i < 1000000) ∧ -1000000 < j ∧ j < 1000000) : rng2 [.d (.int i), .d (.int j)] = some ((izr i (j - i).toNat).map .int) := by
  rw [← rngL_izr]
  exact if_pos (by omega)
/-! ### drums -/
structure IsDrum (n : Int) (hs : List Int) : Prop where
  ne : hs ≠ []
  lt : hs.Pairwise (· < ·)
  rg : ∀ h ∈ hs, 0 ≤ h ∧ h < n
/-! ### what a run ends with -/
abbrev XP := Str → Sto → Prop
abbrev noX : XP := fun _ _ => False
def OkE {α : Type} (o : Out α) (X : XP) (P : α → Sto → Prop) : Prop := match o with
  | .val a S => P a S
  | .exc c S => X c S
  | .bad => False
structure Po where
  nx : Env1 → Sto → Prop := fun _ _ => False
  rt : Sl → Sto → Prop := fun _ _ => False
  bk : Env1 → Sto → Prop := fun _ _ => False
  ct : Env1 → Sto → Prop := fun _ _ => False
  ex : Str → Env1 → Sto → Prop := fun _ _ _ => False
def OkS (o : FS) (D : Po) : Prop := match o with
  | .nx Γ S => D.nx Γ S
  | .rt x S => D.rt x S
  | .bk Γ S => D.bk Γ S
  | .ct Γ S => D.ct Γ S
  | .ex c Γ S => D.ex c Γ S
  | .bad => False
section
variable {α β : Type} {o : Out α} {X : XP} {P : β → Sto → Prop} {Q : α → Sto → Prop} {f : α → Sto → Out β} {Γ : Env1} {S : Sto} {h : α → Sto → FS} {D : Po} {k : ZS} {p : FS} {c : Str} {a : α}
theorem okE_val : OkE (.val a S) X Q = Q a S := rfl
theorem okE_exc : OkE (.exc c S : Out α) X Q = X c S := rfl
theorem okE_bind : OkE (o.bind f) X P = OkE o X fun a S => OkE (f a S) X P := by cases o <;> rfl
theorem okS_st : OkS (o.st Γ h) D = OkE o (fun c S => D.ex c Γ S) fun a S => OkS (h a S) D := by cases o <;> rfl
theorem okS_seq : OkS (p.seq k) D = OkS p { D with nx := fun Γ S => OkS (k Γ S) D } := by cases p <;> rfl
theorem okS_nx : OkS (.nx Γ S) D = D.nx Γ S := rfl
theorem okS_rt {x : Sl} : OkS (.rt x S) D = D.rt x S := rfl
theorem okS_bk : OkS (.bk Γ S) D = D.bk Γ S := rfl
theorem okS_ct : OkS (.ct Γ S) D = D.ct Γ S := rfl
theorem okS_ex : OkS (.ex c Γ S) D = D.ex c Γ S := rfl
theorem OkE.imp {Q' : α → Sto → Prop} {X' : XP} (h : OkE o X Q) (hx : ∀ c S, X c S → X' c S) (i : ∀ a S, Q a S → Q' a S) : OkE o X' Q' := by
  cases o with
  | val a S => exact i _ _ h
  | exc c S => exact hx _ _ h
  | bad => exact h
theorem OkE.eq (h : OkE o noX Q) : ∃ a S, o = .val a S ∧ Q a S := by
  cases o with
  | val a S => exact ⟨a, S, rfl, h⟩
  | exc c S => exact False.elim h
  | bad => exact False.elim h
theorem OkE.val {x : α} {S' : Sto} (h : OkE o noX fun a S => a = x ∧ S = S') : o = .val x S' := by
  obtain ⟨a, S, e, rfl, rfl⟩ := h.eq
  exact e
theorem okE_ofOpt {x : α} : OkE (ofOpt (some x) S) X Q = Q x S := rfl
theorem okE_ite {b : Prop} [Decidable b] {o o' : Out α} : OkE (if b then o else o') X Q = (if b then OkE o X Q else OkE o' X Q) := by split <;> rfl
theorem okS_ite {b : Prop} [Decidable b] {o o' : FS} : OkS (if b then o else o') D = (if b then OkS o D else OkS o' D) := by split <;> rfl
end
theorem ok_def {a n : Nat} {z : ZS} {xs : List Sl} {S : Sto} {X : XP} {P : Sl → Sto → Prop} (ha : xs.length = a)
    (h : OkS (z (xs.map some ++ List.replicate n none) S) { nx := fun _ S' => P (.d .none) (S'.take S.length), rt := fun x S' => OkE (retN S.length x S') X P, ex := fun c _ S' => X c (S'.take S.length) }) : OkE (zdef a n z xs S) X P := by
  unfold zdef
  rw [if_pos ha]
  cases q : z (xs.map some ++ List.replicate n none) S with
  | nx Γ' S' => rw [q] at h; exact h
  | rt x S' => rw [q] at h; exact h
  | bk Γ' S' => rw [q] at h; exact False.elim h
  | ct Γ' S' => rw [q] at h; exact False.elim h
  | ex c Γ' S' => rw [q] at h; exact h
  | bad => rw [q] at h; exact False.elim h
theorem ok_seq {z z' : ZS} {Γ : Env1} {S : Sto} {D : Po} (h : OkS (z Γ S) { D with nx := fun Γ S => OkS (z' Γ S) D }) : OkS (zseq z z' Γ S) D := by
  unfold zseq
  rw [okS_seq]
  exact h
theorem zdef_val {a n : Nat} {z : ZS} {xs : List Sl} {S S1 S2 : Sto} {d : PyData} (ha : xs.length = a) (h : z (xs.map some ++ List.replicate n none) S = .rt (.d d) S1) (hs : S1.take S.length = S2) : zdef a n z xs S = .val (.d d) S2 := by
  unfold zdef
  rw [if_pos ha, h, ← hs]
  rfl
theorem cut_init {α : Type} {l : List α} : cutL l none (some (-1)) = l.dropLast := by
  unfold cutL
  show (l.drop 0).take ((if (-1 : Int) < 0 then (-1 + (l.length : Int)).toNat else min (-1 : Int).toNat l.length) - 0) = _
  rw [if_pos (by omega), List.drop_zero, List.dropLast_eq_take]
  congr 1
  omega
theorem cut_tail {α : Type} {l : List α} : cutL l (some 1) none = l.tail := by
  unfold cutL
  show (l.drop (if (1 : Int) < 0 then (1 + (l.length : Int)).toNat else min (1 : Int).toNat l.length)).take (l.length - (if (1 : Int) < 0 then (1 + (l.length : Int)).toNat else min (1 : Int).toNat l.length)) = _
  rw [if_neg (by omega)]
  cases l with
  | nil => rfl
  | cons a l =>
    have e : min (1 : Int).toNat (a :: l).length = 1 := by simp only [List.length_cons]; omega
    rw [e]
    simp
theorem retN_d {n : Nat} {y : PyData} {S : Sto} : retN n (.d y) S = .val (.d y) (S.take n) := rfl
theorem getLast0 {α : Type} {l : List α} {a : α} : (l ++ [a])[l.length]? = some a := by simp
theorem setLast0 {α : Type} {l : List α} {a b : α} : (l ++ [a]).set l.length b = l ++ [b] := by simp
theorem takeLast0 {α : Type} {l r : List α} : (l ++ r).take l.length = l := by simp
theorem takeLast1 {α : Type} {l : List α} {a : α} : (l ++ [a]).take (l.length + 1) = l ++ [a] := List.take_of_length_le (by simp)
/-! ### loops -/
theorem ok_forGo {n : Nat} {g : ZG} {body : ZS} {D : Po} (I : Nat → Env1 → Sto → Prop) : ∀ (ds : List PyData) (j : Nat) (Γ : Env1) (S : Sto), I j Γ S →
    (∀ i d Γ S, ds[i]? = some d → I (j + i) Γ S → ∃ Γ1, g d Γ = some Γ1 ∧ OkS (body Γ1 S) { D with nx := fun Γ' S' => I (j + i + 1) (forget n Γ') (S'.take n), ct := fun Γ' S' => I (j + i + 1) (forget n Γ') (S'.take n), bk := D.nx }) →
    (∀ Γ S, I (j + ds.length) Γ S → D.nx Γ S) → OkS (forGo n g body ds Γ S) D
  | [], j, Γ, S, h0, _, h2 => h2 Γ S h0
  | d :: ds, j, Γ, S, h0, h1, h2 => by
    obtain ⟨Γ1, e, hb⟩ := h1 0 d Γ S rfl h0
    have go : ∀ (Γ2 : Env1) (S2 : Sto), I (j + 0 + 1) (forget n Γ2) (S2.take n) → OkS (forGo n g body ds (forget n Γ2) (S2.take n)) D := fun Γ2 S2 hi =>
      ok_forGo I ds (j + 1) _ _ hi (fun i d Γ S e h => by
        have e1 : j + 1 + i = j + (i + 1) := by omega
        rw [e1] at h ⊢
        exact h1 (i + 1) d Γ S e h) fun Γ S h => h2 Γ S (by
        have e1 : j + (d :: ds).length = j + 1 + ds.length := by simp only [List.length_cons]; omega
        rw [e1]
        exact h)
    unfold forGo
    rw [e]
    dsimp only
    cases q : body Γ1 S with
    | nx Γ2 S2 => rw [q] at hb; exact go Γ2 S2 hb
    | ct Γ2 S2 => rw [q] at hb; exact go Γ2 S2 hb
    | bk Γ2 S2 => rw [q] at hb; exact hb
    | rt x S2 => rw [q] at hb; exact hb
    | ex c Γ2 S2 => rw [q] at hb; exact hb
    | bad => rw [q] at hb; exact False.elim hb
/-- a for loop with an invariant -/
theorem ok_for {n : Nat} {g : ZG} {body : ZS} {D : Po} (I : Nat → Env1 → Sto → Prop) {ds : List PyData} {Γ : Env1} {S : Sto} (h0 : I 0 Γ S)
    (h1 : ∀ i d Γ S, ds[i]? = some d → I i Γ S → ∃ Γ1, g d Γ = some Γ1 ∧ OkS (body Γ1 S) { D with nx := fun Γ' S' => I (i + 1) (forget n Γ') (S'.take n), ct := fun Γ' S' => I (i + 1) (forget n Γ') (S'.take n), bk := D.nx })
    (h2 : ∀ Γ S, I ds.length Γ S → D.nx Γ S) : OkS (forGo n g body ds Γ S) D :=
  ok_forGo I ds 0 Γ S h0 (fun i d Γ S e h => by
    have e1 : 0 + i = i := by omega
    rw [e1] at h ⊢
    exact h1 i d Γ S e h) fun Γ S h => h2 Γ S (by rw [Nat.zero_add] at h; exact h)
/-- a while loop: a measure goes down -/
theorem ok_while {n : Nat} {zt : ZT} {body : ZS} {D : Po} (I : Nat → Env1 → Sto → Prop)
    (h1 : ∀ m Γ S, I m Γ S → OkE (zt Γ S) (fun c S => D.ex c Γ S) fun c S1 => if c = true then OkS (body Γ S1) { D with nx := fun Γ' S' => ∃ m', m' < m ∧ I m' (forget n Γ') (S'.take n), ct := fun Γ' S' => ∃ m', m' < m ∧ I m' (forget n Γ') (S'.take n), bk := D.nx } else D.nx Γ S1) :
    ∀ (k m : Nat) (Γ : Env1) (S : Sto), m < k → I m Γ S → OkS (whGo n zt body k Γ S) D
  | 0, m, _, _, hm, _ => absurd hm (Nat.not_lt_zero m)
  | k + 1, m, Γ, S, hm, h0 => by
    have h := h1 m Γ S h0
    unfold whGo
    rw [okS_st]
    refine OkE.imp h (fun _ _ z => z) fun c S1 hc => ?_
    cases c with
    | false => exact hc
    | true =>
      have go : ∀ (Γ2 : Env1) (S2 : Sto), (∃ m', m' < m ∧ I m' (forget n Γ2) (S2.take n)) → OkS (whGo n zt body k (forget n Γ2) (S2.take n)) D := fun Γ2 S2 ⟨m', a, b⟩ => ok_while I h1 k m' _ _ (by omega) b
      have hc : OkS (body Γ S1) { D with nx := fun Γ' S' => ∃ m', m' < m ∧ I m' (forget n Γ') (S'.take n), ct := fun Γ' S' => ∃ m', m' < m ∧ I m' (forget n Γ') (S'.take n), bk := D.nx } := hc
      rw [if_pos rfl]
      cases q : body Γ S1 with
      | nx Γ2 S2 => rw [q] at hc; exact go Γ2 S2 hc
      | ct Γ2 S2 => rw [q] at hc; exact go Γ2 S2 hc
      | bk Γ2 S2 => rw [q] at hc; exact hc
      | rt x S2 => rw [q] at hc; exact hc
      | ex c Γ2 S2 => rw [q] at hc; exact hc
      | bad => rw [q] at hc; exact False.elim hc
/-- a comprehension whose items are told, and that changes nothing -/
theorem ok_lc {one : PyData → Sto → Out (Option PyData)} {S : Sto} {f : PyData → Option PyData} : ∀ (ds acc : List PyData), (∀ d ∈ ds, one d S = .val (f d) S) → acc.length + ds.length ≤ 1000000 → lcGo one ds acc S = .val (acc ++ ds.filterMap f) S
  | [], acc, _, _ => by simp [lcGo]
  | d :: ds, acc, h, hl => by
    simp only [List.length_cons] at hl
    unfold lcGo
    rw [h d List.mem_cons_self, bind_val]
    cases q : f d with
    | none =>
      dsimp only
      rw [ok_lc ds acc (fun d hd => h d (List.mem_cons_of_mem _ hd)) (by omega), List.filterMap_cons_none q]
    | some y =>
      dsimp only
      rw [if_pos (show acc.length < 1000000 by omega), ok_lc ds (acc ++ [y]) (fun d hd => h d (List.mem_cons_of_mem _ hd)) (by simp; omega), List.filterMap_cons_some q]
      simp
/-- one with no test: the items' map -/
theorem lc_map {g : ZG} {ze : ZE} {Γ0 : Env1} {S : Sto} {ds : List PyData} (f : PyData → PyData) (hl : ds.length ≤ 1000000) (h : ∀ d ∈ ds, ∃ Γ1, g d Γ0 = some Γ1 ∧ ze Γ1 S = .val (.d (f d)) S) :
    lcGo (lcOne S.length g ztrue ze Γ0) ds [] S = .val (ds.map f) S := by
  rw [ok_lc (f := fun d => some (f d)) ds [] (fun d hd => by
    obtain ⟨Γ1, e1, e2⟩ := h d hd
    unfold lcOne
    rw [e1]
    dsimp only [ztrue]
    rw [e2]
    dsimp only
    rw [List.take_length]) (by simpa using hl)]
  simp [List.filterMap_eq_map]
theorem lc_filter {g : ZG} {zt : ZT} {ze : ZE} {Γ0 : Env1} {S : Sto} {ds : List PyData} (p : PyData → Bool) (f : PyData → PyData) (hl : ds.length ≤ 1000000) (h : ∀ d ∈ ds, ∃ Γ1, g d Γ0 = some Γ1 ∧ zt Γ1 S = .val (p d) S ∧ (p d = true → ze Γ1 S = .val (.d (f d)) S)) :
    lcGo (lcOne S.length g zt ze Γ0) ds [] S = .val ((ds.filter p).map f) S := by
  rw [ok_lc (f := fun d => if p d = true then some (f d) else none) ds [] (fun d hd => by
    obtain ⟨Γ1, e1, e2, e3⟩ := h d hd
    unfold lcOne
    rw [e1]
    dsimp only
    rw [e2]
    cases q : p d with
    | false =>
      dsimp only
      rw [List.take_length]
      rfl
    | true =>
      dsimp only
      rw [e3 q]
      dsimp only
      rw [List.take_length]
      rfl) (by simpa using hl)]
  rw [List.nil_append]
  congr 1
  clear h hl
  induction ds with
  | nil => rfl
  | cons d ds ih =>
    cases q : p d with
    | false => rw [List.filterMap_cons_none (by simp [q]), ih, List.filter_cons_of_neg (by simp [q])]
    | true => rw [List.filterMap_cons_some (by simp [q]; rfl), ih, List.filter_cons_of_pos (by simp [q])]; rfl
theorem lc_int {n i : Nat} {ze : ZE} {Γ0 : Env1} {S : Sto} {xs : List Int} (f : Int → Int) (h : ∀ x ∈ xs, ze (Γ0.set i (some (.d (.int x)))) S = .val (.d (.int (f x))) S) (hl : xs.length ≤ 1000000) (hn : S.length = n) :
    lcGo (lcOne n (gN i) ztrue ze Γ0) (xs.map .int) [] S = .val ((xs.map f).map .int) S := by
  subst hn
  rw [lc_map (fun d => match d with | .int x => .int (f x) | _ => .none) (by simpa using hl) fun d hd => by
    obtain ⟨x, hx, rfl⟩ := List.mem_map.mp hd
    exact ⟨_, rfl, h x hx⟩, List.map_map, List.map_map]
  rfl
theorem lc_int_filter {n i : Nat} {zt : ZT} {ze : ZE} {Γ0 : Env1} {S : Sto} {xs : List Int} (p : Int → Bool) (f : Int → Int) (h1 : ∀ x ∈ xs, zt (Γ0.set i (some (.d (.int x)))) S = .val (p x) S) (h : ∀ x ∈ xs, p x = true → ze (Γ0.set i (some (.d (.int x)))) S = .val (.d (.int (f x))) S) (hl : xs.length ≤ 1000000) (hn : S.length = n) :
    lcGo (lcOne n (gN i) zt ze Γ0) (xs.map .int) [] S = .val (((xs.filter p).map f).map .int) S := by
  subst hn
  rw [lc_filter (fun d => match d with | .int x => p x | _ => false) (fun d => match d with | .int x => .int (f x) | _ => .none) (by simpa using hl) fun d hd => by
    obtain ⟨x, hx, rfl⟩ := List.mem_map.mp hd
    exact ⟨_, rfl, h1 x hx, h x hx⟩, List.filter_map, List.map_map, List.map_map]
  rfl
theorem ok_zlc {zi : ZI} {i : Nat} {ze : ZE} {vs : List Nat} {Γ : Env1} {S : Sto} {X : XP} {P : Box → Sto → Prop} (xs : List Int) (f : Int → Int) (hz : zi Γ S = .val (xs.map .int) S) (hl : xs.length ≤ 1000000)
    (h : ∀ x ∈ xs, ze ((wipeZ Γ vs).set i (some (.d (.int x)))) S = .val (.d (.int (f x))) S) (hp : P (.lst ((xs.map f).map .int)) S) : OkE (zlc zi (gN i) ztrue ze vs Γ S) X P := by
  unfold zlc
  rw [hz, bind_val, lc_int f h hl rfl]
  exact hp
theorem ok_zlcF {zi : ZI} {i : Nat} {zt : ZT} {ze : ZE} {vs : List Nat} {Γ : Env1} {S : Sto} {X : XP} {P : Box → Sto → Prop} (xs : List Int) (p : Int → Bool) (f : Int → Int) (hz : zi Γ S = .val (xs.map .int) S) (hl : xs.length ≤ 1000000)
    (h1 : ∀ x ∈ xs, zt ((wipeZ Γ vs).set i (some (.d (.int x)))) S = .val (p x) S) (h : ∀ x ∈ xs, p x = true → ze ((wipeZ Γ vs).set i (some (.d (.int x)))) S = .val (.d (.int (f x))) S) (hp : P (.lst (((xs.filter p).map f).map .int)) S) : OkE (zlc zi (gN i) zt ze vs Γ S) X P := by
  unfold zlc
  rw [hz, bind_val, lc_int_filter p f h1 h hl rfl]
  exact hp
theorem ok_zlcM {α : Type} {zi : ZI} {g : ZG} {ze : ZE} {vs : List Nat} {Γ : Env1} {S : Sto} {X : XP} {P : Box → Sto → Prop} (xs : List α) (j f : α → PyData) (hz : zi Γ S = .val (xs.map j) S) (hl : xs.length ≤ 1000000)
    (h : ∀ x ∈ xs, ∃ Γ1, g (j x) (wipeZ Γ vs) = some Γ1 ∧ ze Γ1 S = .val (.d (f x)) S) (hp : P (.lst (xs.map f)) S) : OkE (zlc zi g ztrue ze vs Γ S) X P := by
  unfold zlc
  rw [hz, bind_val]
  have e : ∀ (ys : List α) (acc : List PyData), (∀ x ∈ ys, ∃ Γ1, g (j x) (wipeZ Γ vs) = some Γ1 ∧ ze Γ1 S = .val (.d (f x)) S) → acc.length + ys.length ≤ 1000000 → lcGo (lcOne S.length g ztrue ze (wipeZ Γ vs)) (ys.map j) acc S = .val (acc ++ ys.map f) S := by
    intro ys
    induction ys with
    | nil => intro acc _ _; simp [lcGo]
    | cons y ys ih =>
      intro acc hy hl
      simp only [List.length_cons] at hl
      obtain ⟨Γ1, e1, e2⟩ := hy y List.mem_cons_self
      rw [List.map_cons, lcGo]
      have e3 : lcOne S.length g ztrue ze (wipeZ Γ vs) (j y) S = .val (some (f y)) S := by
        unfold lcOne
        rw [e1]
        dsimp only [ztrue]
        rw [e2]
        dsimp only
        rw [List.take_length]
      rw [e3, bind_val]
      dsimp only
      rw [if_pos (show acc.length < 1000000 by omega), ih _ (fun x hx => hy x (List.mem_cons_of_mem _ hx)) (by simp; omega)]
      simp
  rw [e xs [] h (by simpa using hl), List.nil_append]
  exact hp
theorem zip_pairs {α : Type} {j : α → PyData} (a b : List α) : zipD (a.map j) (b.map j) = (a.zip b).map fun p => .tuple [j p.1, j p.2] := by
  unfold zipD
  rw [List.zipWith_map, List.zip, List.map_zipWith]
theorem isIn_ints {x : Int} {xs : List Int} : isIn (.int x) (xs.map .int) = decide (x ∈ xs) := by
  unfold isIn
  rw [List.any_map]
  apply Bool.eq_iff_iff.mpr
  rw [List.any_eq_true, decide_eq_true_eq]
  constructor
  · rintro ⟨y, hy, e⟩
    have e : PyData.eqv (.int y) (.int x) = true := e
    have : y = x := by simpa [PyData.eqv] using e
    exact this ▸ hy
  · intro hx
    exact ⟨x, hx, by simp [PyData.eqv]⟩
theorem memD_tup {x : Int} {xs : List Int} : memD (.int x) (.tuple (xs.map .int)) = some (decide (x ∈ xs)) := by
  unfold memD
  dsimp only
  rw [if_pos ⟨rfl, by simp [flatD]⟩, isIn_ints]
theorem memD_lst {x : Int} {xs : List Int} : memD (.int x) (.list (xs.map .int)) = some (decide (x ∈ xs)) := by
  unfold memD
  dsimp only
  rw [if_pos ⟨rfl, by simp [flatD]⟩, isIn_ints]
/-! ### what may be compared -/
def okD (k : Nat) (d : PyData) : Prop := d.canLay0 = true ∧ d.depth ≤ k
theorem okD_int {k : Nat} {i : Int} : okD k (.int i) := ⟨by simp [PyData.canLay0], by simp [PyData.depth]⟩
theorem okD_bool {k : Nat} {i : Bool} : okD k (.bool i) := ⟨by simp [PyData.canLay0], by simp [PyData.depth]⟩
theorem okD_none {k : Nat} : okD k .none := ⟨by simp [PyData.canLay0], by simp [PyData.depth]⟩
theorem okD_all {k : Nat} : ∀ {ds : List PyData}, (∀ d ∈ ds, okD k d) → PyData.canLayAll0 ds = true ∧ PyData.depthAll ds ≤ k
  | [], _ => ⟨by simp [PyData.canLayAll0], by simp [PyData.depthAll]⟩
  | d :: ds, h => by
    have h1 := h d List.mem_cons_self
    have h2 := okD_all fun x hx => h x (List.mem_cons_of_mem _ hx)
    exact ⟨by simp [PyData.canLayAll0, h1.1, h2.1], by simp only [PyData.depthAll]; exact Nat.max_le.mpr ⟨h1.2, h2.2⟩⟩
theorem okD_tuple {k : Nat} {ds : List PyData} (h : ∀ d ∈ ds, okD k d) : okD (k + 1) (.tuple ds) := by
  have := okD_all h
  exact ⟨by simp only [PyData.canLay0]; exact this.1, by simp only [PyData.depth]; omega⟩
theorem okD_list {k : Nat} {ds : List PyData} (h : ∀ d ∈ ds, okD k d) : okD (k + 1) (.list ds) := by
  have := okD_all h
  exact ⟨by simp only [PyData.canLay0]; exact this.1, by simp only [PyData.depth]; omega⟩
theorem okD.shaped {k : Nat} {d : PyData} (h : okD k d) (hk : k ≤ 64) : SeqAt.shaped d = true := by
  unfold SeqAt.shaped
  rw [h.1, decide_eq_true (Nat.le_trans h.2 hk)]
  rfl
theorem okD_ints {ns : List Int} : ∀ d ∈ ns.map PyData.int, okD 0 d := fun d hd => by
  obtain ⟨x, _, rfl⟩ := List.mem_map.mp hd
  exact okD_int
theorem eqvAll_map {α : Type} [DecidableEq α] {f : α → PyData} (h : ∀ x y, PyData.eqv (f x) (f y) = decide (x = y)) : ∀ xs ys : List α, PyData.eqvAll (xs.map f) (ys.map f) = decide (xs = ys)
  | [], [] => by simp [PyData.eqvAll]
  | x :: xs, [] => by simp [PyData.eqvAll]
  | [], y :: ys => by simp [PyData.eqvAll]
  | x :: xs, y :: ys => by
    rw [List.map_cons, List.map_cons, PyData.eqvAll, h, eqvAll_map h]
    apply Bool.eq_iff_iff.mpr
    simp
theorem eqv_int {x y : Int} : PyData.eqv (.int x) (.int y) = decide (x = y) := by
  apply Bool.eq_iff_iff.mpr
  simp [PyData.eqv]
theorem dEq_ti {xs ys : List Int} : dEq (.tuple (xs.map .int)) (.tuple (ys.map .int)) = some (.bool (decide (xs = ys))) := by
  unfold dEq
  dsimp only
  rw [if_pos ⟨(okD_tuple okD_ints).shaped (by decide), (okD_tuple okD_ints).shaped (by decide)⟩, PyData.eqv, eqvAll_map fun x y => eqv_int]
theorem dNe_ti {xs ys : List Int} : dNe (.tuple (xs.map .int)) (.tuple (ys.map .int)) = some (.bool (!decide (xs = ys))) := by
  unfold dNe
  dsimp only
  rw [if_pos ⟨(okD_tuple okD_ints).shaped (by decide), (okD_tuple okD_ints).shaped (by decide)⟩, PyData.eqv, eqvAll_map fun x y => eqv_int]
theorem dEq_li {xs ys : List Int} : dEq (.list (xs.map .int)) (.list (ys.map .int)) = some (.bool (decide (xs = ys))) := by
  unfold dEq
  dsimp only
  rw [if_pos ⟨(okD_list okD_ints).shaped (by decide), (okD_list okD_ints).shaped (by decide)⟩, PyData.eqv, eqvAll_map fun x y => eqv_int]
theorem dNe_li {xs ys : List Int} : dNe (.list (xs.map .int)) (.list (ys.map .int)) = some (.bool (!decide (xs = ys))) := by
  unfold dNe
  dsimp only
  rw [if_pos ⟨(okD_list okD_ints).shaped (by decide), (okD_list okD_ints).shaped (by decide)⟩, PyData.eqv, eqvAll_map fun x y => eqv_int]
end Z
end
section
set_option Elab.async false
set_option linter.all false
set_option maxRecDepth 100000
set_option maxHeartbeats 0
namespace Zc
open PySem L2 Z
def t_BEATS : List (Str × Int) := [("put", 0), ("add", 1), ("sub", 1), ("save", 0)]
def o_BEATS : List Str := ["less", "stop"]
abbrev c_WITH_WORD : PyData := .tuple ((["put", "add", "sub", "save"] : List Str).map .str)
def z__law_draw : ZS := zseq (zdrop (zapp (zv 1) (zc (.int 0)))) (zseq (zset 3 (zcb lenS (zacons (zv 1) (zanil)))) (zseq (zset 4 (zc (.int 0))) (zseq (zifS (ztru (zv 0)) (zset 4 (zop dIx (zv 0) (zop dMod (zv 3) (zcb lenS (zacons (zv 0) (zanil)))))) (znil)) (zseq (zset 5 (zop dMod (zop dAdd (zv 4) (zop dMul (zc (.int 104729)) (zv 3))) (zc (.int 4294967291)))) (zseq (zset 5 (zop dMod (zop dMul (zop dMod (zop dMul (zv 5) (zv 5)) (zc (.int 4294967279))) (zc (.int 48271))) (zc (.int 4294967291)))) (zseq (zset 6 (zop dMod (zop dMul (zop dMod (zop dMul (zv 5) (zv 5)) (zc (.int 4294967279))) (zc (.int 69621))) (zc (.int 4294967291)))) (zret (zop dMod (zop dAdd (zop dMul (zop dDiv (zv 5) (zc (.int 64))) (zc (.int 67108864))) (zop dDiv (zv 6) (zc (.int 64)))) (zv 2)))))))))
def F__law_draw : Fn := zdef 3 4 z__law_draw
def z__law_pick : ZS := zret (zop dIx (zv 2) (zcall F__law_draw (zacons (zv 0) (zacons (zv 1) (zacons (zcb lenS (zacons (zv 2) (zanil))) (zanil))))))
def F__law_pick : Fn := zdef 3 0 z__law_pick
def b1__law_drum : ZS := zdput (zv 5) (zcall F__law_draw (zacons (zv 0) (zacons (zv 1) (zacons (zv 4) (zanil))))) (zc (.int 0))
def z__law_drum : ZS := zseq (zset 4 (zop dAdd (zv 2) (zcall F__law_draw (zacons (zv 0) (zacons (zv 1) (zacons (zop dAdd (zop dSub (zv 3) (zv 2)) (zc (.int 1))) (zanil))))))) (zseq (zsetF 5 (zdnew)) (zseq (zfor (ziA rng1 (zacons (zop dAdd (zc (.int 1)) (zcall F__law_draw (zacons (zv 0) (zacons (zv 1) (zacons (zc (.int 3)) (zanil)))))) (zanil))) (gN 6) (b1__law_drum)) (zret (ztup (zacons (zv 4) (zacons (zcb (on1 dTup) (zacons (zfz (zcf srtS (zacons (zv 5) (zanil)))) (zanil))) (zanil)))))))
def F__law_drum : Fn := zdef 4 3 z__law_drum
def z_read_time : ZS := zret (zcb (on1 (lstOnly dMin)) (zacons (zfz (zlc (ziQ (zop dIx (zv 0) (zc (.int 1)))) (gN 3) (ztrue) (zop dAdd (zv 2) (zop dMod (zop dSub (zop dSub (zv 1) (zv 3)) (zv 2)) (zop dIx (zv 0) (zc (.int 0))))) [3])) (zanil)))
def F_read_time : Fn := zdef 3 1 z_read_time
def z_longest_wait : ZS := zseq (zset 1 (zop dAdd (zop dIx (zv 0) (zc (.int 1))) (ztup (zacons (zop dAdd (zop dIx (zop dIx (zv 0) (zc (.int 1))) (zc (.int 0))) (zop dIx (zv 0) (zc (.int 0)))) (zanil))))) (zret (zop dSub (zcb (on1 (lstOnly dMax)) (zacons (zfz (zlc (ziA zipOf (zacons (zsl (zv 1) (zon) (zos (zneg (zc (.int 1))))) (zacons (zsl (zv 1) (zos (zc (.int 1))) (zon)) (zanil)))) (gT2 (gN 2) (gN 3)) (ztrue) (zop dSub (zv 3) (zv 2)) [2, 3])) (zanil))) (zc (.int 1))))
def F_longest_wait : Fn := zdef 1 3 z_longest_wait
def z_spots_under : ZS := zret (zcb (on1 dTup) (zacons (zfz (zlc (ziQ (zop dIx (zv 0) (zc (.int 1)))) (gN 2) (ztrue) (zop dMod (zop dAdd (zv 1) (zv 2)) (zop dIx (zv 0) (zc (.int 0)))) [2])) (zanil)))
def F_spots_under : Fn := zdef 2 1 z_spots_under
def b1_times_of : ZS := zseq (zdrop (zapp (zv 4) (zv 5))) (zset 5 (zcall F_read_time (zacons (zv 0) (zacons (zv 1) (zacons (zop dAdd (zv 5) (zc (.int 1))) (zanil))))))
def z_times_of : ZS := zseq (zsetF 4 (zlst (zanil))) (zseq (zset 5 (zcall F_read_time (zacons (zv 0) (zacons (zv 1) (zacons (zv 2) (zanil)))))) (zseq (zwhile fuel (ztst (zop dLt (zv 5) (zv 3))) (b1_times_of)) (zret (zcb (on1 dTup) (zacons (zv 4) (zanil))))))
def F_times_of : Fn := zdef 4 2 z_times_of
def z_is_whole : ZS := zret (zandV (zisi "int" (zv 0)) (zandV (znotV (ztru (zisi "bool" (zv 0)))) (zchain dLe dLe (zv 1) (zv 0) (zv 2))))
def F_is_whole : Fn := zdef 3 0 z_is_whole
def z_is_drum : ZS := zseq (zifS (zor (znot (ztru (zisi "tuple" (zv 0)))) (zor (ztst (zop dNe (zcb lenS (zacons (zv 0) (zanil))) (zc (.int 2)))) (znot (ztru (zcall F_is_whole (zacons (zop dIx (zv 0) (zc (.int 0))) (zacons (zc (.int 4)) (zacons (zc (.int 24)) (zanil))))))))) (zret (zc (.bool false))) (znil)) (zseq (zifS (zor (znot (ztru (zisi "tuple" (zop dIx (zv 0) (zc (.int 1)))))) (znot (ztst (zchain dLe dLe (zc (.int 1)) (zcb lenS (zacons (zop dIx (zv 0) (zc (.int 1))) (zanil))) (zc (.int 3)))))) (zret (zc (.bool false))) (znil)) (zseq (zifS (znot (ztru (zcb (on1 (lstOnly dAll)) (zacons (zfz (zlc (ziQ (zop dIx (zv 0) (zc (.int 1)))) (gN 1) (ztrue) (zcall F_is_whole (zacons (zv 1) (zacons (zc (.int 0)) (zacons (zop dSub (zop dIx (zv 0) (zc (.int 0))) (zc (.int 1))) (zanil))))) [1])) (zanil))))) (zret (zc (.bool false))) (znil)) (zret (zcb (on1 (lstOnly dAll)) (zacons (zfz (zlc (ziA zipOf (zacons (zsl (zop dIx (zv 0) (zc (.int 1))) (zon) (zos (zneg (zc (.int 1))))) (zacons (zsl (zop dIx (zv 0) (zc (.int 1))) (zos (zc (.int 1))) (zon)) (zanil)))) (gT2 (gN 1) (gN 2)) (ztrue) (zop dLt (zv 1) (zv 2)) [1, 2])) (zanil))))))
def F_is_drum : Fn := zdef 1 2 z_is_drum
def z_names : ZS := zret (zcb (on1 dTup) (zacons (zfz (zlc (ziQ (zv 0)) (gT2 (gN 1) (gN 2)) (ztrue) (zv 1) [1, 2])) (zanil)))
def F_names : Fn := zdef 1 2 z_names
def z_orders : ZS := zret (zcb (on1 dTup) (zacons (zfz (zlc (ziQ (zv 0)) (gT2 (gN 1) (gN 2)) (ztru (zisi "tuple" (zv 2))) (zv 1) [1, 2])) (zanil)))
def F_orders : Fn := zdef 1 2 z_orders
def z_words : ZS := zret (zcb (on1 dTup) (zacons (zfz (zlc (ziQ (zv 0)) (gT2 (gN 1) (gN 2)) (ztru (zisi "int" (zv 2))) (zv 1) [1, 2])) (zanil)))
def F_words : Fn := zdef 1 2 z_words
def z_content_of : ZS := zseq (zsetF 2 (zcf (on1 bDic) (zacons (zv 0) (zanil)))) (zseq (zifS (ztst (zdnin (zv 1) (zv 2))) (zraise "NoName") (znil)) (zret (zdget (zv 2) (zv 1))))
def F_content_of : Fn := zdef 2 1 z_content_of
def z_need_order : ZS := zifS (ztst (zop dNotIn (zv 1) (zcall F_orders (zacons (zv 0) (zanil))))) (zraise "NoName") (znil)
def F_need_order : Fn := zdef 2 0 z_need_order
def b1_is_laying : ZS := zseq (zifS (zor (znot (ztru (zisi "tuple" (zv 4)))) (zor (ztst (zop dNe (zcb lenS (zacons (zv 4) (zanil))) (zc (.int 2)))) (zor (znot (ztru (zisi "str" (zop dIx (zv 4) (zc (.int 0)))))) (ztst (zop dNe (zop dIx (zv 4) (zc (.int 0))) (zv 3)))))) (zret (zc (.bool false))) (znil)) (zifS (zor (znot (ztru (zisi "int" (zop dIx (zv 4) (zc (.int 1)))))) (zor (ztru (zisi "bool" (zop dIx (zv 4) (zc (.int 1))))) (znot (ztst (zchain dLe dLt (zc (.int 0)) (zop dIx (zv 4) (zc (.int 1))) (zop dIx (zv 0) (zc (.int 0)))))))) (zret (zc (.bool false))) (znil))
def z_is_laying : ZS := zseq (zifS (zor (znot (ztru (zisi "tuple" (zv 2)))) (ztst (zop dNe (zcb lenS (zacons (zv 2) (zanil))) (zcb lenS (zacons (zcall F_names (zacons (zv 1) (zanil))) (zanil)))))) (zret (zc (.bool false))) (znil)) (zseq (zfor (ziA zipOf (zacons (zcall F_names (zacons (zv 1) (zanil))) (zacons (zv 2) (zanil)))) (gT2 (gN 3) (gN 4)) (b1_is_laying)) (zseq (zset 5 (zfz (zlc (ziQ (zv 2)) (gT2 (gN 3) (gN 6)) (ztrue) (zv 6) [3, 6]))) (zret (zop dEq (zlset (zv 5)) (zcb lenS (zacons (zv 5) (zanil)))))))
def F_is_laying : Fn := zdef 3 4 z_is_laying
def z_held : ZS := zret (zcb (on2 dMax2) (zacons (zop dSub (zc (.int 0)) (zc (.int 9999))) (zacons (zcb (on2 dMin2) (zacons (zc (.int 9999)) (zacons (zv 0) (zanil)))) (zanil))))
def F_held : Fn := zdef 1 0 z_held
def z_Machine_done : ZS := zifS (ztst (zop dEq (zop dIx (zv 1) (zc (.int 0))) (zc (.str "put")))) (zaset "Machine" "held" (zv 0) (zdget (zattr "Machine" "cells" (zv 0)) (zop dIx (zv 1) (zc (.int 1))))) (zifS (ztst (zop dEq (zop dIx (zv 1) (zc (.int 0))) (zc (.str "add")))) (zaset "Machine" "held" (zv 0) (zcall F_held (zacons (zop dAdd (zattr "Machine" "held" (zv 0)) (zdget (zattr "Machine" "cells" (zv 0)) (zop dIx (zv 1) (zc (.int 1))))) (zanil)))) (zifS (ztst (zop dEq (zop dIx (zv 1) (zc (.int 0))) (zc (.str "sub")))) (zaset "Machine" "held" (zv 0) (zcall F_held (zacons (zop dSub (zattr "Machine" "held" (zv 0)) (zdget (zattr "Machine" "cells" (zv 0)) (zop dIx (zv 1) (zc (.int 1))))) (zanil)))) (zdput (zattr "Machine" "cells" (zv 0)) (zop dIx (zv 1) (zc (.int 1))) (zattr "Machine" "held" (zv 0)))))
def F_Machine_done : Fn := zdef 2 0 z_Machine_done
def z_Machine_step : ZS := zseq (zset 3 (zdget (zattr "Machine" "cells" (zv 0)) (zattr "Machine" "next" (zv 0)))) (zifS (ztst (zop dEq (zop dIx (zv 3) (zc (.int 0))) (zc (.str "stop")))) (zseq (zaset "Machine" "time" (zv 0) (zop dAdd (zv 1) (zc (.int 1)))) (zaset "Machine" "next" (zv 0) (zc .none))) (zifS (ztst (zop dEq (zop dIx (zv 3) (zc (.int 0))) (zc (.str "less")))) (zseq (zaset "Machine" "time" (zv 0) (zop dAdd (zv 1) (zc (.int 2)))) (zaset "Machine" "next" (zv 0) (zop dIx (zv 3) (zop dAdd (zc (.int 1)) (zcb (on1 dInt) (zacons (zop dGe (zattr "Machine" "held" (zv 0)) (zc (.int 0))) (zanil))))))) (zseq (zdrop (zmeth "Machine" "done" 2 F_Machine_done (zv 0) (zacons (zv 3) (zanil)))) (zseq (zaset "Machine" "time" (zv 0) (zop dAdd (zop dAdd (zv 2) (zc (.int 1))) (zkget t_BEATS (zop dIx (zv 3) (zc (.int 0)))))) (zaset "Machine" "next" (zv 0) (zop dIx (zv 3) (zc (.int 2))))))))
def F_Machine_step : Fn := zdef 3 1 z_Machine_step
def z_Machine_words : ZS := zret (zcb (on1 dTup) (zacons (zfz (zlc (ziQ (zfz (zcf srtS (zacons (zattr "Machine" "cells" (zv 0)) (zanil))))) (gN 1) (ztru (zisi "int" (zdget (zattr "Machine" "cells" (zv 0)) (zv 1)))) (ztup (zacons (zv 1) (zacons (zdget (zattr "Machine" "cells" (zv 0)) (zv 1)) (zanil)))) [1])) (zanil)))
def F_Machine_words : Fn := zdef 1 1 z_Machine_words
def b1_steps_of (lam : Fn) : ZS := zseq (zset 7 (zattr "Machine" "next" (zv 5))) (zseq (zset 8 (zdget (zattr "Machine" "cells" (zv 5)) (zv 7))) (zseq (zset 9 (zact 4 lam (zacons (zv 7) (zacons (zattr "Machine" "time" (zv 5)) (zanil))))) (zseq (zset 10 (zc .none)) (zseq (zifS (ztst (zkin t_BEATS o_BEATS (zop dIx (zv 8) (zc (.int 0))))) (zset 10 (zact 4 lam (zacons (zop dIx (zv 8) (zc (.int 1))) (zacons (zop dAdd (zv 9) (zc (.int 1))) (zanil))))) (znil)) (zseq (zdrop (zmeth "Machine" "step" 3 F_Machine_step (zv 5) (zacons (zv 9) (zacons (zv 10) (zanil))))) (zset 6 (zop dAdd (zv 6) (ztup (zacons (ztup (zacons (zv 7) (zacons (zv 9) (zacons (zv 10) (zanil))))) (zanil))))))))))
def z_steps_of (lam : Fn) : ZS := zseq (zset 5 (zmake "Machine" "cells" 4 iniM (zacons (zv 0) (zacons (zv 1) (zacons (zv 2) (zanil)))))) (zseq (zset 6 (ztup (zanil))) (zseq (zwhile fuel (zand (ztst (zop dIsNot (zattr "Machine" "next" (zv 5)) (zc .none))) (ztst (zop dLt (zcb lenS (zacons (zv 6) (zanil))) (zv 3)))) (b1_steps_of lam)) (zret (zpr (zv 6) (zv 5)))))
def z_run : ZS := zseq (zdrop (zcall F_need_order (zacons (zv 1) (zacons (zv 3) (zanil))))) (zseq (zifS (znot (ztru (zcall F_is_laying (zacons (zv 0) (zacons (zv 1) (zacons (zv 2) (zanil))))))) (zraise "BadLaying") (znil)) (zseq (zsetF 6 (zcf (on1 bDic) (zacons (zv 2) (zanil)))) (zseq (zasgP 7 8 (zlamcall z_steps_of 6 (zcall F_read_time (zacons (zv 0) (zacons (zdget (zv 6) (zv 9)) (zacons (zv 10) (zanil))))) 9 10 (zv 1) (zv 3) (zv 4) (zv 5))) (zret (ztup (zacons (zv 7) (zacons (zop dIs (zattr "Machine" "next" (zv 8)) (zc .none)) (zacons (zattr "Machine" "time" (zv 8)) (zacons (zattr "Machine" "held" (zv 8)) (zacons (zmeth "Machine" "words" 1 F_Machine_words (zv 8) zanil) (zanil)))))))))))
def F_run : Fn := zdef 6 5 z_run
def z_path : ZS := zseq (zdrop (zcall F_need_order (zacons (zv 0) (zacons (zv 1) (zanil))))) (zseq (zasgP 3 4 (zlamcall z_steps_of 6 (zv 8) 5 8 (zv 0) (zv 1) (zc (.int 0)) (zv 2))) (zret (zcb (on1 dTup) (zacons (zfz (zlc (ziQ (zv 3)) (gT3 (gN 5) (gN 6) (gN 7)) (ztrue) (zv 5) [5, 6, 7])) (zanil)))))
def F_path : Fn := zdef 3 6 z_path
def z_work : ZS := zseq (zdrop (zcall F_need_order (zacons (zv 0) (zacons (zv 1) (zanil))))) (zret (zattr "Machine" "time" (zpr1 (zlamcall z_steps_of 6 (zv 4) 3 4 (zv 0) (zv 1) (zc (.int 0)) (zv 2)))))
def F_work : Fn := zdef 3 2 z_work
def z_waits : ZS := zret (zop dSub (zop dSub (zop dIx (zcall F_run (zacons (zv 0) (zacons (zv 1) (zacons (zv 2) (zacons (zv 3) (zacons (zv 4) (zacons (zv 5) (zanil)))))))) (zc (.int 2))) (zv 4)) (zcall F_work (zacons (zv 1) (zacons (zv 3) (zacons (zv 5) (zanil))))))
def F_waits : Fn := zdef 6 0 z_waits
def b1_asked : ZS := zseq (zdput (zv 3) (zv 4) (zop dAdd (zdget (zv 3) (zv 4)) (zc (.int 1)))) (zseq (zset 5 (zcall F_content_of (zacons (zv 0) (zacons (zv 4) (zanil))))) (zifS (ztst (zkin t_BEATS o_BEATS (zop dIx (zv 5) (zc (.int 0))))) (zdput (zv 3) (zop dIx (zv 5) (zc (.int 1))) (zop dAdd (zdget (zv 3) (zop dIx (zv 5) (zc (.int 1)))) (zc (.int 1)))) (znil)))
def z_asked : ZS := zseq (zsetF 3 (zcf (on1 bDic) (zacons (zfz (zlc (ziQ (zcall F_names (zacons (zv 0) (zanil)))) (gN 4) (ztrue) (ztup (zacons (zv 4) (zacons (zc (.int 0)) (zanil)))) [4])) (zanil)))) (zseq (zfor (ziQ (zcall F_path (zacons (zv 0) (zacons (zv 1) (zacons (zv 2) (zanil)))))) (gN 4) (b1_asked)) (zret (zcb (on1 dTup) (zacons (zfz (zlc (ziQ (zfz (zcf srtS (zacons (zv 3) (zanil))))) (gN 4) (ztrue) (ztup (zacons (zv 4) (zacons (zdget (zv 3) (zv 4)) (zanil)))) [4])) (zanil)))))
def F_asked : Fn := zdef 3 3 z_asked
def z__law_order : ZS := zseq (zset 4 (zcall F__law_draw (zacons (zv 0) (zacons (zv 1) (zacons (zc (.int 9)) (zanil)))))) (zseq (zifS (zor (ztst (zop dEq (zv 4) (zc (.int 0)))) (zand (znot (ztru (zv 2))) (ztst (zop dLt (zv 4) (zc (.int 6)))))) (zret (ztup (zacons (zc (.str "stop")) (zanil)))) (znil)) (zseq (zifS (zor (ztst (zop dGt (zv 4) (zc (.int 6)))) (znot (ztru (zv 2)))) (zret (ztup (zacons (zc (.str "less")) (zacons (zcall F__law_pick (zacons (zv 0) (zacons (zv 1) (zacons (zv 3) (zanil))))) (zacons (zcall F__law_pick (zacons (zv 0) (zacons (zv 1) (zacons (zv 3) (zanil))))) (zanil)))))) (znil)) (zseq (zset 5 (zop dIx (zfz (zlst (zacons (zc (.str "put")) (zacons (zc (.str "add")) (zacons (zc (.str "add")) (zacons (zc (.str "sub")) (zacons (zc (.str "sub")) (zacons (zc (.str "save")) (zanil))))))))) (zop dSub (zv 4) (zc (.int 1))))) (zret (ztup (zacons (zv 5) (zacons (zcall F__law_pick (zacons (zv 0) (zacons (zv 1) (zacons (zv 2) (zanil))))) (zacons (zcall F__law_pick (zacons (zv 0) (zacons (zv 1) (zacons (zv 3) (zanil))))) (zanil)))))))))
def F__law_order : Fn := zdef 4 2 z__law_order
def b1__law_program : ZS := zseq (zifS (ztru (zop dIx (zv 7) (zv 11))) (zset 13 (zcall F__law_pick (zacons (zv 0) (zacons (zv 1) (zacons (zfz (zlst (zacons (zc (.int 0)) (zacons (zc (.int 1)) (zacons (zneg (zc (.int 1))) (zacons (zc (.int 7)) (zacons (zneg (zc (.int 99))) (zacons (zc (.int 99)) (zanil))))))))) (zanil)))))) (zset 13 (zcall F__law_order (zacons (zv 0) (zacons (zv 1) (zacons (zv 8) (zacons (zv 9) (zanil)))))))) (zset 10 (zop dAdd (zv 10) (ztup (zacons (ztup (zacons (zv 12) (zacons (zv 13) (zanil)))) (zanil)))))
def z__law_program : ZS := zseq (zset 3 (zc (.str "abcdefghijklmnopqrstuvwxyz"))) (zseq (zset 4 (zop dAdd (zc (.int 2)) (zcall F__law_draw (zacons (zv 0) (zacons (zv 1) (zacons (zop dSub (zv 2) (zc (.int 1))) (zanil))))))) (zseq (zset 5 (zop dAdd (zc (.int 1)) (zcall F__law_draw (zacons (zv 0) (zacons (zv 1) (zacons (zc (.int 2)) (zanil))))))) (zseq (zset 6 (zfz (zlc (ziA rng1 (zacons (zv 4) (zanil))) (gN 11) (ztrue) (zop dIx (zv 3) (zop dMul (zv 11) (zv 5))) [11]))) (zseq (zsetF 7 (zlc (ziA rng1 (zacons (zv 4) (zanil))) (gN 11) (ztrue) (zop dEq (zcall F__law_draw (zacons (zv 0) (zacons (zv 1) (zacons (zc (.int 3)) (zanil))))) (zc (.int 0))) [11])) (zseq (zlput (zv 7) (zcall F__law_draw (zacons (zv 0) (zacons (zv 1) (zacons (zv 4) (zanil))))) (zc (.bool false))) (zseq (zset 8 (zfz (zlc (ziA enumOf (zacons (zv 6) (zanil))) (gT2 (gN 11) (gN 12)) (ztru (zop dIx (zv 7) (zv 11))) (zv 12) [11, 12]))) (zseq (zset 9 (zfz (zlc (ziA enumOf (zacons (zv 6) (zanil))) (gT2 (gN 11) (gN 12)) (znot (ztru (zop dIx (zv 7) (zv 11)))) (zv 12) [11, 12]))) (zseq (zset 10 (ztup (zanil))) (zseq (zfor (ziA enumOf (zacons (zv 6) (zanil))) (gT2 (gN 11) (gN 12)) (b1__law_program)) (zret (zv 10)))))))))))
def F__law_program : Fn := zdef 3 11 z__law_program
def z__law_orders : ZS := zret (zfz (zlc (ziQ (zv 0)) (gT2 (gN 1) (gN 2)) (ztru (zisi "tuple" (zv 2))) (zv 1) [1, 2]))
def F__law_orders : Fn := zdef 1 2 z__law_orders
def b1__law_laying : ZS := zseq (zset 8 (zmt1 fPopAt (zv 4) (zcall F__law_draw (zacons (zv 0) (zacons (zv 1) (zacons (zcb lenS (zacons (zv 4) (zanil))) (zanil))))))) (zset 5 (zop dAdd (zv 5) (ztup (zacons (ztup (zacons (zv 6) (zacons (zv 8) (zanil)))) (zanil)))))
def z__law_laying : ZS := zseq (zpar 4 5 (zacons (znew (zlrg (zop dIx (zv 2) (zc (.int 0))))) (zacons (ztup (zanil)) (zanil)))) (zseq (zfor (ziQ (zv 3)) (gT2 (gN 6) (gN 7)) (b1__law_laying)) (zret (zv 5)))
def F__law_laying : Fn := zdef 4 5 z__law_laying
def z_turned : ZS := zret (zcb (on1 dTup) (zacons (zfz (zlc (ziQ (zv 1)) (gT2 (gN 3) (gN 4)) (ztrue) (ztup (zacons (zv 3) (zacons (zop dMod (zop dAdd (zv 4) (zv 2)) (zop dIx (zv 0) (zc (.int 0)))) (zanil)))) [3, 4])) (zanil)))
def F_turned : Fn := zdef 3 2 z_turned
def z_by_names : ZS := zret (zcb (on1 dTup) (zacons (zfz (zlc (ziA enumOf (zacons (zcall F_names (zacons (zv 0) (zanil))) (zanil))) (gT2 (gN 1) (gN 2)) (ztrue) (ztup (zacons (zv 2) (zacons (zv 1) (zanil)))) [1, 2])) (zanil)))
def F_by_names : Fn := zdef 1 2 z_by_names
def z_free_spots : ZS := zseq (zset 2 (zfz (zlc (ziQ (zv 1)) (gT2 (gN 3) (gN 4)) (ztrue) (zv 4) [3, 4]))) (zret (zcb (on1 dTup) (zacons (zfz (zlc (ziA rng1 (zacons (zop dIx (zv 0) (zc (.int 0))) (zanil))) (gN 4) (ztst (zop dNotIn (zv 4) (zv 2))) (zv 4) [4])) (zanil))))
def F_free_spots : Fn := zdef 2 3 z_free_spots
def z_end_time : ZS := zret (zop dIx (zcall F_run (zacons (zv 0) (zacons (zv 1) (zacons (zv 2) (zacons (zv 3) (zacons (zc (.int 0)) (zacons (zv 4) (zanil)))))))) (zc (.int 2)))
def F_end_time : Fn := zdef 5 0 z_end_time
def z_is_better : ZS := zseq (zset 6 (zcall F_end_time (zacons (zv 0) (zacons (zv 1) (zacons (zv 2) (zacons (zv 4) (zacons (zv 5) (zanil)))))))) (zseq (zset 7 (zcall F_end_time (zacons (zv 0) (zacons (zv 1) (zacons (zv 3) (zacons (zv 4) (zacons (zv 5) (zanil)))))))) (zret (zop dLt (ztup (zacons (zv 6) (zacons (zv 2) (zanil)))) (ztup (zacons (zv 7) (zacons (zv 3) (zanil)))))))
def F_is_better : Fn := zdef 6 2 z_is_better
def b1_changed_ones : ZS := zdrop (zapp (zv 2) (zop dAdd (zop dAdd (zsl (zv 1) (zon) (zos (zv 3))) (ztup (zacons (ztup (zacons (zv 4) (zacons (zv 6) (zanil)))) (zanil)))) (zsl (zv 1) (zos (zop dAdd (zv 3) (zc (.int 1)))) (zon))))
def b2_changed_ones : ZS := zseq (zasg (gT2 (gN 8) (gN 9)) (zop dIx (zv 1) (zv 7))) (zseq (zsetF 10 (zcf (on1 bLst) (zacons (zv 1) (zanil)))) (zseq (zlput (zv 10) (zv 3) (ztup (zacons (zv 4) (zacons (zv 9) (zanil))))) (zseq (zlput (zv 10) (zv 7) (ztup (zacons (zv 8) (zacons (zv 5) (zanil))))) (zdrop (zapp (zv 2) (zcb (on1 dTup) (zacons (zv 10) (zanil))))))))
def b3_changed_ones : ZS := zseq (zfor (ziQ (zcall F_free_spots (zacons (zv 0) (zacons (zv 1) (zanil))))) (gN 6) (b1_changed_ones)) (zfor (ziA rng2 (zacons (zop dAdd (zv 3) (zc (.int 1))) (zacons (zcb lenS (zacons (zv 1) (zanil))) (zanil)))) (gN 7) (b2_changed_ones))
def z_changed_ones : ZS := zseq (zsetF 2 (zlst (zanil))) (zseq (zfor (ziA enumOf (zacons (zv 1) (zanil))) (gT2 (gN 3) (gT2 (gN 4) (gN 5))) (b3_changed_ones)) (zret (zv 2)))
def F_changed_ones : Fn := zdef 2 9 z_changed_ones
def b1_bettered : ZS := zifS (ztru (zcall F_is_better (zacons (zv 0) (zacons (zv 1) (zacons (zv 6) (zacons (zv 5) (zacons (zv 3) (zacons (zv 4) (zanil))))))))) (zset 5 (zv 6)) (znil)
def z_bettered : ZS := zseq (zifS (znot (ztru (zcall F_is_laying (zacons (zv 0) (zacons (zv 1) (zacons (zv 2) (zanil))))))) (zraise "BadLaying") (znil)) (zseq (zset 5 (zv 2)) (zseq (zfor (ziQ (zcall F_changed_ones (zacons (zv 0) (zacons (zv 2) (zanil))))) (gN 6) (b1_bettered)) (zret (zv 5))))
def F_bettered : Fn := zdef 5 2 z_bettered
def b1_settled : ZS := zseq (zset 2 (zv 5)) (zset 5 (zcall F_bettered (zacons (zv 0) (zacons (zv 1) (zacons (zv 2) (zacons (zv 3) (zacons (zv 4) (zanil))))))))
def z_settled : ZS := zseq (zset 5 (zcall F_bettered (zacons (zv 0) (zacons (zv 1) (zacons (zv 2) (zacons (zv 3) (zacons (zv 4) (zanil)))))))) (zseq (zwhile fuel (ztst (zop dNe (zv 5) (zv 2))) (b1_settled)) (zret (zv 2)))
def F_settled : Fn := zdef 5 1 z_settled
def b1_all_layings : ZS := zdrop (zmt1 fExt (zv 4) (zfz (zlc (ziQ (zcall F_free_spots (zacons (zv 0) (zacons (zv 5) (zanil))))) (gN 6) (ztrue) (zop dAdd (zv 5) (ztup (zacons (ztup (zacons (zv 3) (zacons (zv 6) (zanil)))) (zanil)))) [6])))
def b2_all_layings : ZS := zseq (zsetF 4 (zlst (zanil))) (zseq (zfor (ziQ (zv 2)) (gN 5) (b1_all_layings)) (zfrz 4 (zset 2 (zv 4))))
def z_all_layings : ZS := zseq (zset 2 (zfz (zlst (zacons (ztup (zanil)) (zanil))))) (zseq (zfor (ziQ (zv 1)) (gN 3) (b2_all_layings)) (zret (zv 2)))
def F_all_layings : Fn := zdef 2 5 z_all_layings
def b1_layings_many : ZS := zset 2 (zop dMul (zv 2) (zcb (on2 dMax2) (zacons (zc (.int 0)) (zacons (zop dSub (zop dIx (zv 0) (zc (.int 0))) (zv 3)) (zanil)))))
def z_layings_many : ZS := zseq (zset 2 (zc (.int 1))) (zseq (zfor (ziA rng1 (zacons (zcb lenS (zacons (zcall F_names (zacons (zv 1) (zanil))) (zanil))) (zanil))) (gN 3) (b1_layings_many)) (zret (zv 2)))
def F_layings_many : Fn := zdef 2 2 z_layings_many
def b1_best : ZS := zifS (zor (ztst (zop dIs (zv 4) (zc .none))) (ztru (zcall F_is_better (zacons (zv 0) (zacons (zv 1) (zacons (zv 5) (zacons (zv 4) (zacons (zv 2) (zacons (zv 3) (zanil)))))))))) (zset 4 (zv 5)) (znil)
def z_best : ZS := zseq (zifS (ztst (zop dGt (zcb lenS (zacons (zcall F_names (zacons (zv 1) (zanil))) (zanil))) (zop dIx (zv 0) (zc (.int 0))))) (zraise "NoRoom") (znil)) (zseq (zifS (ztst (zop dGt (zcall F_layings_many (zacons (zv 0) (zacons (zv 1) (zanil)))) (zc (.int 3000)))) (zraise "TooMany") (znil)) (zseq (zdrop (zcall F_work (zacons (zv 1) (zacons (zv 2) (zacons (zc (.int 1)) (zanil)))))) (zseq (zset 4 (zc .none)) (zseq (zfor (ziQ (zcall F_all_layings (zacons (zv 0) (zacons (zcall F_names (zacons (zv 1) (zanil))) (zanil))))) (gN 5) (b1_best)) (zret (zv 4))))))
def F_best : Fn := zdef 4 2 z_best
def b1_head_sets : ZS := zseq (zset 6 (zc (.int 0))) (zseq (zifS (ztru (zv 5)) (zset 6 (zop dAdd (zop dIx (zv 5) (zneg (zc (.int 1)))) (zc (.int 1)))) (znil)) (zdrop (zmt1 fExt (zv 4) (zfz (zlc (ziA rng2 (zacons (zv 6) (zacons (zv 0) (zanil)))) (gN 7) (ztrue) (zop dAdd (zv 5) (ztup (zacons (zv 7) (zanil)))) [7])))))
def b2_head_sets : ZS := zseq (zsetF 4 (zlst (zanil))) (zseq (zfor (ziQ (zv 2)) (gN 5) (b1_head_sets)) (zfrz 4 (zset 2 (zv 4))))
def z_head_sets : ZS := zseq (zset 2 (zfz (zlst (zacons (ztup (zanil)) (zanil))))) (zseq (zfor (ziA rng1 (zacons (zv 1) (zanil))) (gN 3) (b2_head_sets)) (zret (zv 2)))
def F_head_sets : Fn := zdef 2 6 z_head_sets
def b1_best_heads : ZS := zseq (zset 8 (ztup (zacons (zop dIx (zcall F_run (zacons (ztup (zacons (zv 0) (zacons (zv 7) (zanil)))) (zacons (zv 2) (zacons (zv 3) (zacons (zv 4) (zacons (zc (.int 0)) (zacons (zv 5) (zanil)))))))) (zc (.int 2))) (zacons (zv 7) (zanil))))) (zifS (zor (ztst (zop dIs (zv 6) (zc .none))) (ztst (zop dLt (zv 8) (zv 6)))) (zset 6 (zv 8)) (znil))
def z_best_heads : ZS := zseq (zifS (znot (ztru (zcall F_is_laying (zacons (ztup (zacons (zv 0) (zacons (ztup (zacons (zc (.int 0)) (zanil))) (zanil)))) (zacons (zv 2) (zacons (zv 3) (zanil))))))) (zraise "BadLaying") (znil)) (zseq (zset 6 (zc .none)) (zseq (zfor (ziQ (zcall F_head_sets (zacons (zv 0) (zacons (zv 1) (zanil))))) (gN 7) (b1_best_heads)) (zret (zop dIx (zv 6) (zc (.int 1))))))
def F_best_heads : Fn := zdef 6 3 z_best_heads
def b1_ring : ZS := zseq (zset 11 (ztup (zacons (zv 8) (zacons (zop dMod (zv 9) (zop dIx (zv 0) (zc (.int 0)))) (zanil))))) (zseq (zifS (ztst (zdin (zv 11) (zv 5))) (zseq (zset 12 (zdget (zv 5) (zv 11))) (zret (ztup (zacons (zv 12) (zacons (zv 7) (zacons (zop dSub (zv 9) (zop dIx (zop dIx (zv 6) (zv 12)) (zc (.int 1)))) (zanil))))))) (znil)) (zdput (zv 5) (zv 11) (zv 7)))
def z_ring : ZS := zseq (zsetF 5 (zdnew)) (zseq (zset 6 (zop dIx (zcall F_run (zacons (zv 0) (zacons (zv 1) (zacons (zv 2) (zacons (zv 3) (zacons (zc (.int 0)) (zacons (zv 4) (zanil)))))))) (zc (.int 0)))) (zseq (zfor (ziA enumOf (zacons (zv 6) (zanil))) (gT2 (gN 7) (gT3 (gN 8) (gN 9) (gN 10))) (b1_ring)) (zret (zc .none))))
def F_ring : Fn := zdef 5 8 z_ring
def z_turns : ZS := zseq (zset 5 (zop dIx (zcall F_run (zacons (zv 0) (zacons (zv 1) (zacons (zv 2) (zacons (zv 3) (zacons (zc (.int 0)) (zacons (zv 4) (zanil)))))))) (zc (.int 2)))) (zret (zop dDiv (zop dSub (zop dAdd (zv 5) (zop dIx (zv 0) (zc (.int 0)))) (zc (.int 1))) (zop dIx (zv 0) (zc (.int 0)))))
def F_turns : Fn := zdef 5 1 z_turns
def b1_reached : ZS := zseq (zset 4 (zpop0 (zv 3))) (zifS (ztst (zop dNotIn (zv 4) (zv 2))) (zseq (zdrop (zapp (zv 2) (zv 4))) (zseq (zset 5 (zcall F_content_of (zacons (zv 0) (zacons (zv 4) (zanil))))) (zifS (ztru (zisi "tuple" (zv 5))) (zdrop (zmt1 fExt (zv 3) (zfz (zcf (on1 bLst) (zacons (zsl (zv 5) (zos (zc (.int 1))) (zon)) (zanil)))))) (znil)))) (znil))
def z_reached : ZS := zseq (zdrop (zcall F_need_order (zacons (zv 0) (zacons (zv 1) (zanil))))) (zseq (zsetF 2 (zlst (zanil))) (zseq (zsetF 3 (zlst (zacons (zv 1) (zanil)))) (zseq (zwhile fuel (ztru (zv 3)) (b1_reached)) (zret (zcb (on1 dTup) (zacons (zfz (zcf srtS (zacons (zv 2) (zanil)))) (zanil)))))))
def F_reached : Fn := zdef 2 4 z_reached
def z_sorted_cells : ZS := zseq (zsetF 1 (zcf (on1 bDic) (zacons (zv 0) (zanil)))) (zret (zfz (zlc (ziQ (zfz (zcf srtS (zacons (zv 1) (zanil))))) (gN 2) (ztrue) (ztup (zacons (zv 2) (zacons (zdget (zv 1) (zv 2)) (zanil)))) [2])))
def F_sorted_cells : Fn := zdef 1 2 z_sorted_cells
def b1_renamed : ZS := zseq (zifS (ztru (zisi "tuple" (zv 5))) (zset 5 (zop dAdd (zsl (zv 5) (zon) (zos (zc (.int 1)))) (zcb (on1 dTup) (zacons (zfz (zlc (ziQ (zsl (zv 5) (zos (zc (.int 1))) (zon))) (gN 6) (ztrue) (zdget2 (zv 2) (zv 6) (zv 6)) [6])) (zanil))))) (znil)) (zdrop (zapp (zv 3) (ztup (zacons (zdget2 (zv 2) (zv 4) (zv 4)) (zacons (zv 5) (zanil))))))
def z_renamed : ZS := zseq (zsetF 2 (zcf (on1 bDic) (zacons (zv 1) (zanil)))) (zseq (zsetF 3 (zlst (zanil))) (zseq (zfor (ziQ (zv 0)) (gT2 (gN 4) (gN 5)) (b1_renamed)) (zfrz 3 (zret (zcb (on1 dTup) (zacons (zcall F_sorted_cells (zacons (zv 3) (zanil))) (zanil)))))))
def F_renamed : Fn := zdef 2 5 z_renamed
def z__law_heads : ZS := zseq (zasg (gT2 (gN 2) (gN 3)) (zv 0)) (zret (ztup (zacons (zv 2) (zacons (zcb (on1 dTup) (zacons (zfz (zcf srtS (zacons (zfz (zlc (ziQ (zv 3)) (gN 4) (ztrue) (zop dSub (zop dAdd (zv 4) (zv 1)) (zop dMul (zop dDiv (zop dAdd (zv 4) (zv 1)) (zv 2)) (zv 2))) [4])) (zanil)))) (zanil))) (zanil)))))
def F__law_heads : Fn := zdef 2 3 z__law_heads
def z_is_name : ZS := zret (zandV (zisi "str" (zv 0)) (zandV (zop dEq (zcb lenS (zacons (zv 0) (zanil))) (zc (.int 1))) (zop dIn (zv 0) (zc (.str "abcdefghijklmnopqrstuvwxyz")))))
def F_is_name : Fn := zdef 1 0 z_is_name
def z_is_order : ZS := zseq (zifS (zor (znot (ztru (zisi "tuple" (zv 0)))) (zor (ztst (zop dEq (zv 0) (ztup (zanil)))) (znot (ztru (zisi "str" (zop dIx (zv 0) (zc (.int 0)))))))) (zret (zc (.bool false))) (znil)) (zseq (zifS (znot (ztru (zcb (on1 (lstOnly dAll)) (zacons (zfz (zlc (ziQ (zsl (zv 0) (zos (zc (.int 1))) (zon))) (gN 1) (ztrue) (zcall F_is_name (zacons (zv 1) (zanil))) [1])) (zanil))))) (zret (zc (.bool false))) (znil)) (zseq (zifS (ztst (zop dEq (zop dIx (zv 0) (zc (.int 0))) (zc (.str "stop")))) (zret (zop dEq (zcb lenS (zacons (zv 0) (zanil))) (zc (.int 1)))) (znil)) (zret (zandV (zop dEq (zcb lenS (zacons (zv 0) (zanil))) (zc (.int 3))) (zorV (zop dIn (zop dIx (zv 0) (zc (.int 0))) (zc c_WITH_WORD)) (zop dEq (zop dIx (zv 0) (zc (.int 0))) (zc (.str "less"))))))))
def F_is_order : Fn := zdef 1 1 z_is_order
def z_is_cell : ZS := zseq (zifS (zor (znot (ztru (zisi "tuple" (zv 0)))) (zor (ztst (zop dNe (zcb lenS (zacons (zv 0) (zanil))) (zc (.int 2)))) (znot (ztru (zcall F_is_name (zacons (zop dIx (zv 0) (zc (.int 0))) (zanil))))))) (zret (zc (.bool false))) (znil)) (zret (zorV (zcall F_is_whole (zacons (zop dIx (zv 0) (zc (.int 1))) (zacons (zop dSub (zc (.int 0)) (zc (.int 99))) (zacons (zc (.int 99)) (zanil))))) (zcall F_is_order (zacons (zop dIx (zv 0) (zc (.int 1))) (zanil)))))
def F_is_cell : Fn := zdef 1 0 z_is_cell
def z_leads_right : ZS := zseq (zifS (ztst (zdnin (zop dIx (zv 1) (zv 2)) (zv 0))) (zret (zc (.bool false))) (znil)) (zseq (zset 3 (zisi "int" (zdget (zv 0) (zop dIx (zv 1) (zv 2))))) (zret (zop dEq (zv 3) (zandV (zop dEq (zv 2) (zc (.int 1))) (zop dIn (zop dIx (zv 1) (zc (.int 0))) (zc c_WITH_WORD))))))
def F_leads_right : Fn := zdef 3 1 z_leads_right
def b1_is_program : ZS := zifS (ztru (zisi "tuple" (zv 3))) (zifS (znot (ztru (zcb (on1 (lstOnly dAll)) (zacons (zfz (zlc (ziA rng2 (zacons (zc (.int 1)) (zacons (zcb lenS (zacons (zv 3) (zanil))) (zanil)))) (gN 6) (ztrue) (zcall F_leads_right (zacons (zv 1) (zacons (zv 3) (zacons (zv 6) (zanil))))) [6])) (zanil))))) (zret (zc (.bool false))) (znil)) (znil)
def z_is_program : ZS := zseq (zifS (zor (znot (ztru (zisi "tuple" (zv 0)))) (zor (znot (ztst (zchain dLe dLe (zc (.int 1)) (zcb lenS (zacons (zv 0) (zanil))) (zc (.int 12))))) (znot (ztru (zcb (on1 (lstOnly dAll)) (zacons (zfz (zlc (ziQ (zv 0)) (gN 4) (ztrue) (zcall F_is_cell (zacons (zv 4) (zanil))) [4])) (zanil))))))) (zret (zc (.bool false))) (znil)) (zseq (zifS (znot (ztru (zcb (on1 (lstOnly dAll)) (zacons (zfz (zlc (ziA zipOf (zacons (zsl (zv 0) (zon) (zos (zneg (zc (.int 1))))) (zacons (zsl (zv 0) (zos (zc (.int 1))) (zon)) (zanil)))) (gT2 (gN 4) (gN 5)) (ztrue) (zop dLt (zop dIx (zv 4) (zc (.int 0))) (zop dIx (zv 5) (zc (.int 0)))) [4, 5])) (zanil))))) (zret (zc (.bool false))) (znil)) (zseq (zsetF 1 (zcf (on1 bDic) (zacons (zv 0) (zanil)))) (zseq (zfor (ziQ (zv 0)) (gT2 (gN 2) (gN 3)) (b1_is_program)) (zret (zc (.bool true))))))
def F_is_program : Fn := zdef 1 6 z_is_program
end Zc
end
section
set_option Elab.async false
set_option linter.all false
set_option maxRecDepth 100000
namespace Zs
open PySem Z
theorem se_put_add : (("put" : Str) == "add") = false := by decide
theorem sn_put_add : (("put" : Str) = "add") = False := eq_false (by decide)
theorem se_put_sub : (("put" : Str) == "sub") = false := by decide
theorem sn_put_sub : (("put" : Str) = "sub") = False := eq_false (by decide)
theorem se_put_save : (("put" : Str) == "save") = false := by decide
theorem sn_put_save : (("put" : Str) = "save") = False := eq_false (by decide)
theorem se_put_less : (("put" : Str) == "less") = false := by decide
theorem sn_put_less : (("put" : Str) = "less") = False := eq_false (by decide)
theorem se_put_stop : (("put" : Str) == "stop") = false := by decide
theorem sn_put_stop : (("put" : Str) = "stop") = False := eq_false (by decide)
theorem se_add_put : (("add" : Str) == "put") = false := by decide
theorem sn_add_put : (("add" : Str) = "put") = False := eq_false (by decide)
theorem se_add_sub : (("add" : Str) == "sub") = false := by decide
theorem sn_add_sub : (("add" : Str) = "sub") = False := eq_false (by decide)
theorem se_add_save : (("add" : Str) == "save") = false := by decide
theorem sn_add_save : (("add" : Str) = "save") = False := eq_false (by decide)
theorem se_add_less : (("add" : Str) == "less") = false := by decide
theorem sn_add_less : (("add" : Str) = "less") = False := eq_false (by decide)
theorem se_add_stop : (("add" : Str) == "stop") = false := by decide
theorem sn_add_stop : (("add" : Str) = "stop") = False := eq_false (by decide)
theorem se_sub_put : (("sub" : Str) == "put") = false := by decide
theorem sn_sub_put : (("sub" : Str) = "put") = False := eq_false (by decide)
theorem se_sub_add : (("sub" : Str) == "add") = false := by decide
theorem sn_sub_add : (("sub" : Str) = "add") = False := eq_false (by decide)
theorem se_sub_save : (("sub" : Str) == "save") = false := by decide
theorem sn_sub_save : (("sub" : Str) = "save") = False := eq_false (by decide)
theorem se_sub_less : (("sub" : Str) == "less") = false := by decide
theorem sn_sub_less : (("sub" : Str) = "less") = False := eq_false (by decide)
theorem se_sub_stop : (("sub" : Str) == "stop") = false := by decide
theorem sn_sub_stop : (("sub" : Str) = "stop") = False := eq_false (by decide)
theorem se_save_put : (("save" : Str) == "put") = false := by decide
theorem sn_save_put : (("save" : Str) = "put") = False := eq_false (by decide)
theorem se_save_add : (("save" : Str) == "add") = false := by decide
theorem sn_save_add : (("save" : Str) = "add") = False := eq_false (by decide)
theorem se_save_sub : (("save" : Str) == "sub") = false := by decide
theorem sn_save_sub : (("save" : Str) = "sub") = False := eq_false (by decide)
theorem se_save_less : (("save" : Str) == "less") = false := by decide
theorem sn_save_less : (("save" : Str) = "less") = False := eq_false (by decide)
theorem se_save_stop : (("save" : Str) == "stop") = false := by decide
theorem sn_save_stop : (("save" : Str) = "stop") = False := eq_false (by decide)
theorem se_less_put : (("less" : Str) == "put") = false := by decide
theorem sn_less_put : (("less" : Str) = "put") = False := eq_false (by decide)
theorem se_less_add : (("less" : Str) == "add") = false := by decide
theorem sn_less_add : (("less" : Str) = "add") = False := eq_false (by decide)
theorem se_less_sub : (("less" : Str) == "sub") = false := by decide
theorem sn_less_sub : (("less" : Str) = "sub") = False := eq_false (by decide)
theorem se_less_save : (("less" : Str) == "save") = false := by decide
theorem sn_less_save : (("less" : Str) = "save") = False := eq_false (by decide)
theorem se_less_stop : (("less" : Str) == "stop") = false := by decide
theorem sn_less_stop : (("less" : Str) = "stop") = False := eq_false (by decide)
theorem se_stop_put : (("stop" : Str) == "put") = false := by decide
theorem sn_stop_put : (("stop" : Str) = "put") = False := eq_false (by decide)
theorem se_stop_add : (("stop" : Str) == "add") = false := by decide
theorem sn_stop_add : (("stop" : Str) = "add") = False := eq_false (by decide)
theorem se_stop_sub : (("stop" : Str) == "sub") = false := by decide
theorem sn_stop_sub : (("stop" : Str) = "sub") = False := eq_false (by decide)
theorem se_stop_save : (("stop" : Str) == "save") = false := by decide
theorem sn_stop_save : (("stop" : Str) = "save") = False := eq_false (by decide)
theorem se_stop_less : (("stop" : Str) == "less") = false := by decide
theorem sn_stop_less : (("stop" : Str) = "less") = False := eq_false (by decide)
theorem se_held_next : (("held" : Str) == "next") = false := by decide
theorem sn_held_next : (("held" : Str) = "next") = False := eq_false (by decide)
theorem se_held_time : (("held" : Str) == "time") = false := by decide
theorem sn_held_time : (("held" : Str) = "time") = False := eq_false (by decide)
theorem se_held_cells : (("held" : Str) == "cells") = false := by decide
theorem sn_held_cells : (("held" : Str) = "cells") = False := eq_false (by decide)
theorem se_held_step : (("held" : Str) == "step") = false := by decide
theorem sn_held_step : (("held" : Str) = "step") = False := eq_false (by decide)
theorem se_held_words : (("held" : Str) == "words") = false := by decide
theorem sn_held_words : (("held" : Str) = "words") = False := eq_false (by decide)
theorem se_held_done : (("held" : Str) == "done") = false := by decide
theorem sn_held_done : (("held" : Str) = "done") = False := eq_false (by decide)
theorem se_next_held : (("next" : Str) == "held") = false := by decide
theorem sn_next_held : (("next" : Str) = "held") = False := eq_false (by decide)
theorem se_next_time : (("next" : Str) == "time") = false := by decide
theorem sn_next_time : (("next" : Str) = "time") = False := eq_false (by decide)
theorem se_next_cells : (("next" : Str) == "cells") = false := by decide
theorem sn_next_cells : (("next" : Str) = "cells") = False := eq_false (by decide)
theorem se_next_step : (("next" : Str) == "step") = false := by decide
theorem sn_next_step : (("next" : Str) = "step") = False := eq_false (by decide)
theorem se_next_words : (("next" : Str) == "words") = false := by decide
theorem sn_next_words : (("next" : Str) = "words") = False := eq_false (by decide)
theorem se_next_done : (("next" : Str) == "done") = false := by decide
theorem sn_next_done : (("next" : Str) = "done") = False := eq_false (by decide)
theorem se_time_held : (("time" : Str) == "held") = false := by decide
theorem sn_time_held : (("time" : Str) = "held") = False := eq_false (by decide)
theorem se_time_next : (("time" : Str) == "next") = false := by decide
theorem sn_time_next : (("time" : Str) = "next") = False := eq_false (by decide)
theorem se_time_cells : (("time" : Str) == "cells") = false := by decide
theorem sn_time_cells : (("time" : Str) = "cells") = False := eq_false (by decide)
theorem se_time_step : (("time" : Str) == "step") = false := by decide
theorem sn_time_step : (("time" : Str) = "step") = False := eq_false (by decide)
theorem se_time_words : (("time" : Str) == "words") = false := by decide
theorem sn_time_words : (("time" : Str) = "words") = False := eq_false (by decide)
theorem se_time_done : (("time" : Str) == "done") = false := by decide
theorem sn_time_done : (("time" : Str) = "done") = False := eq_false (by decide)
theorem se_cells_held : (("cells" : Str) == "held") = false := by decide
theorem sn_cells_held : (("cells" : Str) = "held") = False := eq_false (by decide)
theorem se_cells_next : (("cells" : Str) == "next") = false := by decide
theorem sn_cells_next : (("cells" : Str) = "next") = False := eq_false (by decide)
theorem se_cells_time : (("cells" : Str) == "time") = false := by decide
theorem sn_cells_time : (("cells" : Str) = "time") = False := eq_false (by decide)
theorem se_cells_step : (("cells" : Str) == "step") = false := by decide
theorem sn_cells_step : (("cells" : Str) = "step") = False := eq_false (by decide)
theorem se_cells_words : (("cells" : Str) == "words") = false := by decide
theorem sn_cells_words : (("cells" : Str) = "words") = False := eq_false (by decide)
theorem se_cells_done : (("cells" : Str) == "done") = false := by decide
theorem sn_cells_done : (("cells" : Str) = "done") = False := eq_false (by decide)
theorem se_step_held : (("step" : Str) == "held") = false := by decide
theorem sn_step_held : (("step" : Str) = "held") = False := eq_false (by decide)
theorem se_step_next : (("step" : Str) == "next") = false := by decide
theorem sn_step_next : (("step" : Str) = "next") = False := eq_false (by decide)
theorem se_step_time : (("step" : Str) == "time") = false := by decide
theorem sn_step_time : (("step" : Str) = "time") = False := eq_false (by decide)
theorem se_step_cells : (("step" : Str) == "cells") = false := by decide
theorem sn_step_cells : (("step" : Str) = "cells") = False := eq_false (by decide)
theorem se_step_words : (("step" : Str) == "words") = false := by decide
theorem sn_step_words : (("step" : Str) = "words") = False := eq_false (by decide)
theorem se_step_done : (("step" : Str) == "done") = false := by decide
theorem sn_step_done : (("step" : Str) = "done") = False := eq_false (by decide)
theorem se_words_held : (("words" : Str) == "held") = false := by decide
theorem sn_words_held : (("words" : Str) = "held") = False := eq_false (by decide)
theorem se_words_next : (("words" : Str) == "next") = false := by decide
theorem sn_words_next : (("words" : Str) = "next") = False := eq_false (by decide)
theorem se_words_time : (("words" : Str) == "time") = false := by decide
theorem sn_words_time : (("words" : Str) = "time") = False := eq_false (by decide)
theorem se_words_cells : (("words" : Str) == "cells") = false := by decide
theorem sn_words_cells : (("words" : Str) = "cells") = False := eq_false (by decide)
theorem se_words_step : (("words" : Str) == "step") = false := by decide
theorem sn_words_step : (("words" : Str) = "step") = False := eq_false (by decide)
theorem se_words_done : (("words" : Str) == "done") = false := by decide
theorem sn_words_done : (("words" : Str) = "done") = False := eq_false (by decide)
theorem se_done_held : (("done" : Str) == "held") = false := by decide
theorem sn_done_held : (("done" : Str) = "held") = False := eq_false (by decide)
theorem se_done_next : (("done" : Str) == "next") = false := by decide
theorem sn_done_next : (("done" : Str) = "next") = False := eq_false (by decide)
theorem se_done_time : (("done" : Str) == "time") = false := by decide
theorem sn_done_time : (("done" : Str) = "time") = False := eq_false (by decide)
theorem se_done_cells : (("done" : Str) == "cells") = false := by decide
theorem sn_done_cells : (("done" : Str) = "cells") = False := eq_false (by decide)
theorem se_done_step : (("done" : Str) == "step") = false := by decide
theorem sn_done_step : (("done" : Str) = "step") = False := eq_false (by decide)
theorem se_done_words : (("done" : Str) == "words") = false := by decide
theorem sn_done_words : (("done" : Str) = "words") = False := eq_false (by decide)
end Zs
end
section
set_option Elab.async false
set_option linter.all false
set_option maxRecDepth 100000
set_option autoImplicit false
set_option maxHeartbeats 1000000
namespace Zc
open PySem Z
open L2 (atI)
/-! ### the laws' draw -/
theorem draw_ok {ns : List Int} {tw : List PyData} {R : Sto} {m : Int} {X : XP} {P : Sl → Sto → Prop} (ht : tw.length < 100000) (hm : 0 < m)
    (h : ∀ v, 0 ≤ v → v < m → P (.d (.int v)) (.scr ns :: .lst (tw ++ [.int 0]) :: R)) : OkE (F__law_draw [.box 0, .box 1, .d (.int m)] (.scr ns :: .lst tw :: R)) X P := by
  refine ok_def rfl ?_
  unfold z__law_draw
  have hk : ∃ k : Int, ((tw.length + 1 : Nat) : Int) = k ∧ 0 < k ∧ k < 200000 := ⟨_, rfl, by omega, by omega⟩
  obtain ⟨k, hk, hk1⟩ := hk
  have fin : ∀ cell : Int, OkS (zseq (zset 5 (zop dMod (zop dAdd (zv 4) (zop dMul (zc (.int 104729)) (zv 3))) (zc (.int 4294967291)))) (zseq (zset 5 (zop dMod (zop dMul (zop dMod (zop dMul (zv 5) (zv 5)) (zc (.int 4294967279))) (zc (.int 48271))) (zc (.int 4294967291)))) (zseq (zset 6 (zop dMod (zop dMul (zop dMod (zop dMul (zv 5) (zv 5)) (zc (.int 4294967279))) (zc (.int 69621))) (zc (.int 4294967291)))) (zret (zop dMod (zop dAdd (zop dMul (zop dDiv (zv 5) (zc (.int 64))) (zc (.int 67108864))) (zop dDiv (zv 6) (zc (.int 64)))) (zv 2)))))
      [some (.box 0), some (.box 1), some (.d (.int m)), some (.d (.int k)), some (.d (.int cell)), none, none] (.scr ns :: .lst (tw ++ [.int 0]) :: R)) { nx := fun _ S' => P (.d .none) (S'.take (Box.scr ns :: Box.lst tw :: R).length), rt := fun x S' => OkE (retN (Box.scr ns :: Box.lst tw :: R).length x S') X P, ex := fun c _ S' => X c (S'.take (Box.scr ns :: Box.lst tw :: R).length) } := by
    intro cell
    have a1 := mod_le (a := cell + 104729 * k) (b := 4294967291) (by omega)
    generalize e1 : (cell + 104729 * k) % 4294967291 = x1 at *
    have a2 := mod_le (a := x1 * x1) (b := 4294967279) (by omega)
    generalize e2 : x1 * x1 % 4294967279 = x2 at *
    have a3 := mod_le (a := x2 * 48271) (b := 4294967291) (by omega)
    generalize e3 : x2 * 48271 % 4294967291 = x3 at *
    have a4 := mod_le (a := x3 * x3) (b := 4294967279) (by omega)
    generalize e4 : x3 * x3 % 4294967279 = x4 at *
    have a5 := mod_le (a := x4 * 69621) (b := 4294967291) (by omega)
    generalize e5 : x4 * 69621 % 4294967291 = x5 at *
    simp (disch := omega) only [wipeZ, forget, okE_val, okE_exc, okE_bind, okS_st, okS_seq, okS_nx, okS_rt, okS_bk, okS_ct, okS_ex, okE_ofOpt, zseq, zdrop, zapp, zset, zsetF, zifS, ztru, ztst, zop, zcb, zcf, zacons, zanil, zc, zv, znil, zret, zcall, zfz, znew, zneg, zos, zon, zsl, zslF, ztup, zlst, zand, zor, znot, zif, zpar, zpar3, zasg, gN, gT2, gT3, zdnew, zdput, zmt1, zcnt1, zandV, zorV, znotV, zchain, zfrz, zbrk, zcnt, zopF, zpop0, zlput, zdget, zdin, zdnin, zdget2, zisi, ziA, ziQ, itemsQ, ziL, ziT, itemsL, itemsT, rng1_ok, rng2_ok, izs_len, izr_len, zipOf, enumOf, ofOpt, bind_val, bind_exc, st_val, st_exc, seq_nx, seq_rt, seq_ex, seq_bk, seq_ct, List.map_cons, List.map_nil, List.cons_append, List.nil_append, List.replicate, List.length_cons, List.length_nil, List.length_append, List.length_map, List.length_set, List.getElem?_cons_zero, List.getElem?_cons_succ, List.getElem?_nil, List.set_cons_zero, List.set_cons_succ, lstAt, res, resD, truS, truth, app2, on1, on2, lstOnly, lenS, allD_nil, allD_cons, Option.map_some, Option.map_none, Option.bind_some, Option.bind_none, dAdd, dSub, dMul_ok, dMod_ok, dDiv_ok, dLt, dLe, dGt, dGe, dEq_i, dEq_s, dEq_b, dNe_i, dNe_s, dNe_b, dEq_ti, dNe_ti, dEq_li, dNe_li, dIs, dIsNot, nonD, dIn, dNotIn, dIx, atI_0, atI_1, atI_2, dTup, dInt, dMin, dMax, dSum, dAll, dAny, intsOf_map, bolsOf_map, intsOf_nil, intsOf_cons, dMin2, dMax2, dAbs, keySl, Z.keyOf, putS, lim, retN_d, getLast0, setLast0, takeLast0, takeLast1, List.take_succ_cons, List.take_zero, List.take_length, List.take_nil, decide_eq_true_eq, beq_iff_eq, if_true, if_false, Bool.not_true, Bool.not_false, Bool.not_eq_true', Bool.false_eq_true, Bool.true_eq_false, reduceIte, if_pos, if_neg, Nat.add_eq, List.isEmpty_cons, List.isEmpty_nil, Option.some.injEq, decide_true, decide_false, decide_eq_true, decide_eq_false, beq_self_eq_true, BEq.rfl, beq_eq_false_iff_ne, Nat.zero_add, Nat.reduceAdd, Int.toNat_natCast, Bool.not_eq_true, decide_eq_false_iff_not, bne_iff_ne, ne_eq, not_true_eq_false, not_false_eq_true, e1, e2, e3, e4, e5]
    exact h _ (mod_le hm).1 (mod_le hm).2
  refine ok_seq ?_
  try simp (disch := omega) only [wipeZ, forget, okE_val, okE_exc, okE_bind, okS_st, okS_seq, okS_nx, okS_rt, okS_bk, okS_ct, okS_ex, okE_ofOpt, zdrop, zapp, zset, zsetF, zifS, ztru, ztst, zop, zcb, zcf, zacons, zanil, zc, zv, znil, zret, zcall, zfz, znew, zneg, zos, zon, zsl, zslF, ztup, zlst, zand, zor, znot, zif, zpar, zpar3, zasg, gN, gT2, gT3, zdnew, zdput, zmt1, zcnt1, zandV, zorV, znotV, zchain, zfrz, zbrk, zcnt, zopF, zpop0, zlput, zdget, zdin, zdnin, zdget2, zisi, ziA, ziQ, itemsQ, ziL, ziT, itemsL, itemsT, rng1_ok, rng2_ok, izs_len, izr_len, zipOf, enumOf, ofOpt, bind_val, bind_exc, st_val, st_exc, seq_nx, seq_rt, seq_ex, seq_bk, seq_ct, List.map_cons, List.map_nil, List.cons_append, List.nil_append, List.replicate, List.length_cons, List.length_nil, List.length_append, List.length_map, List.length_set, List.getElem?_cons_zero, List.getElem?_cons_succ, List.getElem?_nil, List.set_cons_zero, List.set_cons_succ, lstAt, res, resD, truS, truth, app2, on1, on2, lstOnly, lenS, allD_nil, allD_cons, Option.map_some, Option.map_none, Option.bind_some, Option.bind_none, dAdd, dSub, dMul_ok, dMod_ok, dDiv_ok, dLt, dLe, dGt, dGe, dEq_i, dEq_s, dEq_b, dNe_i, dNe_s, dNe_b, dEq_ti, dNe_ti, dEq_li, dNe_li, dIs, dIsNot, nonD, dIn, dNotIn, dIx, atI_0, atI_1, atI_2, dTup, dInt, dMin, dMax, dSum, dAll, dAny, intsOf_map, bolsOf_map, intsOf_nil, intsOf_cons, dMin2, dMax2, dAbs, keySl, Z.keyOf, putS, lim, retN_d, getLast0, setLast0, takeLast0, takeLast1, List.take_succ_cons, List.take_zero, List.take_length, List.take_nil, decide_eq_true_eq, beq_iff_eq, if_true, if_false, Bool.not_true, Bool.not_false, Bool.not_eq_true', Bool.false_eq_true, Bool.true_eq_false, reduceIte, if_pos, if_neg, Nat.add_eq, List.isEmpty_cons, List.isEmpty_nil, Option.some.injEq, decide_true, decide_false, decide_eq_true, decide_eq_false, beq_self_eq_true, BEq.rfl, beq_eq_false_iff_ne, Nat.zero_add, Nat.reduceAdd, Int.toNat_natCast, Bool.not_eq_true, decide_eq_false_iff_not, bne_iff_ne, ne_eq, not_true_eq_false, not_false_eq_true]
  refine ok_seq ?_
  try simp (disch := omega) only [wipeZ, forget, okE_val, okE_exc, okE_bind, okS_st, okS_seq, okS_nx, okS_rt, okS_bk, okS_ct, okS_ex, okE_ofOpt, zdrop, zapp, zset, zsetF, zifS, ztru, ztst, zop, zcb, zcf, zacons, zanil, zc, zv, znil, zret, zcall, zfz, znew, zneg, zos, zon, zsl, zslF, ztup, zlst, zand, zor, znot, zif, zpar, zpar3, zasg, gN, gT2, gT3, zdnew, zdput, zmt1, zcnt1, zandV, zorV, znotV, zchain, zfrz, zbrk, zcnt, zopF, zpop0, zlput, zdget, zdin, zdnin, zdget2, zisi, ziA, ziQ, itemsQ, ziL, ziT, itemsL, itemsT, rng1_ok, rng2_ok, izs_len, izr_len, zipOf, enumOf, ofOpt, bind_val, bind_exc, st_val, st_exc, seq_nx, seq_rt, seq_ex, seq_bk, seq_ct, List.map_cons, List.map_nil, List.cons_append, List.nil_append, List.replicate, List.length_cons, List.length_nil, List.length_append, List.length_map, List.length_set, List.getElem?_cons_zero, List.getElem?_cons_succ, List.getElem?_nil, List.set_cons_zero, List.set_cons_succ, lstAt, res, resD, truS, truth, app2, on1, on2, lstOnly, lenS, allD_nil, allD_cons, Option.map_some, Option.map_none, Option.bind_some, Option.bind_none, dAdd, dSub, dMul_ok, dMod_ok, dDiv_ok, dLt, dLe, dGt, dGe, dEq_i, dEq_s, dEq_b, dNe_i, dNe_s, dNe_b, dEq_ti, dNe_ti, dEq_li, dNe_li, dIs, dIsNot, nonD, dIn, dNotIn, dIx, atI_0, atI_1, atI_2, dTup, dInt, dMin, dMax, dSum, dAll, dAny, intsOf_map, bolsOf_map, intsOf_nil, intsOf_cons, dMin2, dMax2, dAbs, keySl, Z.keyOf, putS, lim, retN_d, getLast0, setLast0, takeLast0, takeLast1, List.take_succ_cons, List.take_zero, List.take_length, List.take_nil, decide_eq_true_eq, beq_iff_eq, if_true, if_false, Bool.not_true, Bool.not_false, Bool.not_eq_true', Bool.false_eq_true, Bool.true_eq_false, reduceIte, if_pos, if_neg, Nat.add_eq, List.isEmpty_cons, List.isEmpty_nil, Option.some.injEq, decide_true, decide_false, decide_eq_true, decide_eq_false, beq_self_eq_true, BEq.rfl, beq_eq_false_iff_ne, Nat.zero_add, Nat.reduceAdd, Int.toNat_natCast, Bool.not_eq_true, decide_eq_false_iff_not, bne_iff_ne, ne_eq, not_true_eq_false, not_false_eq_true]
  refine ok_seq ?_
  try simp (disch := omega) only [wipeZ, forget, okE_val, okE_exc, okE_bind, okS_st, okS_seq, okS_nx, okS_rt, okS_bk, okS_ct, okS_ex, okE_ofOpt, zdrop, zapp, zset, zsetF, zifS, ztru, ztst, zop, zcb, zcf, zacons, zanil, zc, zv, znil, zret, zcall, zfz, znew, zneg, zos, zon, zsl, zslF, ztup, zlst, zand, zor, znot, zif, zpar, zpar3, zasg, gN, gT2, gT3, zdnew, zdput, zmt1, zcnt1, zandV, zorV, znotV, zchain, zfrz, zbrk, zcnt, zopF, zpop0, zlput, zdget, zdin, zdnin, zdget2, zisi, ziA, ziQ, itemsQ, ziL, ziT, itemsL, itemsT, rng1_ok, rng2_ok, izs_len, izr_len, zipOf, enumOf, ofOpt, bind_val, bind_exc, st_val, st_exc, seq_nx, seq_rt, seq_ex, seq_bk, seq_ct, List.map_cons, List.map_nil, List.cons_append, List.nil_append, List.replicate, List.length_cons, List.length_nil, List.length_append, List.length_map, List.length_set, List.getElem?_cons_zero, List.getElem?_cons_succ, List.getElem?_nil, List.set_cons_zero, List.set_cons_succ, lstAt, res, resD, truS, truth, app2, on1, on2, lstOnly, lenS, allD_nil, allD_cons, Option.map_some, Option.map_none, Option.bind_some, Option.bind_none, dAdd, dSub, dMul_ok, dMod_ok, dDiv_ok, dLt, dLe, dGt, dGe, dEq_i, dEq_s, dEq_b, dNe_i, dNe_s, dNe_b, dEq_ti, dNe_ti, dEq_li, dNe_li, dIs, dIsNot, nonD, dIn, dNotIn, dIx, atI_0, atI_1, atI_2, dTup, dInt, dMin, dMax, dSum, dAll, dAny, intsOf_map, bolsOf_map, intsOf_nil, intsOf_cons, dMin2, dMax2, dAbs, keySl, Z.keyOf, putS, lim, retN_d, getLast0, setLast0, takeLast0, takeLast1, List.take_succ_cons, List.take_zero, List.take_length, List.take_nil, decide_eq_true_eq, beq_iff_eq, if_true, if_false, Bool.not_true, Bool.not_false, Bool.not_eq_true', Bool.false_eq_true, Bool.true_eq_false, reduceIte, if_pos, if_neg, Nat.add_eq, List.isEmpty_cons, List.isEmpty_nil, Option.some.injEq, decide_true, decide_false, decide_eq_true, decide_eq_false, beq_self_eq_true, BEq.rfl, beq_eq_false_iff_ne, Nat.zero_add, Nat.reduceAdd, Int.toNat_natCast, Bool.not_eq_true, decide_eq_false_iff_not, bne_iff_ne, ne_eq, not_true_eq_false, not_false_eq_true]
  refine ok_seq ?_
  rw [hk]
  cases ns with
  | nil =>
    try simp (disch := omega) only [wipeZ, forget, okE_val, okE_exc, okE_bind, okS_st, okS_seq, okS_nx, okS_rt, okS_bk, okS_ct, okS_ex, okE_ofOpt, zdrop, zapp, zset, zsetF, zifS, ztru, ztst, zop, zcb, zcf, zacons, zanil, zc, zv, znil, zret, zcall, zfz, znew, zneg, zos, zon, zsl, zslF, ztup, zlst, zand, zor, znot, zif, zpar, zpar3, zasg, gN, gT2, gT3, zdnew, zdput, zmt1, zcnt1, zandV, zorV, znotV, zchain, zfrz, zbrk, zcnt, zopF, zpop0, zlput, zdget, zdin, zdnin, zdget2, zisi, ziA, ziQ, itemsQ, ziL, ziT, itemsL, itemsT, rng1_ok, rng2_ok, izs_len, izr_len, zipOf, enumOf, ofOpt, bind_val, bind_exc, st_val, st_exc, seq_nx, seq_rt, seq_ex, seq_bk, seq_ct, List.map_cons, List.map_nil, List.cons_append, List.nil_append, List.replicate, List.length_cons, List.length_nil, List.length_append, List.length_map, List.length_set, List.getElem?_cons_zero, List.getElem?_cons_succ, List.getElem?_nil, List.set_cons_zero, List.set_cons_succ, lstAt, res, resD, truS, truth, app2, on1, on2, lstOnly, lenS, allD_nil, allD_cons, Option.map_some, Option.map_none, Option.bind_some, Option.bind_none, dAdd, dSub, dMul_ok, dMod_ok, dDiv_ok, dLt, dLe, dGt, dGe, dEq_i, dEq_s, dEq_b, dNe_i, dNe_s, dNe_b, dEq_ti, dNe_ti, dEq_li, dNe_li, dIs, dIsNot, nonD, dIn, dNotIn, dIx, atI_0, atI_1, atI_2, dTup, dInt, dMin, dMax, dSum, dAll, dAny, intsOf_map, bolsOf_map, intsOf_nil, intsOf_cons, dMin2, dMax2, dAbs, keySl, Z.keyOf, putS, lim, retN_d, getLast0, setLast0, takeLast0, takeLast1, List.take_succ_cons, List.take_zero, List.take_length, List.take_nil, decide_eq_true_eq, beq_iff_eq, if_true, if_false, Bool.not_true, Bool.not_false, Bool.not_eq_true', Bool.false_eq_true, Bool.true_eq_false, reduceIte, if_pos, if_neg, Nat.add_eq, List.isEmpty_cons, List.isEmpty_nil, Option.some.injEq, decide_true, decide_false, decide_eq_true, decide_eq_false, beq_self_eq_true, BEq.rfl, beq_eq_false_iff_ne, Nat.zero_add, Nat.reduceAdd, Int.toNat_natCast, Bool.not_eq_true, decide_eq_false_iff_not, bne_iff_ne, ne_eq, not_true_eq_false, not_false_eq_true]
    exact fin 0
  | cons n ns =>
    have hp : (0 : Int) < ((n :: ns).map PyData.int).length := by simp only [List.length_map, List.length_cons]; omega
    obtain ⟨x, e, hx⟩ := atI_ex (l := (n :: ns).map PyData.int) (i := k % ((n :: ns).map PyData.int).length) (Int.emod_nonneg _ (by omega)) (Int.emod_lt_of_pos _ hp)
    obtain ⟨c, _, rfl⟩ := List.mem_map.mp hx
    simp only [List.length_map, List.length_cons, List.map_cons] at e hp
    try simp (disch := omega) only [wipeZ, forget, okE_val, okE_exc, okE_bind, okS_st, okS_seq, okS_nx, okS_rt, okS_bk, okS_ct, okS_ex, okE_ofOpt, zdrop, zapp, zset, zsetF, zifS, ztru, ztst, zop, zcb, zcf, zacons, zanil, zc, zv, znil, zret, zcall, zfz, znew, zneg, zos, zon, zsl, zslF, ztup, zlst, zand, zor, znot, zif, zpar, zpar3, zasg, gN, gT2, gT3, zdnew, zdput, zmt1, zcnt1, zandV, zorV, znotV, zchain, zfrz, zbrk, zcnt, zopF, zpop0, zlput, zdget, zdin, zdnin, zdget2, zisi, ziA, ziQ, itemsQ, ziL, ziT, itemsL, itemsT, rng1_ok, rng2_ok, izs_len, izr_len, zipOf, enumOf, ofOpt, bind_val, bind_exc, st_val, st_exc, seq_nx, seq_rt, seq_ex, seq_bk, seq_ct, List.map_cons, List.map_nil, List.cons_append, List.nil_append, List.replicate, List.length_cons, List.length_nil, List.length_append, List.length_map, List.length_set, List.getElem?_cons_zero, List.getElem?_cons_succ, List.getElem?_nil, List.set_cons_zero, List.set_cons_succ, lstAt, res, resD, truS, truth, app2, on1, on2, lstOnly, lenS, allD_nil, allD_cons, Option.map_some, Option.map_none, Option.bind_some, Option.bind_none, dAdd, dSub, dMul_ok, dMod_ok, dDiv_ok, dLt, dLe, dGt, dGe, dEq_i, dEq_s, dEq_b, dNe_i, dNe_s, dNe_b, dEq_ti, dNe_ti, dEq_li, dNe_li, dIs, dIsNot, nonD, dIn, dNotIn, dIx, atI_0, atI_1, atI_2, dTup, dInt, dMin, dMax, dSum, dAll, dAny, intsOf_map, bolsOf_map, intsOf_nil, intsOf_cons, dMin2, dMax2, dAbs, keySl, Z.keyOf, putS, lim, retN_d, getLast0, setLast0, takeLast0, takeLast1, List.take_succ_cons, List.take_zero, List.take_length, List.take_nil, decide_eq_true_eq, beq_iff_eq, if_true, if_false, Bool.not_true, Bool.not_false, Bool.not_eq_true', Bool.false_eq_true, Bool.true_eq_false, reduceIte, if_pos, if_neg, Nat.add_eq, List.isEmpty_cons, List.isEmpty_nil, Option.some.injEq, decide_true, decide_false, decide_eq_true, decide_eq_false, beq_self_eq_true, BEq.rfl, beq_eq_false_iff_ne, Nat.zero_add, Nat.reduceAdd, Int.toNat_natCast, Bool.not_eq_true, decide_eq_false_iff_not, bne_iff_ne, ne_eq, not_true_eq_false, not_false_eq_true, e]
    exact fin c
theorem pick_ok {ns : List Int} {tw : List PyData} {R : Sto} {ds : List PyData} {X : XP} {P : Sl → Sto → Prop} (ht : tw.length < 100000) (hm : ds ≠ [])
    (h : ∀ v ∈ ds, P (.d v) (.scr ns :: .lst (tw ++ [.int 0]) :: R)) : OkE (F__law_pick [.box 0, .box 1, .d (.tuple ds)] (.scr ns :: .lst tw :: R)) X P := by
  refine ok_def rfl ?_
  unfold z__law_pick
  have hl := List.length_pos_iff.mpr hm
  simp (disch := omega) only [wipeZ, forget, okE_val, okE_exc, okE_bind, okS_st, okS_seq, okS_nx, okS_rt, okS_bk, okS_ct, okS_ex, okE_ofOpt, zseq, zdrop, zapp, zset, zsetF, zifS, ztru, ztst, zop, zcb, zcf, zacons, zanil, zc, zv, znil, zret, zcall, zfz, znew, zneg, zos, zon, zsl, zslF, ztup, zlst, zand, zor, znot, zif, zpar, zpar3, zasg, gN, gT2, gT3, zdnew, zdput, zmt1, zcnt1, zandV, zorV, znotV, zchain, zfrz, zbrk, zcnt, zopF, zpop0, zlput, zdget, zdin, zdnin, zdget2, zisi, ziA, ziQ, itemsQ, ziL, ziT, itemsL, itemsT, rng1_ok, rng2_ok, izs_len, izr_len, zipOf, enumOf, ofOpt, bind_val, bind_exc, st_val, st_exc, seq_nx, seq_rt, seq_ex, seq_bk, seq_ct, List.map_cons, List.map_nil, List.cons_append, List.nil_append, List.replicate, List.length_cons, List.length_nil, List.length_append, List.length_map, List.length_set, List.getElem?_cons_zero, List.getElem?_cons_succ, List.getElem?_nil, List.set_cons_zero, List.set_cons_succ, lstAt, res, resD, truS, truth, app2, on1, on2, lstOnly, lenS, allD_nil, allD_cons, Option.map_some, Option.map_none, Option.bind_some, Option.bind_none, dAdd, dSub, dMul_ok, dMod_ok, dDiv_ok, dLt, dLe, dGt, dGe, dEq_i, dEq_s, dEq_b, dNe_i, dNe_s, dNe_b, dEq_ti, dNe_ti, dEq_li, dNe_li, dIs, dIsNot, nonD, dIn, dNotIn, dIx, atI_0, atI_1, atI_2, dTup, dInt, dMin, dMax, dSum, dAll, dAny, intsOf_map, bolsOf_map, intsOf_nil, intsOf_cons, dMin2, dMax2, dAbs, keySl, Z.keyOf, putS, lim, retN_d, getLast0, setLast0, takeLast0, takeLast1, List.take_succ_cons, List.take_zero, List.take_length, List.take_nil, decide_eq_true_eq, beq_iff_eq, if_true, if_false, Bool.not_true, Bool.not_false, Bool.not_eq_true', Bool.false_eq_true, Bool.true_eq_false, reduceIte, if_pos, if_neg, Nat.add_eq, List.isEmpty_cons, List.isEmpty_nil, Option.some.injEq, decide_true, decide_false, decide_eq_true, decide_eq_false, beq_self_eq_true, BEq.rfl, beq_eq_false_iff_ne, Nat.zero_add, Nat.reduceAdd, Int.toNat_natCast, Bool.not_eq_true, decide_eq_false_iff_not, bne_iff_ne, ne_eq, not_true_eq_false, not_false_eq_true]
  refine draw_ok ht (by omega) fun v h0 h1 => ?_
  obtain ⟨x, e, hx⟩ := atI_ex (l := ds) (i := v) h0 h1
  simp (disch := omega) only [wipeZ, forget, okE_val, okE_exc, okE_bind, okS_st, okS_seq, okS_nx, okS_rt, okS_bk, okS_ct, okS_ex, okE_ofOpt, zseq, zdrop, zapp, zset, zsetF, zifS, ztru, ztst, zop, zcb, zcf, zacons, zanil, zc, zv, znil, zret, zcall, zfz, znew, zneg, zos, zon, zsl, zslF, ztup, zlst, zand, zor, znot, zif, zpar, zpar3, zasg, gN, gT2, gT3, zdnew, zdput, zmt1, zcnt1, zandV, zorV, znotV, zchain, zfrz, zbrk, zcnt, zopF, zpop0, zlput, zdget, zdin, zdnin, zdget2, zisi, ziA, ziQ, itemsQ, ziL, ziT, itemsL, itemsT, rng1_ok, rng2_ok, izs_len, izr_len, zipOf, enumOf, ofOpt, bind_val, bind_exc, st_val, st_exc, seq_nx, seq_rt, seq_ex, seq_bk, seq_ct, List.map_cons, List.map_nil, List.cons_append, List.nil_append, List.replicate, List.length_cons, List.length_nil, List.length_append, List.length_map, List.length_set, List.getElem?_cons_zero, List.getElem?_cons_succ, List.getElem?_nil, List.set_cons_zero, List.set_cons_succ, lstAt, res, resD, truS, truth, app2, on1, on2, lstOnly, lenS, allD_nil, allD_cons, Option.map_some, Option.map_none, Option.bind_some, Option.bind_none, dAdd, dSub, dMul_ok, dMod_ok, dDiv_ok, dLt, dLe, dGt, dGe, dEq_i, dEq_s, dEq_b, dNe_i, dNe_s, dNe_b, dEq_ti, dNe_ti, dEq_li, dNe_li, dIs, dIsNot, nonD, dIn, dNotIn, dIx, atI_0, atI_1, atI_2, dTup, dInt, dMin, dMax, dSum, dAll, dAny, intsOf_map, bolsOf_map, intsOf_nil, intsOf_cons, dMin2, dMax2, dAbs, keySl, Z.keyOf, putS, lim, retN_d, getLast0, setLast0, takeLast0, takeLast1, List.take_succ_cons, List.take_zero, List.take_length, List.take_nil, decide_eq_true_eq, beq_iff_eq, if_true, if_false, Bool.not_true, Bool.not_false, Bool.not_eq_true', Bool.false_eq_true, Bool.true_eq_false, reduceIte, if_pos, if_neg, Nat.add_eq, List.isEmpty_cons, List.isEmpty_nil, Option.some.injEq, decide_true, decide_false, decide_eq_true, decide_eq_false, beq_self_eq_true, BEq.rfl, beq_eq_false_iff_ne, Nat.zero_add, Nat.reduceAdd, Int.toNat_natCast, Bool.not_eq_true, decide_eq_false_iff_not, bne_iff_ne, ne_eq, not_true_eq_false, not_false_eq_true, e]
  exact h x hx
theorem pickL_ok {ns : List Int} {tw : List PyData} {R : Sto} {ds : List PyData} {X : XP} {P : Sl → Sto → Prop} (ht : tw.length < 100000) (hm : ds ≠ [])
    (h : ∀ v ∈ ds, P (.d v) (.scr ns :: .lst (tw ++ [.int 0]) :: R)) : OkE (F__law_pick [.box 0, .box 1, .d (.list ds)] (.scr ns :: .lst tw :: R)) X P := by
  refine ok_def rfl ?_
  unfold z__law_pick
  have hl := List.length_pos_iff.mpr hm
  simp (disch := omega) only [wipeZ, forget, okE_val, okE_exc, okE_bind, okS_st, okS_seq, okS_nx, okS_rt, okS_bk, okS_ct, okS_ex, okE_ofOpt, zseq, zdrop, zapp, zset, zsetF, zifS, ztru, ztst, zop, zcb, zcf, zacons, zanil, zc, zv, znil, zret, zcall, zfz, znew, zneg, zos, zon, zsl, zslF, ztup, zlst, zand, zor, znot, zif, zpar, zpar3, zasg, gN, gT2, gT3, zdnew, zdput, zmt1, zcnt1, zandV, zorV, znotV, zchain, zfrz, zbrk, zcnt, zopF, zpop0, zlput, zdget, zdin, zdnin, zdget2, zisi, ziA, ziQ, itemsQ, ziL, ziT, itemsL, itemsT, rng1_ok, rng2_ok, izs_len, izr_len, zipOf, enumOf, ofOpt, bind_val, bind_exc, st_val, st_exc, seq_nx, seq_rt, seq_ex, seq_bk, seq_ct, List.map_cons, List.map_nil, List.cons_append, List.nil_append, List.replicate, List.length_cons, List.length_nil, List.length_append, List.length_map, List.length_set, List.getElem?_cons_zero, List.getElem?_cons_succ, List.getElem?_nil, List.set_cons_zero, List.set_cons_succ, lstAt, res, resD, truS, truth, app2, on1, on2, lstOnly, lenS, allD_nil, allD_cons, Option.map_some, Option.map_none, Option.bind_some, Option.bind_none, dAdd, dSub, dMul_ok, dMod_ok, dDiv_ok, dLt, dLe, dGt, dGe, dEq_i, dEq_s, dEq_b, dNe_i, dNe_s, dNe_b, dEq_ti, dNe_ti, dEq_li, dNe_li, dIs, dIsNot, nonD, dIn, dNotIn, dIx, atI_0, atI_1, atI_2, dTup, dInt, dMin, dMax, dSum, dAll, dAny, intsOf_map, bolsOf_map, intsOf_nil, intsOf_cons, dMin2, dMax2, dAbs, keySl, Z.keyOf, putS, lim, retN_d, getLast0, setLast0, takeLast0, takeLast1, List.take_succ_cons, List.take_zero, List.take_length, List.take_nil, decide_eq_true_eq, beq_iff_eq, if_true, if_false, Bool.not_true, Bool.not_false, Bool.not_eq_true', Bool.false_eq_true, Bool.true_eq_false, reduceIte, if_pos, if_neg, Nat.add_eq, List.isEmpty_cons, List.isEmpty_nil, Option.some.injEq, decide_true, decide_false, decide_eq_true, decide_eq_false, beq_self_eq_true, BEq.rfl, beq_eq_false_iff_ne, Nat.zero_add, Nat.reduceAdd, Int.toNat_natCast, Bool.not_eq_true, decide_eq_false_iff_not, bne_iff_ne, ne_eq, not_true_eq_false, not_false_eq_true]
  refine draw_ok ht (by omega) fun v h0 h1 => ?_
  obtain ⟨x, e, hx⟩ := atI_ex (l := ds) (i := v) h0 h1
  simp (disch := omega) only [wipeZ, forget, okE_val, okE_exc, okE_bind, okS_st, okS_seq, okS_nx, okS_rt, okS_bk, okS_ct, okS_ex, okE_ofOpt, zseq, zdrop, zapp, zset, zsetF, zifS, ztru, ztst, zop, zcb, zcf, zacons, zanil, zc, zv, znil, zret, zcall, zfz, znew, zneg, zos, zon, zsl, zslF, ztup, zlst, zand, zor, znot, zif, zpar, zpar3, zasg, gN, gT2, gT3, zdnew, zdput, zmt1, zcnt1, zandV, zorV, znotV, zchain, zfrz, zbrk, zcnt, zopF, zpop0, zlput, zdget, zdin, zdnin, zdget2, zisi, ziA, ziQ, itemsQ, ziL, ziT, itemsL, itemsT, rng1_ok, rng2_ok, izs_len, izr_len, zipOf, enumOf, ofOpt, bind_val, bind_exc, st_val, st_exc, seq_nx, seq_rt, seq_ex, seq_bk, seq_ct, List.map_cons, List.map_nil, List.cons_append, List.nil_append, List.replicate, List.length_cons, List.length_nil, List.length_append, List.length_map, List.length_set, List.getElem?_cons_zero, List.getElem?_cons_succ, List.getElem?_nil, List.set_cons_zero, List.set_cons_succ, lstAt, res, resD, truS, truth, app2, on1, on2, lstOnly, lenS, allD_nil, allD_cons, Option.map_some, Option.map_none, Option.bind_some, Option.bind_none, dAdd, dSub, dMul_ok, dMod_ok, dDiv_ok, dLt, dLe, dGt, dGe, dEq_i, dEq_s, dEq_b, dNe_i, dNe_s, dNe_b, dEq_ti, dNe_ti, dEq_li, dNe_li, dIs, dIsNot, nonD, dIn, dNotIn, dIx, atI_0, atI_1, atI_2, dTup, dInt, dMin, dMax, dSum, dAll, dAny, intsOf_map, bolsOf_map, intsOf_nil, intsOf_cons, dMin2, dMax2, dAbs, keySl, Z.keyOf, putS, lim, retN_d, getLast0, setLast0, takeLast0, takeLast1, List.take_succ_cons, List.take_zero, List.take_length, List.take_nil, decide_eq_true_eq, beq_iff_eq, if_true, if_false, Bool.not_true, Bool.not_false, Bool.not_eq_true', Bool.false_eq_true, Bool.true_eq_false, reduceIte, if_pos, if_neg, Nat.add_eq, List.isEmpty_cons, List.isEmpty_nil, Option.some.injEq, decide_true, decide_false, decide_eq_true, decide_eq_false, beq_self_eq_true, BEq.rfl, beq_eq_false_iff_ne, Nat.zero_add, Nat.reduceAdd, Int.toNat_natCast, Bool.not_eq_true, decide_eq_false_iff_not, bne_iff_ne, ne_eq, not_true_eq_false, not_false_eq_true, e]
  exact h x hx
theorem drum_ok {ns : List Int} {tw : List PyData} {R : Sto} {lo hi : Int} {X : XP} {P : Sl → Sto → Prop} (ht : tw.length < 90000) (hl : 0 < lo) (hlh : lo ≤ hi)
    (h : ∀ n hs tw', tw'.length ≤ tw.length + 5 → lo ≤ n → n ≤ hi → IsDrum n hs → hs.length ≤ 3 → P (.d (.tuple [.int n, .tuple (hs.map .int)])) (.scr ns :: .lst tw' :: R)) : OkE (F__law_drum [.box 0, .box 1, .d (.int lo), .d (.int hi)] (.scr ns :: .lst tw :: R)) X P := by
  refine ok_def rfl ?_
  unfold z__law_drum
  refine ok_seq ?_
  try simp (disch := omega) only [wipeZ, forget, okE_val, okE_exc, okE_bind, okS_st, okS_seq, okS_nx, okS_rt, okS_bk, okS_ct, okS_ex, okE_ofOpt, zdrop, zapp, zset, zsetF, zifS, ztru, ztst, zop, zcb, zcf, zacons, zanil, zc, zv, znil, zret, zcall, zfz, znew, zneg, zos, zon, zsl, zslF, ztup, zlst, zand, zor, znot, zif, zpar, zpar3, zasg, gN, gT2, gT3, zdnew, zdput, zmt1, zcnt1, zandV, zorV, znotV, zchain, zfrz, zbrk, zcnt, zopF, zpop0, zlput, zdget, zdin, zdnin, zdget2, zisi, ziA, ziQ, itemsQ, ziL, ziT, itemsL, itemsT, rng1_ok, rng2_ok, izs_len, izr_len, zipOf, enumOf, ofOpt, bind_val, bind_exc, st_val, st_exc, seq_nx, seq_rt, seq_ex, seq_bk, seq_ct, List.map_cons, List.map_nil, List.cons_append, List.nil_append, List.replicate, List.length_cons, List.length_nil, List.length_append, List.length_map, List.length_set, List.getElem?_cons_zero, List.getElem?_cons_succ, List.getElem?_nil, List.set_cons_zero, List.set_cons_succ, lstAt, res, resD, truS, truth, app2, on1, on2, lstOnly, lenS, allD_nil, allD_cons, Option.map_some, Option.map_none, Option.bind_some, Option.bind_none, dAdd, dSub, dMul_ok, dMod_ok, dDiv_ok, dLt, dLe, dGt, dGe, dEq_i, dEq_s, dEq_b, dNe_i, dNe_s, dNe_b, dEq_ti, dNe_ti, dEq_li, dNe_li, dIs, dIsNot, nonD, dIn, dNotIn, dIx, atI_0, atI_1, atI_2, dTup, dInt, dMin, dMax, dSum, dAll, dAny, intsOf_map, bolsOf_map, intsOf_nil, intsOf_cons, dMin2, dMax2, dAbs, keySl, Z.keyOf, putS, lim, retN_d, getLast0, setLast0, takeLast0, takeLast1, List.take_succ_cons, List.take_zero, List.take_length, List.take_nil, decide_eq_true_eq, beq_iff_eq, if_true, if_false, Bool.not_true, Bool.not_false, Bool.not_eq_true', Bool.false_eq_true, Bool.true_eq_false, reduceIte, if_pos, if_neg, Nat.add_eq, List.isEmpty_cons, List.isEmpty_nil, Option.some.injEq, decide_true, decide_false, decide_eq_true, decide_eq_false, beq_self_eq_true, BEq.rfl, beq_eq_false_iff_ne, Nat.zero_add, Nat.reduceAdd, Int.toNat_natCast, Bool.not_eq_true, decide_eq_false_iff_not, bne_iff_ne, ne_eq, not_true_eq_false, not_false_eq_true]
  refine draw_ok (by omega) (by omega) fun v h0 h1 => ?_
  try simp (disch := omega) only [wipeZ, forget, okE_val, okE_exc, okE_bind, okS_st, okS_seq, okS_nx, okS_rt, okS_bk, okS_ct, okS_ex, okE_ofOpt, zdrop, zapp, zset, zsetF, zifS, ztru, ztst, zop, zcb, zcf, zacons, zanil, zc, zv, znil, zret, zcall, zfz, znew, zneg, zos, zon, zsl, zslF, ztup, zlst, zand, zor, znot, zif, zpar, zpar3, zasg, gN, gT2, gT3, zdnew, zdput, zmt1, zcnt1, zandV, zorV, znotV, zchain, zfrz, zbrk, zcnt, zopF, zpop0, zlput, zdget, zdin, zdnin, zdget2, zisi, ziA, ziQ, itemsQ, ziL, ziT, itemsL, itemsT, rng1_ok, rng2_ok, izs_len, izr_len, zipOf, enumOf, ofOpt, bind_val, bind_exc, st_val, st_exc, seq_nx, seq_rt, seq_ex, seq_bk, seq_ct, List.map_cons, List.map_nil, List.cons_append, List.nil_append, List.replicate, List.length_cons, List.length_nil, List.length_append, List.length_map, List.length_set, List.getElem?_cons_zero, List.getElem?_cons_succ, List.getElem?_nil, List.set_cons_zero, List.set_cons_succ, lstAt, res, resD, truS, truth, app2, on1, on2, lstOnly, lenS, allD_nil, allD_cons, Option.map_some, Option.map_none, Option.bind_some, Option.bind_none, dAdd, dSub, dMul_ok, dMod_ok, dDiv_ok, dLt, dLe, dGt, dGe, dEq_i, dEq_s, dEq_b, dNe_i, dNe_s, dNe_b, dEq_ti, dNe_ti, dEq_li, dNe_li, dIs, dIsNot, nonD, dIn, dNotIn, dIx, atI_0, atI_1, atI_2, dTup, dInt, dMin, dMax, dSum, dAll, dAny, intsOf_map, bolsOf_map, intsOf_nil, intsOf_cons, dMin2, dMax2, dAbs, keySl, Z.keyOf, putS, lim, retN_d, getLast0, setLast0, takeLast0, takeLast1, List.take_succ_cons, List.take_zero, List.take_length, List.take_nil, decide_eq_true_eq, beq_iff_eq, if_true, if_false, Bool.not_true, Bool.not_false, Bool.not_eq_true', Bool.false_eq_true, Bool.true_eq_false, reduceIte, if_pos, if_neg, Nat.add_eq, List.isEmpty_cons, List.isEmpty_nil, Option.some.injEq, decide_true, decide_false, decide_eq_true, decide_eq_false, beq_self_eq_true, BEq.rfl, beq_eq_false_iff_ne, Nat.zero_add, Nat.reduceAdd, Int.toNat_natCast, Bool.not_eq_true, decide_eq_false_iff_not, bne_iff_ne, ne_eq, not_true_eq_false, not_false_eq_true]
  refine ok_seq ?_
  try simp (disch := omega) only [wipeZ, forget, okE_val, okE_exc, okE_bind, okS_st, okS_seq, okS_nx, okS_rt, okS_bk, okS_ct, okS_ex, okE_ofOpt, zdrop, zapp, zset, zsetF, zifS, ztru, ztst, zop, zcb, zcf, zacons, zanil, zc, zv, znil, zret, zcall, zfz, znew, zneg, zos, zon, zsl, zslF, ztup, zlst, zand, zor, znot, zif, zpar, zpar3, zasg, gN, gT2, gT3, zdnew, zdput, zmt1, zcnt1, zandV, zorV, znotV, zchain, zfrz, zbrk, zcnt, zopF, zpop0, zlput, zdget, zdin, zdnin, zdget2, zisi, ziA, ziQ, itemsQ, ziL, ziT, itemsL, itemsT, rng1_ok, rng2_ok, izs_len, izr_len, zipOf, enumOf, ofOpt, bind_val, bind_exc, st_val, st_exc, seq_nx, seq_rt, seq_ex, seq_bk, seq_ct, List.map_cons, List.map_nil, List.cons_append, List.nil_append, List.replicate, List.length_cons, List.length_nil, List.length_append, List.length_map, List.length_set, List.getElem?_cons_zero, List.getElem?_cons_succ, List.getElem?_nil, List.set_cons_zero, List.set_cons_succ, lstAt, res, resD, truS, truth, app2, on1, on2, lstOnly, lenS, allD_nil, allD_cons, Option.map_some, Option.map_none, Option.bind_some, Option.bind_none, dAdd, dSub, dMul_ok, dMod_ok, dDiv_ok, dLt, dLe, dGt, dGe, dEq_i, dEq_s, dEq_b, dNe_i, dNe_s, dNe_b, dEq_ti, dNe_ti, dEq_li, dNe_li, dIs, dIsNot, nonD, dIn, dNotIn, dIx, atI_0, atI_1, atI_2, dTup, dInt, dMin, dMax, dSum, dAll, dAny, intsOf_map, bolsOf_map, intsOf_nil, intsOf_cons, dMin2, dMax2, dAbs, keySl, Z.keyOf, putS, lim, retN_d, getLast0, setLast0, takeLast0, takeLast1, List.take_succ_cons, List.take_zero, List.take_length, List.take_nil, decide_eq_true_eq, beq_iff_eq, if_true, if_false, Bool.not_true, Bool.not_false, Bool.not_eq_true', Bool.false_eq_true, Bool.true_eq_false, reduceIte, if_pos, if_neg, Nat.add_eq, List.isEmpty_cons, List.isEmpty_nil, Option.some.injEq, decide_true, decide_false, decide_eq_true, decide_eq_false, beq_self_eq_true, BEq.rfl, beq_eq_false_iff_ne, Nat.zero_add, Nat.reduceAdd, Int.toNat_natCast, Bool.not_eq_true, decide_eq_false_iff_not, bne_iff_ne, ne_eq, not_true_eq_false, not_false_eq_true]
  refine ok_seq ?_
  try simp (disch := omega) only [wipeZ, forget, okE_val, okE_exc, okE_bind, okS_st, okS_seq, okS_nx, okS_rt, okS_bk, okS_ct, okS_ex, okE_ofOpt, zdrop, zapp, zset, zsetF, zifS, ztru, ztst, zop, zcb, zcf, zacons, zanil, zc, zv, znil, zret, zcall, zfz, znew, zneg, zos, zon, zsl, zslF, ztup, zlst, zand, zor, znot, zif, zpar, zpar3, zasg, gN, gT2, gT3, zdnew, zdput, zmt1, zcnt1, zandV, zorV, znotV, zchain, zfrz, zbrk, zcnt, zopF, zpop0, zlput, zdget, zdin, zdnin, zdget2, zisi, ziA, ziQ, itemsQ, ziL, ziT, itemsL, itemsT, rng1_ok, rng2_ok, izs_len, izr_len, zipOf, enumOf, ofOpt, bind_val, bind_exc, st_val, st_exc, seq_nx, seq_rt, seq_ex, seq_bk, seq_ct, List.map_cons, List.map_nil, List.cons_append, List.nil_append, List.replicate, List.length_cons, List.length_nil, List.length_append, List.length_map, List.length_set, List.getElem?_cons_zero, List.getElem?_cons_succ, List.getElem?_nil, List.set_cons_zero, List.set_cons_succ, lstAt, res, resD, truS, truth, app2, on1, on2, lstOnly, lenS, allD_nil, allD_cons, Option.map_some, Option.map_none, Option.bind_some, Option.bind_none, dAdd, dSub, dMul_ok, dMod_ok, dDiv_ok, dLt, dLe, dGt, dGe, dEq_i, dEq_s, dEq_b, dNe_i, dNe_s, dNe_b, dEq_ti, dNe_ti, dEq_li, dNe_li, dIs, dIsNot, nonD, dIn, dNotIn, dIx, atI_0, atI_1, atI_2, dTup, dInt, dMin, dMax, dSum, dAll, dAny, intsOf_map, bolsOf_map, intsOf_nil, intsOf_cons, dMin2, dMax2, dAbs, keySl, Z.keyOf, putS, lim, retN_d, getLast0, setLast0, takeLast0, takeLast1, List.take_succ_cons, List.take_zero, List.take_length, List.take_nil, decide_eq_true_eq, beq_iff_eq, if_true, if_false, Bool.not_true, Bool.not_false, Bool.not_eq_true', Bool.false_eq_true, Bool.true_eq_false, reduceIte, if_pos, if_neg, Nat.add_eq, List.isEmpty_cons, List.isEmpty_nil, Option.some.injEq, decide_true, decide_false, decide_eq_true, decide_eq_false, beq_self_eq_true, BEq.rfl, beq_eq_false_iff_ne, Nat.zero_add, Nat.reduceAdd, Int.toNat_natCast, Bool.not_eq_true, decide_eq_false_iff_not, bne_iff_ne, ne_eq, not_true_eq_false, not_false_eq_true, zfor]
  refine draw_ok (by simp; omega) (by omega) fun u g0 g1 => ?_
  try simp (disch := omega) only [wipeZ, forget, okE_val, okE_exc, okE_bind, okS_st, okS_seq, okS_nx, okS_rt, okS_bk, okS_ct, okS_ex, okE_ofOpt, zdrop, zapp, zset, zsetF, zifS, ztru, ztst, zop, zcb, zcf, zacons, zanil, zc, zv, znil, zret, zcall, zfz, znew, zneg, zos, zon, zsl, zslF, ztup, zlst, zand, zor, znot, zif, zpar, zpar3, zasg, gN, gT2, gT3, zdnew, zdput, zmt1, zcnt1, zandV, zorV, znotV, zchain, zfrz, zbrk, zcnt, zopF, zpop0, zlput, zdget, zdin, zdnin, zdget2, zisi, ziA, ziQ, itemsQ, ziL, ziT, itemsL, itemsT, rng1_ok, rng2_ok, izs_len, izr_len, zipOf, enumOf, ofOpt, bind_val, bind_exc, st_val, st_exc, seq_nx, seq_rt, seq_ex, seq_bk, seq_ct, List.map_cons, List.map_nil, List.cons_append, List.nil_append, List.replicate, List.length_cons, List.length_nil, List.length_append, List.length_map, List.length_set, List.getElem?_cons_zero, List.getElem?_cons_succ, List.getElem?_nil, List.set_cons_zero, List.set_cons_succ, lstAt, res, resD, truS, truth, app2, on1, on2, lstOnly, lenS, allD_nil, allD_cons, Option.map_some, Option.map_none, Option.bind_some, Option.bind_none, dAdd, dSub, dMul_ok, dMod_ok, dDiv_ok, dLt, dLe, dGt, dGe, dEq_i, dEq_s, dEq_b, dNe_i, dNe_s, dNe_b, dEq_ti, dNe_ti, dEq_li, dNe_li, dIs, dIsNot, nonD, dIn, dNotIn, dIx, atI_0, atI_1, atI_2, dTup, dInt, dMin, dMax, dSum, dAll, dAny, intsOf_map, bolsOf_map, intsOf_nil, intsOf_cons, dMin2, dMax2, dAbs, keySl, Z.keyOf, putS, lim, retN_d, getLast0, setLast0, takeLast0, takeLast1, List.take_succ_cons, List.take_zero, List.take_length, List.take_nil, decide_eq_true_eq, beq_iff_eq, if_true, if_false, Bool.not_true, Bool.not_false, Bool.not_eq_true', Bool.false_eq_true, Bool.true_eq_false, reduceIte, if_pos, if_neg, Nat.add_eq, List.isEmpty_cons, List.isEmpty_nil, Option.some.injEq, decide_true, decide_false, decide_eq_true, decide_eq_false, beq_self_eq_true, BEq.rfl, beq_eq_false_iff_ne, Nat.zero_add, Nat.reduceAdd, Int.toNat_natCast, Bool.not_eq_true, decide_eq_false_iff_not, bne_iff_ne, ne_eq, not_true_eq_false, not_false_eq_true]
  refine ok_for (fun i Γ S => ∃ (tw' : List PyData) (kvs : List (L2.Key × PyData)) (ks : List Int) (g : Option Sl), tw'.length ≤ tw.length + 2 + i ∧ kvs.map (·.1) = ks.map .inl ∧ ks.Nodup ∧ (∀ k ∈ ks, 0 ≤ k ∧ k < lo + v) ∧ ks.length ≤ i ∧ (0 < i → ks ≠ []) ∧
    Γ = [some (.box 0), some (.box 1), some (.d (.int lo)), some (.d (.int hi)), some (.d (.int (lo + v))), some (.box (R.length + 1 + 1)), g] ∧ S = .scr ns :: .lst tw' :: (R ++ [.dic kvs])) ?_ ?_ ?_
  · exact ⟨_, [], [], none, by simp, rfl, .nil, by simp, by simp, by simp, rfl, rfl⟩
  · rintro i d Γ S hd ⟨tw', kvs, ks, g, a1, a2, a3, a4, a5, a6, rfl, rfl⟩
    have hi : i < 3 := by
      have := (List.getElem?_eq_some_iff.mp hd).1
      simp [izs] at this
      omega
    refine ⟨_, rfl, ?_⟩
    unfold b1__law_drum
    have hkl : kvs.length = ks.length := by simpa using congrArg List.length a2
    try simp (disch := omega) only [wipeZ, forget, okE_val, okE_exc, okE_bind, okS_st, okS_seq, okS_nx, okS_rt, okS_bk, okS_ct, okS_ex, okE_ofOpt, zdrop, zapp, zset, zsetF, zifS, ztru, ztst, zop, zcb, zcf, zacons, zanil, zc, zv, znil, zret, zcall, zfz, znew, zneg, zos, zon, zsl, zslF, ztup, zlst, zand, zor, znot, zif, zpar, zpar3, zasg, gN, gT2, gT3, zdnew, zdput, zmt1, zcnt1, zandV, zorV, znotV, zchain, zfrz, zbrk, zcnt, zopF, zpop0, zlput, zdget, zdin, zdnin, zdget2, zisi, ziA, ziQ, itemsQ, ziL, ziT, itemsL, itemsT, rng1_ok, rng2_ok, izs_len, izr_len, zipOf, enumOf, ofOpt, bind_val, bind_exc, st_val, st_exc, seq_nx, seq_rt, seq_ex, seq_bk, seq_ct, List.map_cons, List.map_nil, List.cons_append, List.nil_append, List.replicate, List.length_cons, List.length_nil, List.length_append, List.length_map, List.length_set, List.getElem?_cons_zero, List.getElem?_cons_succ, List.getElem?_nil, List.set_cons_zero, List.set_cons_succ, lstAt, res, resD, truS, truth, app2, on1, on2, lstOnly, lenS, allD_nil, allD_cons, Option.map_some, Option.map_none, Option.bind_some, Option.bind_none, dAdd, dSub, dMul_ok, dMod_ok, dDiv_ok, dLt, dLe, dGt, dGe, dEq_i, dEq_s, dEq_b, dNe_i, dNe_s, dNe_b, dEq_ti, dNe_ti, dEq_li, dNe_li, dIs, dIsNot, nonD, dIn, dNotIn, dIx, atI_0, atI_1, atI_2, dTup, dInt, dMin, dMax, dSum, dAll, dAny, intsOf_map, bolsOf_map, intsOf_nil, intsOf_cons, dMin2, dMax2, dAbs, keySl, Z.keyOf, putS, lim, retN_d, getLast0, setLast0, takeLast0, takeLast1, List.take_succ_cons, List.take_zero, List.take_length, List.take_nil, decide_eq_true_eq, beq_iff_eq, if_true, if_false, Bool.not_true, Bool.not_false, Bool.not_eq_true', Bool.false_eq_true, Bool.true_eq_false, reduceIte, if_pos, if_neg, Nat.add_eq, List.isEmpty_cons, List.isEmpty_nil, Option.some.injEq, decide_true, decide_false, decide_eq_true, decide_eq_false, beq_self_eq_true, BEq.rfl, beq_eq_false_iff_ne, Nat.zero_add, Nat.reduceAdd, Int.toNat_natCast, Bool.not_eq_true, decide_eq_false_iff_not, bne_iff_ne, ne_eq, not_true_eq_false, not_false_eq_true]
    refine draw_ok (by omega) (by omega) fun c c0 c1 => ?_
    try simp (disch := omega) only [wipeZ, forget, okE_val, okE_exc, okE_bind, okS_st, okS_seq, okS_nx, okS_rt, okS_bk, okS_ct, okS_ex, okE_ofOpt, zdrop, zapp, zset, zsetF, zifS, ztru, ztst, zop, zcb, zcf, zacons, zanil, zc, zv, znil, zret, zcall, zfz, znew, zneg, zos, zon, zsl, zslF, ztup, zlst, zand, zor, znot, zif, zpar, zpar3, zasg, gN, gT2, gT3, zdnew, zdput, zmt1, zcnt1, zandV, zorV, znotV, zchain, zfrz, zbrk, zcnt, zopF, zpop0, zlput, zdget, zdin, zdnin, zdget2, zisi, ziA, ziQ, itemsQ, ziL, ziT, itemsL, itemsT, rng1_ok, rng2_ok, izs_len, izr_len, zipOf, enumOf, ofOpt, bind_val, bind_exc, st_val, st_exc, seq_nx, seq_rt, seq_ex, seq_bk, seq_ct, List.map_cons, List.map_nil, List.cons_append, List.nil_append, List.replicate, List.length_cons, List.length_nil, List.length_append, List.length_map, List.length_set, List.getElem?_cons_zero, List.getElem?_cons_succ, List.getElem?_nil, List.set_cons_zero, List.set_cons_succ, lstAt, res, resD, truS, truth, app2, on1, on2, lstOnly, lenS, allD_nil, allD_cons, Option.map_some, Option.map_none, Option.bind_some, Option.bind_none, dAdd, dSub, dMul_ok, dMod_ok, dDiv_ok, dLt, dLe, dGt, dGe, dEq_i, dEq_s, dEq_b, dNe_i, dNe_s, dNe_b, dEq_ti, dNe_ti, dEq_li, dNe_li, dIs, dIsNot, nonD, dIn, dNotIn, dIx, atI_0, atI_1, atI_2, dTup, dInt, dMin, dMax, dSum, dAll, dAny, intsOf_map, bolsOf_map, intsOf_nil, intsOf_cons, dMin2, dMax2, dAbs, keySl, Z.keyOf, putS, lim, retN_d, getLast0, setLast0, takeLast0, takeLast1, List.take_succ_cons, List.take_zero, List.take_length, List.take_nil, decide_eq_true_eq, beq_iff_eq, if_true, if_false, Bool.not_true, Bool.not_false, Bool.not_eq_true', Bool.false_eq_true, Bool.true_eq_false, reduceIte, if_pos, if_neg, Nat.add_eq, List.isEmpty_cons, List.isEmpty_nil, Option.some.injEq, decide_true, decide_false, decide_eq_true, decide_eq_false, beq_self_eq_true, BEq.rfl, beq_eq_false_iff_ne, Nat.zero_add, Nat.reduceAdd, Int.toNat_natCast, Bool.not_eq_true, decide_eq_false_iff_not, bne_iff_ne, ne_eq, not_true_eq_false, not_false_eq_true]
    refine ⟨_, putD kvs (.inl c) (.int 0), if c ∈ ks then ks else ks ++ [c], _, ?_, ?_, ?_, ?_, ?_, ?_, rfl, rfl⟩
    · simp; omega
    · rw [putD_keys, a2]
      by_cases q : c ∈ ks
      · rw [if_pos q, if_pos (List.mem_map.mpr ⟨c, q, rfl⟩)]
      · rw [if_neg q, if_neg (by
          intro z
          obtain ⟨x, hx, e⟩ := List.mem_map.mp z
          cases e
          exact q hx)]
        simp
    · split
      · exact a3
      · rename_i q
        exact List.nodup_append.mpr ⟨a3, by simp, fun x hx y hy => by
          have : y = c := by simpa using hy
          subst this
          rintro rfl
          exact q hx⟩
    · intro k hk
      split at hk
      · exact a4 k hk
      · rcases List.mem_append.mp hk with z | z
        · exact a4 k z
        · have : k = c := by simpa using z
          subst this
          omega
    · split
      · omega
      · simp; omega
    · intro _
      split
      · rename_i q
        exact List.ne_nil_of_mem q
      · simp
  · rintro Γ S ⟨tw', kvs, ks, g, a1, a2, a3, a4, a5, a6, rfl, rfl⟩
    have hr : ((izs (1 + u).toNat).map PyData.int).length = (1 + u).toNat := by simp [izs]
    rw [hr] at a1 a5 a6
    try simp (disch := omega) only [wipeZ, forget, okE_val, okE_exc, okE_bind, okS_st, okS_seq, okS_nx, okS_rt, okS_bk, okS_ct, okS_ex, okE_ofOpt, zdrop, zapp, zset, zsetF, zifS, ztru, ztst, zop, zcb, zcf, zacons, zanil, zc, zv, znil, zret, zcall, zfz, znew, zneg, zos, zon, zsl, zslF, ztup, zlst, zand, zor, znot, zif, zpar, zpar3, zasg, gN, gT2, gT3, zdnew, zdput, zmt1, zcnt1, zandV, zorV, znotV, zchain, zfrz, zbrk, zcnt, zopF, zpop0, zlput, zdget, zdin, zdnin, zdget2, zisi, ziA, ziQ, itemsQ, ziL, ziT, itemsL, itemsT, rng1_ok, rng2_ok, izs_len, izr_len, zipOf, enumOf, ofOpt, bind_val, bind_exc, st_val, st_exc, seq_nx, seq_rt, seq_ex, seq_bk, seq_ct, List.map_cons, List.map_nil, List.cons_append, List.nil_append, List.replicate, List.length_cons, List.length_nil, List.length_append, List.length_map, List.length_set, List.getElem?_cons_zero, List.getElem?_cons_succ, List.getElem?_nil, List.set_cons_zero, List.set_cons_succ, lstAt, res, resD, truS, truth, app2, on1, on2, lstOnly, lenS, allD_nil, allD_cons, Option.map_some, Option.map_none, Option.bind_some, Option.bind_none, dAdd, dSub, dMul_ok, dMod_ok, dDiv_ok, dLt, dLe, dGt, dGe, dEq_i, dEq_s, dEq_b, dNe_i, dNe_s, dNe_b, dEq_ti, dNe_ti, dEq_li, dNe_li, dIs, dIsNot, nonD, dIn, dNotIn, dIx, atI_0, atI_1, atI_2, dTup, dInt, dMin, dMax, dSum, dAll, dAny, intsOf_map, bolsOf_map, intsOf_nil, intsOf_cons, dMin2, dMax2, dAbs, keySl, Z.keyOf, putS, lim, retN_d, getLast0, setLast0, takeLast0, takeLast1, List.take_succ_cons, List.take_zero, List.take_length, List.take_nil, decide_eq_true_eq, beq_iff_eq, if_true, if_false, Bool.not_true, Bool.not_false, Bool.not_eq_true', Bool.false_eq_true, Bool.true_eq_false, reduceIte, if_pos, if_neg, Nat.add_eq, List.isEmpty_cons, List.isEmpty_nil, Option.some.injEq, decide_true, decide_false, decide_eq_true, decide_eq_false, beq_self_eq_true, BEq.rfl, beq_eq_false_iff_ne, Nat.zero_add, Nat.reduceAdd, Int.toNat_natCast, Bool.not_eq_true, decide_eq_false_iff_not, bne_iff_ne, ne_eq, not_true_eq_false, not_false_eq_true, srtS, a2, keysI_map, isort_len]
    refine h _ _ _ (by omega) (by omega) (by omega) ⟨fun z => ?_, isort_lt a3, fun k hk => a4 k (isort_mem.mp hk)⟩ (by rw [isort_len]; omega)
    have := isort_len (ks := ks)
    rw [z] at this
    exact a6 (by omega) (List.length_eq_zero_iff.mp this.symm)
/-- the drum that a program holds as data -/
abbrev dDrum (n : Int) (hs : List Int) : PyData := .tuple [.int n, .tuple (hs.map .int)]
def rt (n : Int) (hs : List Int) (spot t : Int) : Int := (minI (hs.map fun h => t + (spot - h - t) % n)).getD 0
theorem minI_ex : ∀ {l : List Int}, l ≠ [] → ∃ m, minI l = some m
  | a :: r, _ => ⟨_, rfl⟩
theorem maxI_ex : ∀ {l : List Int}, l ≠ [] → ∃ m, maxI l = some m
  | a :: r, _ => ⟨_, rfl⟩
theorem rt_eq {n : Int} {hs : List Int} {spot t : Int} (hne : hs ≠ []) : minI (hs.map fun h => t + (spot - h - t) % n) = some (rt n hs spot t) := by
  obtain ⟨m, e⟩ := minI_ex (l := hs.map fun h => t + (spot - h - t) % n) (by simpa using hne)
  unfold rt
  rw [e]
  rfl
theorem read_time_ok {n : Int} {hs : List Int} {spot t : Int} {S : Sto} (hn : 0 < n) (hne : hs ≠ []) (hl : hs.length ≤ 1000000) :
    F_read_time [.d (dDrum n hs), .d (.int spot), .d (.int t)] S = .val (.d (.int (rt n hs spot t))) S := by
  refine zdef_val rfl (S1 := S) ?_ List.take_length
  unfold z_read_time
  have e := lc_map (g := gN 3) (ze := zop dAdd (zv 2) (zop dMod (zop dSub (zop dSub (zv 1) (zv 3)) (zv 2)) (zop dIx (zv 0) (zc (.int 0))))) (Γ0 := [some (.d (dDrum n hs)), some (.d (.int spot)), some (.d (.int t)), none]) (S := S) (ds := hs.map .int)
    (fun d => match d with | .int h => .int (t + (spot - h - t) % n) | _ => .none) (by simpa using hl) (fun d hd => by
      obtain ⟨h, _, rfl⟩ := List.mem_map.mp hd
      refine ⟨_, rfl, ?_⟩
      simp (disch := omega) only [wipeZ, forget, okE_val, okE_exc, okE_bind, okS_st, okS_seq, okS_nx, okS_rt, okS_bk, okS_ct, okS_ex, okE_ofOpt, zseq, zdrop, zapp, zset, zsetF, zifS, ztru, ztst, zop, zcb, zcf, zacons, zanil, zc, zv, znil, zret, zcall, zfz, znew, zneg, zos, zon, zsl, zslF, ztup, zlst, zand, zor, znot, zif, zpar, zpar3, zasg, gN, gT2, gT3, zdnew, zdput, zmt1, zcnt1, zandV, zorV, znotV, zchain, zfrz, zbrk, zcnt, zopF, zpop0, zlput, zdget, zdin, zdnin, zdget2, zisi, ziA, ziQ, itemsQ, ziL, ziT, itemsL, itemsT, rng1_ok, rng2_ok, izs_len, izr_len, zipOf, enumOf, ofOpt, bind_val, bind_exc, st_val, st_exc, seq_nx, seq_rt, seq_ex, seq_bk, seq_ct, List.map_cons, List.map_nil, List.cons_append, List.nil_append, List.replicate, List.length_cons, List.length_nil, List.length_append, List.length_map, List.length_set, List.getElem?_cons_zero, List.getElem?_cons_succ, List.getElem?_nil, List.set_cons_zero, List.set_cons_succ, lstAt, res, resD, truS, truth, app2, on1, on2, lstOnly, lenS, allD_nil, allD_cons, Option.map_some, Option.map_none, Option.bind_some, Option.bind_none, dAdd, dSub, dMul_ok, dMod_ok, dDiv_ok, dLt, dLe, dGt, dGe, dEq_i, dEq_s, dEq_b, dNe_i, dNe_s, dNe_b, dEq_ti, dNe_ti, dEq_li, dNe_li, dIs, dIsNot, nonD, dIn, dNotIn, dIx, atI_0, atI_1, atI_2, dTup, dInt, dMin, dMax, dSum, dAll, dAny, intsOf_map, bolsOf_map, intsOf_nil, intsOf_cons, dMin2, dMax2, dAbs, keySl, Z.keyOf, putS, lim, retN_d, getLast0, setLast0, takeLast0, takeLast1, List.take_succ_cons, List.take_zero, List.take_length, List.take_nil, decide_eq_true_eq, beq_iff_eq, if_true, if_false, Bool.not_true, Bool.not_false, Bool.not_eq_true', Bool.false_eq_true, Bool.true_eq_false, reduceIte, if_pos, if_neg, Nat.add_eq, List.isEmpty_cons, List.isEmpty_nil, Option.some.injEq, decide_true, decide_false, decide_eq_true, decide_eq_false, beq_self_eq_true, BEq.rfl, beq_eq_false_iff_ne, Nat.zero_add, Nat.reduceAdd, Int.toNat_natCast, Bool.not_eq_true, decide_eq_false_iff_not, bne_iff_ne, ne_eq, not_true_eq_false, not_false_eq_true])
  rw [List.map_map] at e
  simp (disch := omega) only [wipeZ, forget, okE_val, okE_exc, okE_bind, okS_st, okS_seq, okS_nx, okS_rt, okS_bk, okS_ct, okS_ex, okE_ofOpt, zseq, zdrop, zapp, zset, zsetF, zifS, ztru, ztst, zop, zcb, zcf, zacons, zanil, zc, zv, znil, zret, zcall, zfz, znew, zneg, zos, zon, zsl, zslF, ztup, zlst, zand, zor, znot, zif, zpar, zpar3, zasg, gN, gT2, gT3, zdnew, zdput, zmt1, zcnt1, zandV, zorV, znotV, zchain, zfrz, zbrk, zcnt, zopF, zpop0, zlput, zdget, zdin, zdnin, zdget2, zisi, ziA, ziQ, itemsQ, ziL, ziT, itemsL, itemsT, rng1_ok, rng2_ok, izs_len, izr_len, zipOf, enumOf, ofOpt, bind_val, bind_exc, st_val, st_exc, seq_nx, seq_rt, seq_ex, seq_bk, seq_ct, List.map_cons, List.map_nil, List.cons_append, List.nil_append, List.replicate, List.length_cons, List.length_nil, List.length_append, List.length_map, List.length_set, List.getElem?_cons_zero, List.getElem?_cons_succ, List.getElem?_nil, List.set_cons_zero, List.set_cons_succ, lstAt, res, resD, truS, truth, app2, on1, on2, lstOnly, lenS, allD_nil, allD_cons, Option.map_some, Option.map_none, Option.bind_some, Option.bind_none, dAdd, dSub, dMul_ok, dMod_ok, dDiv_ok, dLt, dLe, dGt, dGe, dEq_i, dEq_s, dEq_b, dNe_i, dNe_s, dNe_b, dEq_ti, dNe_ti, dEq_li, dNe_li, dIs, dIsNot, nonD, dIn, dNotIn, dIx, atI_0, atI_1, atI_2, dTup, dInt, dMin, dMax, dSum, dAll, dAny, intsOf_map, bolsOf_map, intsOf_nil, intsOf_cons, dMin2, dMax2, dAbs, keySl, Z.keyOf, putS, lim, retN_d, getLast0, setLast0, takeLast0, takeLast1, List.take_succ_cons, List.take_zero, List.take_length, List.take_nil, decide_eq_true_eq, beq_iff_eq, if_true, if_false, Bool.not_true, Bool.not_false, Bool.not_eq_true', Bool.false_eq_true, Bool.true_eq_false, reduceIte, if_pos, if_neg, Nat.add_eq, List.isEmpty_cons, List.isEmpty_nil, Option.some.injEq, decide_true, decide_false, decide_eq_true, decide_eq_false, beq_self_eq_true, BEq.rfl, beq_eq_false_iff_ne, Nat.zero_add, Nat.reduceAdd, Int.toNat_natCast, Bool.not_eq_true, decide_eq_false_iff_not, bne_iff_ne, ne_eq, not_true_eq_false, not_false_eq_true, zlc, e]
  have e2 : (List.map ((fun d => match d with | .int h => PyData.int (t + (spot - h - t) % n) | _ => .none) ∘ PyData.int) hs) = (hs.map fun h => t + (spot - h - t) % n).map PyData.int := by
    rw [List.map_map]
    rfl
  rw [e2]
  simp (disch := omega) only [wipeZ, forget, okE_val, okE_exc, okE_bind, okS_st, okS_seq, okS_nx, okS_rt, okS_bk, okS_ct, okS_ex, okE_ofOpt, zseq, zdrop, zapp, zset, zsetF, zifS, ztru, ztst, zop, zcb, zcf, zacons, zanil, zc, zv, znil, zret, zcall, zfz, znew, zneg, zos, zon, zsl, zslF, ztup, zlst, zand, zor, znot, zif, zpar, zpar3, zasg, gN, gT2, gT3, zdnew, zdput, zmt1, zcnt1, zandV, zorV, znotV, zchain, zfrz, zbrk, zcnt, zopF, zpop0, zlput, zdget, zdin, zdnin, zdget2, zisi, ziA, ziQ, itemsQ, ziL, ziT, itemsL, itemsT, rng1_ok, rng2_ok, izs_len, izr_len, zipOf, enumOf, ofOpt, bind_val, bind_exc, st_val, st_exc, seq_nx, seq_rt, seq_ex, seq_bk, seq_ct, List.map_cons, List.map_nil, List.cons_append, List.nil_append, List.replicate, List.length_cons, List.length_nil, List.length_append, List.length_map, List.length_set, List.getElem?_cons_zero, List.getElem?_cons_succ, List.getElem?_nil, List.set_cons_zero, List.set_cons_succ, lstAt, res, resD, truS, truth, app2, on1, on2, lstOnly, lenS, allD_nil, allD_cons, Option.map_some, Option.map_none, Option.bind_some, Option.bind_none, dAdd, dSub, dMul_ok, dMod_ok, dDiv_ok, dLt, dLe, dGt, dGe, dEq_i, dEq_s, dEq_b, dNe_i, dNe_s, dNe_b, dEq_ti, dNe_ti, dEq_li, dNe_li, dIs, dIsNot, nonD, dIn, dNotIn, dIx, atI_0, atI_1, atI_2, dTup, dInt, dMin, dMax, dSum, dAll, dAny, intsOf_map, bolsOf_map, intsOf_nil, intsOf_cons, dMin2, dMax2, dAbs, keySl, Z.keyOf, putS, lim, retN_d, getLast0, setLast0, takeLast0, takeLast1, List.take_succ_cons, List.take_zero, List.take_length, List.take_nil, decide_eq_true_eq, beq_iff_eq, if_true, if_false, Bool.not_true, Bool.not_false, Bool.not_eq_true', Bool.false_eq_true, Bool.true_eq_false, reduceIte, if_pos, if_neg, Nat.add_eq, List.isEmpty_cons, List.isEmpty_nil, Option.some.injEq, decide_true, decide_false, decide_eq_true, decide_eq_false, beq_self_eq_true, BEq.rfl, beq_eq_false_iff_ne, Nat.zero_add, Nat.reduceAdd, Int.toNat_natCast, Bool.not_eq_true, decide_eq_false_iff_not, bne_iff_ne, ne_eq, not_true_eq_false, not_false_eq_true, rt_eq hne]
/-! the longest wait -/
def gaps : List Int → List Int
  | a :: b :: r => (b - a) :: gaps (b :: r)
  | _ => []
def lw (n : Int) (hs : List Int) : Int := (maxI (gaps (hs ++ [hs.headD 0 + n]))).getD 0 - 1
theorem gaps_zip : ∀ l : List Int, (zipD (l.map PyData.int).dropLast (l.map PyData.int).tail).map (fun d => match d with | .tuple [.int a, .int b] => PyData.int (b - a) | _ => .none) = (gaps l).map .int
  | [] => rfl
  | [a] => rfl
  | a :: b :: r => by
    have ih := gaps_zip (b :: r)
    simp only [zipD, List.map_cons, List.dropLast_cons_cons, List.tail_cons, gaps] at ih ⊢
    cases r with
    | nil => rfl
    | cons c r =>
      simp only [List.map_cons, List.dropLast_cons_cons, List.zipWith_cons_cons, List.tail_cons] at ih ⊢
      rw [ih]
theorem gaps_ne {a b : Int} {r : List Int} : gaps (a :: b :: r) ≠ [] := by simp [gaps]
theorem longest_wait_ok {n : Int} {hs : List Int} {S : Sto} (hne : hs ≠ []) (hl : hs.length ≤ 1000) :
    F_longest_wait [.d (dDrum n hs)] S = .val (.d (.int (lw n hs))) S := by
  refine zdef_val rfl (S1 := S) ?_ List.take_length
  unfold z_longest_wait
  obtain ⟨a, r, rfl⟩ : ∃ a r, hs = a :: r := by
    cases hs with
    | nil => exact absurd rfl hne
    | cons a r => exact ⟨a, r, rfl⟩
  simp only [List.length_cons] at hl
  have hg : maxI (gaps (a :: (r ++ [a + n]))) = some (lw n (a :: r) + 1) := by
    obtain ⟨m, e⟩ := maxI_ex (l := gaps (a :: (r ++ [a + n]))) (by cases r <;> exact gaps_ne)
    unfold lw
    rw [List.cons_append, List.headD_cons, e]
    show _ = some (m - 1 + 1)
    congr 1
    omega
  have e := lc_map (g := gT2 (gN 2) (gN 3)) (ze := zop dSub (zv 3) (zv 2)) (Γ0 := [some (.d (dDrum n (a :: r))), some (.d (.tuple ((a :: (r ++ [a + n])).map .int))), none, none]) (S := S) (ds := zipD ((a :: (r ++ [a + n])).map .int).dropLast ((a :: (r ++ [a + n])).map .int).tail)
    (fun d => match d with | .tuple [.int a, .int b] => PyData.int (b - a) | _ => .none) (by simp [zipD]; omega) (fun d hd => by
      obtain ⟨i, hi⟩ := List.mem_iff_getElem?.mp hd
      have hi' : ((zipD ((a :: (r ++ [a + n])).map .int).dropLast ((a :: (r ++ [a + n])).map .int).tail))[i]? = some d := hi
      unfold zipD at hi'
      rw [← List.map_dropLast, ← List.map_tail, List.zipWith_map, List.getElem?_zipWith] at hi'
      split at hi'
      · cases hi'
        refine ⟨_, rfl, ?_⟩
        simp (disch := omega) only [wipeZ, forget, okE_val, okE_exc, okE_bind, okS_st, okS_seq, okS_nx, okS_rt, okS_bk, okS_ct, okS_ex, okE_ofOpt, zseq, zdrop, zapp, zset, zsetF, zifS, ztru, ztst, zop, zcb, zcf, zacons, zanil, zc, zv, znil, zret, zcall, zfz, znew, zneg, zos, zon, zsl, zslF, ztup, zlst, zand, zor, znot, zif, zpar, zpar3, zasg, gN, gT2, gT3, zdnew, zdput, zmt1, zcnt1, zandV, zorV, znotV, zchain, zfrz, zbrk, zcnt, zopF, zpop0, zlput, zdget, zdin, zdnin, zdget2, zisi, ziA, ziQ, itemsQ, ziL, ziT, itemsL, itemsT, rng1_ok, rng2_ok, izs_len, izr_len, zipOf, enumOf, ofOpt, bind_val, bind_exc, st_val, st_exc, seq_nx, seq_rt, seq_ex, seq_bk, seq_ct, List.map_cons, List.map_nil, List.cons_append, List.nil_append, List.replicate, List.length_cons, List.length_nil, List.length_append, List.length_map, List.length_set, List.getElem?_cons_zero, List.getElem?_cons_succ, List.getElem?_nil, List.set_cons_zero, List.set_cons_succ, lstAt, res, resD, truS, truth, app2, on1, on2, lstOnly, lenS, allD_nil, allD_cons, Option.map_some, Option.map_none, Option.bind_some, Option.bind_none, dAdd, dSub, dMul_ok, dMod_ok, dDiv_ok, dLt, dLe, dGt, dGe, dEq_i, dEq_s, dEq_b, dNe_i, dNe_s, dNe_b, dEq_ti, dNe_ti, dEq_li, dNe_li, dIs, dIsNot, nonD, dIn, dNotIn, dIx, atI_0, atI_1, atI_2, dTup, dInt, dMin, dMax, dSum, dAll, dAny, intsOf_map, bolsOf_map, intsOf_nil, intsOf_cons, dMin2, dMax2, dAbs, keySl, Z.keyOf, putS, lim, retN_d, getLast0, setLast0, takeLast0, takeLast1, List.take_succ_cons, List.take_zero, List.take_length, List.take_nil, decide_eq_true_eq, beq_iff_eq, if_true, if_false, Bool.not_true, Bool.not_false, Bool.not_eq_true', Bool.false_eq_true, Bool.true_eq_false, reduceIte, if_pos, if_neg, Nat.add_eq, List.isEmpty_cons, List.isEmpty_nil, Option.some.injEq, decide_true, decide_false, decide_eq_true, decide_eq_false, beq_self_eq_true, BEq.rfl, beq_eq_false_iff_ne, Nat.zero_add, Nat.reduceAdd, Int.toNat_natCast, Bool.not_eq_true, decide_eq_false_iff_not, bne_iff_ne, ne_eq, not_true_eq_false, not_false_eq_true]
      · cases hi')
  rw [gaps_zip] at e
  simp only [List.map_cons, List.map_append, List.map_nil] at e
  simp (disch := omega) only [wipeZ, forget, okE_val, okE_exc, okE_bind, okS_st, okS_seq, okS_nx, okS_rt, okS_bk, okS_ct, okS_ex, okE_ofOpt, zseq, zdrop, zapp, zset, zsetF, zifS, ztru, ztst, zop, zcb, zcf, zacons, zanil, zc, zv, znil, zret, zcall, zfz, znew, zneg, zos, zon, zsl, zslF, ztup, zlst, zand, zor, znot, zif, zpar, zpar3, zasg, gN, gT2, gT3, zdnew, zdput, zmt1, zcnt1, zandV, zorV, znotV, zchain, zfrz, zbrk, zcnt, zopF, zpop0, zlput, zdget, zdin, zdnin, zdget2, zisi, ziA, ziQ, itemsQ, ziL, ziT, itemsL, itemsT, rng1_ok, rng2_ok, izs_len, izr_len, zipOf, enumOf, ofOpt, bind_val, bind_exc, st_val, st_exc, seq_nx, seq_rt, seq_ex, seq_bk, seq_ct, List.map_cons, List.map_nil, List.cons_append, List.nil_append, List.replicate, List.length_cons, List.length_nil, List.length_append, List.length_map, List.length_set, List.getElem?_cons_zero, List.getElem?_cons_succ, List.getElem?_nil, List.set_cons_zero, List.set_cons_succ, lstAt, res, resD, truS, truth, app2, on1, on2, lstOnly, lenS, allD_nil, allD_cons, Option.map_some, Option.map_none, Option.bind_some, Option.bind_none, dAdd, dSub, dMul_ok, dMod_ok, dDiv_ok, dLt, dLe, dGt, dGe, dEq_i, dEq_s, dEq_b, dNe_i, dNe_s, dNe_b, dEq_ti, dNe_ti, dEq_li, dNe_li, dIs, dIsNot, nonD, dIn, dNotIn, dIx, atI_0, atI_1, atI_2, dTup, dInt, dMin, dMax, dSum, dAll, dAny, intsOf_map, bolsOf_map, intsOf_nil, intsOf_cons, dMin2, dMax2, dAbs, keySl, Z.keyOf, putS, lim, retN_d, getLast0, setLast0, takeLast0, takeLast1, List.take_succ_cons, List.take_zero, List.take_length, List.take_nil, decide_eq_true_eq, beq_iff_eq, if_true, if_false, Bool.not_true, Bool.not_false, Bool.not_eq_true', Bool.false_eq_true, Bool.true_eq_false, reduceIte, if_pos, if_neg, Nat.add_eq, List.isEmpty_cons, List.isEmpty_nil, Option.some.injEq, decide_true, decide_false, decide_eq_true, decide_eq_false, beq_self_eq_true, BEq.rfl, beq_eq_false_iff_ne, Nat.zero_add, Nat.reduceAdd, Int.toNat_natCast, Bool.not_eq_true, decide_eq_false_iff_not, bne_iff_ne, ne_eq, not_true_eq_false, not_false_eq_true, dSl, cut_init, cut_tail, zlc, e, hg]
  congr 3
  omega
end Zc
end
section
set_option Elab.async false
set_option linter.all false
set_option maxRecDepth 100000
set_option autoImplicit false
set_option maxHeartbeats 1000000
namespace Zc
open Z
/-! ### drums, reckoned -/
def drums3 (n : Nat) : List (List Int) := (izs n).map (fun a => [a]) ++ ((izs n).flatMap fun a => (izs n).flatMap fun b => if a < b then [[a, b]] else []) ++
  ((izs n).flatMap fun a => (izs n).flatMap fun b => if a < b then (izs n).flatMap fun c => if b < c then [[a, b, c]] else [] else [])
theorem drums3_mem {n : Nat} {hs : List Int} (h : IsDrum n hs) (hl : hs.length ≤ 3) : hs ∈ drums3 n := by
  unfold drums3
  have g : ∀ x ∈ hs, x ∈ izs n := fun x hx => izs_mem.mpr (h.rg x hx)
  match hs, h, hl, g with
  | [], h, _, _ => exact absurd rfl h.ne
  | [a], h, _, g => exact List.mem_append_left _ (List.mem_append_left _ (List.mem_map.mpr ⟨a, g a (by simp), rfl⟩))
  | [a, b], h, _, g =>
    have := h.lt
    simp at this
    refine List.mem_append_left _ (List.mem_append_right _ (List.mem_flatMap.mpr ⟨a, g a (by simp), List.mem_flatMap.mpr ⟨b, g b (by simp), ?_⟩⟩))
    rw [if_pos this]
    simp
  | [a, b, c], h, _, g =>
    have := h.lt
    simp at this
    refine List.mem_append_right _ (List.mem_flatMap.mpr ⟨a, g a (by simp), List.mem_flatMap.mpr ⟨b, g b (by simp), ?_⟩⟩)
    rw [if_pos this.1.1]
    refine List.mem_flatMap.mpr ⟨c, g c (by simp), ?_⟩
    rw [if_pos this.2]
    simp
  | _ :: _ :: _ :: _ :: _, _, hl, _ => simp at hl
/-- insertion sort -/
def ins1 (x : Int) : List Int → List Int
  | [] => [x]
  | y :: r => if x ≤ y then x :: y :: r else y :: ins1 x r
def isrt : List Int → List Int
  | [] => []
  | x :: r => ins1 x (isrt r)
theorem ins1_perm (x : Int) : ∀ l, (ins1 x l).Perm (x :: l)
  | [] => .refl _
  | y :: r => by
    unfold ins1
    split
    · exact .refl _
    · exact (List.Perm.cons y (ins1_perm x r)).trans (.swap x y r)
theorem isrt_perm : ∀ l, (isrt l).Perm l
  | [] => .refl _
  | x :: r => (ins1_perm x _).trans (.cons x (isrt_perm r))
theorem ins1_pw (x : Int) : ∀ l : List Int, l.Pairwise (· ≤ ·) → (ins1 x l).Pairwise (· ≤ ·)
  | [], _ => by simp [ins1]
  | y :: r, h => by
    unfold ins1
    have h' := List.pairwise_cons.mp h
    split
    · rename_i q
      exact List.pairwise_cons.mpr ⟨fun z hz => by
        rcases List.mem_cons.mp hz with rfl | hz
        · exact q
        · have := h'.1 z hz
          omega, h⟩
    · rename_i q
      refine List.pairwise_cons.mpr ⟨fun z hz => ?_, ins1_pw x r h'.2⟩
      rcases List.mem_cons.mp ((ins1_perm x r).mem_iff.mp hz) with rfl | hz
      · omega
      · exact h'.1 z hz
theorem isrt_pw : ∀ l : List Int, (isrt l).Pairwise (· ≤ ·)
  | [] => .nil
  | x :: r => ins1_pw x _ (isrt_pw r)
theorem isort_isrt (l : List Int) : isort l = isrt l := (isort_uniq (isrt_perm l) (isrt_pw l)).symm
/-- the wait of the spot at x -/
def wt (n : Int) (hs : List Int) (x : Int) : Int := (minI (hs.map fun h => (x - h) % n)).getD 0
theorem minI_add {f : Int → Int} {t : Int} : ∀ hs : List Int, hs ≠ [] → minI (hs.map fun h => t + f h) = (minI (hs.map f)).map (t + ·) := by
  intro hs hne
  obtain ⟨m, e⟩ := minI_ex (l := hs.map f) (by simpa using hne)
  rw [e]
  obtain ⟨h1, h2⟩ := minI_iff e
  obtain ⟨x, hx, e2⟩ := List.mem_map.mp h1
  refine minI_eq (List.mem_map.mpr ⟨x, hx, by rw [e2]⟩) fun y hy => ?_
  obtain ⟨z, hz, rfl⟩ := List.mem_map.mp hy
  have := h2 (f z) (List.mem_map.mpr ⟨z, hz, rfl⟩)
  show t + m ≤ t + f z
  omega
theorem rt_wt {n : Int} {hs : List Int} {s t : Int} (hne : hs ≠ []) : rt n hs s t - t = wt n hs ((s - t) % n) := by
  unfold rt wt
  have e : (hs.map fun h => (s - h - t) % n) = hs.map fun h => ((s - t) % n - h) % n := List.map_congr_left fun h _ => by
    rw [Int.emod_sub_emod]
    congr 1
    omega
  have e2 := minI_add (f := fun h => (s - h - t) % n) (t := t) hs hne
  rw [e2, e]
  obtain ⟨m, e3⟩ := minI_ex (l := hs.map fun h => ((s - t) % n - h) % n) (by simpa using hne)
  rw [e3]
  show t + m - t = m
  omega
theorem shift_perm : ∀ n ∈ List.range 15, ∀ s ∈ List.range n, List.isPerm ((izs n).map fun t => ((s : Int) - t) % (n : Int)) (izs n) = true := by decide +kernel
def found (n : Nat) (hs : List Int) : List Int := (izs n).flatMap fun s => (izs n).map fun t => rt n hs s t - t
theorem found_row {n : Nat} {hs : List Int} {s : Int} (hn : n < 15) (hne : hs ≠ []) (hs' : s ∈ izs n) : ((izs n).map fun t => rt n hs s t - t).Perm ((izs n).map (wt n hs)) := by
  obtain ⟨h0, h1⟩ := izs_mem.mp hs'
  have p := List.isPerm_iff.mp (shift_perm n (List.mem_range.mpr hn) s.toNat (List.mem_range.mpr (by omega)))
  have e : ((s.toNat : Nat) : Int) = s := by omega
  rw [e] at p
  have e2 : ((izs n).map fun t => rt n hs s t - t) = ((izs n).map fun t => (s - t) % (n : Int)).map (wt n hs) := by
    rw [List.map_map]
    exact List.map_congr_left fun t _ => rt_wt hne
  rw [e2]
  exact p.map _
theorem found_mem {n : Nat} {hs : List Int} {x : Int} (hn : n < 15) (hn0 : 0 < n) (hne : hs ≠ []) : x ∈ found n hs ↔ x ∈ (izs n).map (wt n hs) := by
  unfold found
  rw [List.mem_flatMap]
  constructor
  · rintro ⟨s, h1, h2⟩
    exact (found_row hn hne h1).mem_iff.mp h2
  · intro h
    have h0 : (0 : Int) ∈ izs n := izs_mem.mpr (by omega)
    exact ⟨0, h0, (found_row hn hne h0).mem_iff.mpr h⟩
theorem found_count {n : Nat} {hs : List Int} (hn : n < 15) (hne : hs ≠ []) : (found n hs).count 0 = n * ((izs n).map (wt n hs)).count 0 := by
  unfold found
  rw [List.count_flatMap, sum_const (c := ((izs n).map (wt n hs)).count 0)]
  · simp [izs]
  · intro x hx
    obtain ⟨s, h1, rfl⟩ := List.mem_map.mp hx
    exact (found_row hn hne h1).count_eq 0
/-- what is asked of each drum -/
def core14 (n : Nat) (hs : List Int) : Bool :=
  decide (maxI ((izs n).map (wt n hs)) = some (lw n hs)) && decide (minI ((izs n).map (wt n hs)) = some 0) && decide (((izs n).map (wt n hs)).count 0 = hs.length) && ((lw n hs == (n : Int) - 1) == (hs.length == 1)) &&
  ((izs n).all fun by_ => decide (lw n (isrt (hs.map fun h => h + by_ - n * (if n ≤ h + by_ then 1 else 0))) = lw n hs)) && (decide (3 ≤ hs.length) || (izs n).all fun h => decide (h ∈ hs) || decide (lw n (isrt (hs ++ [h])) ≤ lw n hs)) && decide (lw n [0, (n : Int) - 1] = n - 2)
end Zc
end
section
set_option Elab.async false
set_option linter.all false
set_option maxRecDepth 100000
set_option autoImplicit false
set_option maxHeartbeats 1000000
namespace Zc
open PySem Z
/-! ### where a drum's spots stand -/
def under (n : Int) (hs : List Int) (s t : Int) : Bool := hs.any fun h => (t + h) % n == s
theorem under_iff {n : Int} {hs : List Int} {s t : Int} : under n hs s t = true ↔ ∃ h ∈ hs, (t + h) % n = s := by
  unfold under
  rw [List.any_eq_true]
  simp only [beq_iff_eq]
theorem emod_self_le {a n : Int} (ha : 0 ≤ a) (hn : 0 < n) : a % n ≤ a := by
  have h1 := Int.emod_def a n
  have h2 := Int.ediv_nonneg ha (Int.le_of_lt hn)
  have h3 := Int.mul_nonneg (Int.le_of_lt hn) h2
  omega
theorem rt_mem {n : Int} {hs : List Int} {s t : Int} (hne : hs ≠ []) : ∃ h ∈ hs, rt n hs s t = t + (s - h - t) % n := by
  obtain ⟨h1, _⟩ := minI_iff (rt_eq (n := n) (spot := s) (t := t) hne)
  obtain ⟨h, hh, e⟩ := List.mem_map.mp h1
  exact ⟨h, hh, e.symm⟩
theorem rt_le {n : Int} {hs : List Int} {s t h : Int} (hh : h ∈ hs) : rt n hs s t ≤ t + (s - h - t) % n :=
  (minI_iff (rt_eq (n := n) (spot := s) (t := t) (List.ne_nil_of_mem hh))).2 _ (List.mem_map.mpr ⟨h, hh, rfl⟩)
theorem rt_bounds {n : Int} {hs : List Int} {s t : Int} (hn : 0 < n) (hne : hs ≠ []) : t ≤ rt n hs s t ∧ rt n hs s t < t + n := by
  obtain ⟨h, _, e⟩ := rt_mem (n := n) (s := s) (t := t) hne
  have := mod_le (a := s - h - t) hn
  omega
theorem rt_under {n : Int} {hs : List Int} {s t : Int} (hs0 : 0 ≤ s) (hs1 : s < n) (hne : hs ≠ []) : under n hs s (rt n hs s t) = true := by
  obtain ⟨h, hh, e⟩ := rt_mem (n := n) (s := s) (t := t) hne
  refine under_iff.mpr ⟨h, hh, ?_⟩
  rw [e]
  have e2 : t + (s - h - t) % n + h = (t + h) + (s - h - t) % n := by omega
  rw [e2, Int.add_emod_emod]
  have e3 : t + h + (s - h - t) = s := by omega
  rw [e3]
  exact Int.emod_eq_of_lt hs0 hs1
theorem rt_first {n : Int} {hs : List Int} {s t u : Int} (hn : 0 < n) (h1 : t ≤ u) (h2 : u < rt n hs s t) : under n hs s u = false := by
  cases q : under n hs s u with
  | false => rfl
  | true =>
    obtain ⟨h, hh, e⟩ := under_iff.mp q
    have a := rt_le (n := n) (s := s) (t := t) hh
    have e2 : (s - h - t) % n = (u - t) % n := by
      rw [← e]
      have e3 : (u + h) % n - h - t = (u + h) % n - (h + t) := by omega
      rw [e3, Int.emod_sub_emod]
      congr 1
      omega
    have b := emod_self_le (a := u - t) (by omega) hn
    omega
theorem spots_under_ok {n : Int} {hs : List Int} {t : Int} {S : Sto} (hn : 0 < n) (hl : hs.length ≤ 1000) :
    F_spots_under [.d (dDrum n hs), .d (.int t)] S = .val (.d (.tuple ((hs.map fun h => (t + h) % n).map .int))) S := by
  refine OkE.val (ok_def rfl ?_)
  unfold z_spots_under
  simp (disch := omega) only [wipeZ, forget, okE_val, okE_exc, okE_bind, okS_st, okS_seq, okS_nx, okS_rt, okS_bk, okS_ct, okS_ex, okE_ofOpt, zseq, zdrop, zapp, zset, zsetF, zifS, ztru, ztst, zop, zcb, zcf, zacons, zanil, zc, zv, znil, zret, zcall, zfz, znew, zneg, zos, zon, zsl, zslF, ztup, zlst, zand, zor, znot, zif, zpar, zpar3, zasg, gN, gT2, gT3, zdnew, zdput, zmt1, zcnt1, zandV, zorV, znotV, zchain, zfrz, zbrk, zcnt, zopF, zpop0, zlput, zdget, zdin, zdnin, zdget2, zisi, ziA, ziQ, itemsQ, ziL, ziT, itemsL, itemsT, rng1_ok, rng2_ok, izs_len, izr_len, zipOf, enumOf, ofOpt, bind_val, bind_exc, st_val, st_exc, seq_nx, seq_rt, seq_ex, seq_bk, seq_ct, List.map_cons, List.map_nil, List.cons_append, List.nil_append, List.replicate, List.length_cons, List.length_nil, List.length_append, List.length_map, List.length_set, List.getElem?_cons_zero, List.getElem?_cons_succ, List.getElem?_nil, List.set_cons_zero, List.set_cons_succ, lstAt, res, resD, truS, truth, app2, on1, on2, lstOnly, lenS, allD_nil, allD_cons, Option.map_some, Option.map_none, Option.bind_some, Option.bind_none, dAdd, dSub, dMul_ok, dMod_ok, dDiv_ok, dLt, dLe, dGt, dGe, dEq_i, dEq_s, dEq_b, dNe_i, dNe_s, dNe_b, dEq_ti, dNe_ti, dEq_li, dNe_li, dIs, dIsNot, nonD, dIn, dNotIn, dIx, atI_0, atI_1, atI_2, dTup, dInt, dMin, dMax, dSum, dAll, dAny, intsOf_map, bolsOf_map, intsOf_nil, intsOf_cons, dMin2, dMax2, dAbs, keySl, Z.keyOf, putS, lim, retN_d, getLast0, setLast0, takeLast0, takeLast1, List.take_succ_cons, List.take_zero, List.take_length, List.take_nil, decide_eq_true_eq, beq_iff_eq, if_true, if_false, Bool.not_true, Bool.not_false, Bool.not_eq_true', Bool.false_eq_true, Bool.true_eq_false, reduceIte, if_pos, if_neg, Nat.add_eq, List.isEmpty_cons, List.isEmpty_nil, Option.some.injEq, decide_true, decide_false, decide_eq_true, decide_eq_false, beq_self_eq_true, BEq.rfl, beq_eq_false_iff_ne, Nat.zero_add, Nat.reduceAdd, Int.toNat_natCast, Bool.not_eq_true, decide_eq_false_iff_not, bne_iff_ne, ne_eq, not_true_eq_false, not_false_eq_true]
  refine ok_zlc hs (fun h => (t + h) % n) (by simp (disch := omega) only [wipeZ, forget, okE_val, okE_exc, okE_bind, okS_st, okS_seq, okS_nx, okS_rt, okS_bk, okS_ct, okS_ex, okE_ofOpt, zseq, zdrop, zapp, zset, zsetF, zifS, ztru, ztst, zop, zcb, zcf, zacons, zanil, zc, zv, znil, zret, zcall, zfz, znew, zneg, zos, zon, zsl, zslF, ztup, zlst, zand, zor, znot, zif, zpar, zpar3, zasg, gN, gT2, gT3, zdnew, zdput, zmt1, zcnt1, zandV, zorV, znotV, zchain, zfrz, zbrk, zcnt, zopF, zpop0, zlput, zdget, zdin, zdnin, zdget2, zisi, ziA, ziQ, itemsQ, ziL, ziT, itemsL, itemsT, rng1_ok, rng2_ok, izs_len, izr_len, zipOf, enumOf, ofOpt, bind_val, bind_exc, st_val, st_exc, seq_nx, seq_rt, seq_ex, seq_bk, seq_ct, List.map_cons, List.map_nil, List.cons_append, List.nil_append, List.replicate, List.length_cons, List.length_nil, List.length_append, List.length_map, List.length_set, List.getElem?_cons_zero, List.getElem?_cons_succ, List.getElem?_nil, List.set_cons_zero, List.set_cons_succ, lstAt, res, resD, truS, truth, app2, on1, on2, lstOnly, lenS, allD_nil, allD_cons, Option.map_some, Option.map_none, Option.bind_some, Option.bind_none, dAdd, dSub, dMul_ok, dMod_ok, dDiv_ok, dLt, dLe, dGt, dGe, dEq_i, dEq_s, dEq_b, dNe_i, dNe_s, dNe_b, dEq_ti, dNe_ti, dEq_li, dNe_li, dIs, dIsNot, nonD, dIn, dNotIn, dIx, atI_0, atI_1, atI_2, dTup, dInt, dMin, dMax, dSum, dAll, dAny, intsOf_map, bolsOf_map, intsOf_nil, intsOf_cons, dMin2, dMax2, dAbs, keySl, Z.keyOf, putS, lim, retN_d, getLast0, setLast0, takeLast0, takeLast1, List.take_succ_cons, List.take_zero, List.take_length, List.take_nil, decide_eq_true_eq, beq_iff_eq, if_true, if_false, Bool.not_true, Bool.not_false, Bool.not_eq_true', Bool.false_eq_true, Bool.true_eq_false, reduceIte, if_pos, if_neg, Nat.add_eq, List.isEmpty_cons, List.isEmpty_nil, Option.some.injEq, decide_true, decide_false, decide_eq_true, decide_eq_false, beq_self_eq_true, BEq.rfl, beq_eq_false_iff_ne, Nat.zero_add, Nat.reduceAdd, Int.toNat_natCast, Bool.not_eq_true, decide_eq_false_iff_not, bne_iff_ne, ne_eq, not_true_eq_false, not_false_eq_true]) (by omega) (fun x hx => by simp (disch := omega) only [wipeZ, forget, okE_val, okE_exc, okE_bind, okS_st, okS_seq, okS_nx, okS_rt, okS_bk, okS_ct, okS_ex, okE_ofOpt, zseq, zdrop, zapp, zset, zsetF, zifS, ztru, ztst, zop, zcb, zcf, zacons, zanil, zc, zv, znil, zret, zcall, zfz, znew, zneg, zos, zon, zsl, zslF, ztup, zlst, zand, zor, znot, zif, zpar, zpar3, zasg, gN, gT2, gT3, zdnew, zdput, zmt1, zcnt1, zandV, zorV, znotV, zchain, zfrz, zbrk, zcnt, zopF, zpop0, zlput, zdget, zdin, zdnin, zdget2, zisi, ziA, ziQ, itemsQ, ziL, ziT, itemsL, itemsT, rng1_ok, rng2_ok, izs_len, izr_len, zipOf, enumOf, ofOpt, bind_val, bind_exc, st_val, st_exc, seq_nx, seq_rt, seq_ex, seq_bk, seq_ct, List.map_cons, List.map_nil, List.cons_append, List.nil_append, List.replicate, List.length_cons, List.length_nil, List.length_append, List.length_map, List.length_set, List.getElem?_cons_zero, List.getElem?_cons_succ, List.getElem?_nil, List.set_cons_zero, List.set_cons_succ, lstAt, res, resD, truS, truth, app2, on1, on2, lstOnly, lenS, allD_nil, allD_cons, Option.map_some, Option.map_none, Option.bind_some, Option.bind_none, dAdd, dSub, dMul_ok, dMod_ok, dDiv_ok, dLt, dLe, dGt, dGe, dEq_i, dEq_s, dEq_b, dNe_i, dNe_s, dNe_b, dEq_ti, dNe_ti, dEq_li, dNe_li, dIs, dIsNot, nonD, dIn, dNotIn, dIx, atI_0, atI_1, atI_2, dTup, dInt, dMin, dMax, dSum, dAll, dAny, intsOf_map, bolsOf_map, intsOf_nil, intsOf_cons, dMin2, dMax2, dAbs, keySl, Z.keyOf, putS, lim, retN_d, getLast0, setLast0, takeLast0, takeLast1, List.take_succ_cons, List.take_zero, List.take_length, List.take_nil, decide_eq_true_eq, beq_iff_eq, if_true, if_false, Bool.not_true, Bool.not_false, Bool.not_eq_true', Bool.false_eq_true, Bool.true_eq_false, reduceIte, if_pos, if_neg, Nat.add_eq, List.isEmpty_cons, List.isEmpty_nil, Option.some.injEq, decide_true, decide_false, decide_eq_true, decide_eq_false, beq_self_eq_true, BEq.rfl, beq_eq_false_iff_ne, Nat.zero_add, Nat.reduceAdd, Int.toNat_natCast, Bool.not_eq_true, decide_eq_false_iff_not, bne_iff_ne, ne_eq, not_true_eq_false, not_false_eq_true]) ?_
  simp (disch := omega) only [wipeZ, forget, okE_val, okE_exc, okE_bind, okS_st, okS_seq, okS_nx, okS_rt, okS_bk, okS_ct, okS_ex, okE_ofOpt, zseq, zdrop, zapp, zset, zsetF, zifS, ztru, ztst, zop, zcb, zcf, zacons, zanil, zc, zv, znil, zret, zcall, zfz, znew, zneg, zos, zon, zsl, zslF, ztup, zlst, zand, zor, znot, zif, zpar, zpar3, zasg, gN, gT2, gT3, zdnew, zdput, zmt1, zcnt1, zandV, zorV, znotV, zchain, zfrz, zbrk, zcnt, zopF, zpop0, zlput, zdget, zdin, zdnin, zdget2, zisi, ziA, ziQ, itemsQ, ziL, ziT, itemsL, itemsT, rng1_ok, rng2_ok, izs_len, izr_len, zipOf, enumOf, ofOpt, bind_val, bind_exc, st_val, st_exc, seq_nx, seq_rt, seq_ex, seq_bk, seq_ct, List.map_cons, List.map_nil, List.cons_append, List.nil_append, List.replicate, List.length_cons, List.length_nil, List.length_append, List.length_map, List.length_set, List.getElem?_cons_zero, List.getElem?_cons_succ, List.getElem?_nil, List.set_cons_zero, List.set_cons_succ, lstAt, res, resD, truS, truth, app2, on1, on2, lstOnly, lenS, allD_nil, allD_cons, Option.map_some, Option.map_none, Option.bind_some, Option.bind_none, dAdd, dSub, dMul_ok, dMod_ok, dDiv_ok, dLt, dLe, dGt, dGe, dEq_i, dEq_s, dEq_b, dNe_i, dNe_s, dNe_b, dEq_ti, dNe_ti, dEq_li, dNe_li, dIs, dIsNot, nonD, dIn, dNotIn, dIx, atI_0, atI_1, atI_2, dTup, dInt, dMin, dMax, dSum, dAll, dAny, intsOf_map, bolsOf_map, intsOf_nil, intsOf_cons, dMin2, dMax2, dAbs, keySl, Z.keyOf, putS, lim, retN_d, getLast0, setLast0, takeLast0, takeLast1, List.take_succ_cons, List.take_zero, List.take_length, List.take_nil, decide_eq_true_eq, beq_iff_eq, if_true, if_false, Bool.not_true, Bool.not_false, Bool.not_eq_true', Bool.false_eq_true, Bool.true_eq_false, reduceIte, if_pos, if_neg, Nat.add_eq, List.isEmpty_cons, List.isEmpty_nil, Option.some.injEq, decide_true, decide_false, decide_eq_true, decide_eq_false, beq_self_eq_true, BEq.rfl, beq_eq_false_iff_ne, Nat.zero_add, Nat.reduceAdd, Int.toNat_natCast, Bool.not_eq_true, decide_eq_false_iff_not, bne_iff_ne, ne_eq, not_true_eq_false, not_false_eq_true, and_self]
def times (n : Int) (hs : List Int) (s a b : Int) : List Int := (izr a (b - a).toNat).filter (under n hs s)
theorem izr_add {a : Int} {m k : Nat} : izr a (m + k) = izr a m ++ izr (a + m) k := by
  unfold izr
  rw [List.range_add, List.map_append, List.map_map]
  congr 1
  refine List.map_congr_left fun i _ => ?_
  show a + ((m + i : Nat) : Int) = a + m + i
  omega
theorem izr_one {a : Int} : izr a 1 = [a] := by simp [izr]
theorem times_app {n : Int} {hs : List Int} {s a b c : Int} (h1 : a ≤ b) (h2 : b ≤ c) : times n hs s a b ++ times n hs s b c = times n hs s a c := by
  unfold times
  have e : (c - a).toNat = (b - a).toNat + (c - b).toNat := by omega
  have e2 : a + ((b - a).toNat : Int) = b := by omega
  rw [e, izr_add, List.filter_append, e2]
theorem times_none {n : Int} {hs : List Int} {s a b : Int} (h : ∀ u, a ≤ u → u < b → under n hs s u = false) : times n hs s a b = [] := by
  unfold times
  rw [List.filter_eq_nil_iff]
  intro u hu
  have := izr_mem.mp hu
  rw [h u (by omega) (by omega)]
  simp
theorem times_next {n : Int} {hs : List Int} {s a u : Int} (hn : 0 < n) (hs0 : 0 ≤ s) (hs1 : s < n) (hne : hs ≠ []) (hu : a ≤ u) : times n hs s a (rt n hs s u + 1) = times n hs s a u ++ [rt n hs s u] := by
  have b := rt_bounds (s := s) (t := u) hn hne
  rw [← times_app (b := u) (by omega) (by omega), ← times_app (a := u) (b := rt n hs s u) (by omega) (by omega), times_none (b := rt n hs s u) fun x h1 h2 => rt_first hn h1 h2]
  congr 1
  unfold times
  have e : (rt n hs s u + 1 - rt n hs s u).toNat = 1 := by omega
  rw [e, izr_one, List.filter_cons_of_pos (rt_under hs0 hs1 hne)]
  rfl
theorem times_len_le {n : Int} {hs : List Int} {s a b : Int} : (times n hs s a b).length ≤ (b - a).toNat := by
  unfold times
  exact Nat.le_trans (List.length_filter_le _ _) (by rw [izr_len]; exact Nat.le_refl _)
theorem times_of_ok {n : Int} {hs : List Int} {s a b : Int} {S : Sto} (hn : 0 < n) (hs0 : 0 ≤ s) (hs1 : s < n) (hne : hs ≠ []) (hl : hs.length ≤ 1000) (hab : b - a < 90000) :
    F_times_of [.d (dDrum n hs), .d (.int s), .d (.int a), .d (.int b)] S = .val (.d (.tuple ((times n hs s a b).map .int))) S := by
  refine OkE.val (ok_def rfl ?_)
  unfold z_times_of
  refine ok_seq ?_
  try simp (disch := omega) only [wipeZ, forget, okE_val, okE_exc, okE_bind, okS_st, okS_seq, okS_nx, okS_rt, okS_bk, okS_ct, okS_ex, okE_ofOpt, zdrop, zapp, zset, zsetF, zifS, ztru, ztst, zop, zcb, zcf, zacons, zanil, zc, zv, znil, zret, zcall, zfz, znew, zneg, zos, zon, zsl, zslF, ztup, zlst, zand, zor, znot, zif, zpar, zpar3, zasg, gN, gT2, gT3, zdnew, zdput, zmt1, zcnt1, zandV, zorV, znotV, zchain, zfrz, zbrk, zcnt, zopF, zpop0, zlput, zdget, zdin, zdnin, zdget2, zisi, ziA, ziQ, itemsQ, ziL, ziT, itemsL, itemsT, rng1_ok, rng2_ok, izs_len, izr_len, zipOf, enumOf, ofOpt, bind_val, bind_exc, st_val, st_exc, seq_nx, seq_rt, seq_ex, seq_bk, seq_ct, List.map_cons, List.map_nil, List.cons_append, List.nil_append, List.replicate, List.length_cons, List.length_nil, List.length_append, List.length_map, List.length_set, List.getElem?_cons_zero, List.getElem?_cons_succ, List.getElem?_nil, List.set_cons_zero, List.set_cons_succ, lstAt, res, resD, truS, truth, app2, on1, on2, lstOnly, lenS, allD_nil, allD_cons, Option.map_some, Option.map_none, Option.bind_some, Option.bind_none, dAdd, dSub, dMul_ok, dMod_ok, dDiv_ok, dLt, dLe, dGt, dGe, dEq_i, dEq_s, dEq_b, dNe_i, dNe_s, dNe_b, dEq_ti, dNe_ti, dEq_li, dNe_li, dIs, dIsNot, nonD, dIn, dNotIn, dIx, atI_0, atI_1, atI_2, dTup, dInt, dMin, dMax, dSum, dAll, dAny, intsOf_map, bolsOf_map, intsOf_nil, intsOf_cons, dMin2, dMax2, dAbs, keySl, Z.keyOf, putS, lim, retN_d, getLast0, setLast0, takeLast0, takeLast1, List.take_succ_cons, List.take_zero, List.take_length, List.take_nil, decide_eq_true_eq, beq_iff_eq, if_true, if_false, Bool.not_true, Bool.not_false, Bool.not_eq_true', Bool.false_eq_true, Bool.true_eq_false, reduceIte, if_pos, if_neg, Nat.add_eq, List.isEmpty_cons, List.isEmpty_nil, Option.some.injEq, decide_true, decide_false, decide_eq_true, decide_eq_false, beq_self_eq_true, BEq.rfl, beq_eq_false_iff_ne, Nat.zero_add, Nat.reduceAdd, Int.toNat_natCast, Bool.not_eq_true, decide_eq_false_iff_not, bne_iff_ne, ne_eq, not_true_eq_false, not_false_eq_true]
  refine ok_seq ?_
  try simp (disch := omega) only [wipeZ, forget, okE_val, okE_exc, okE_bind, okS_st, okS_seq, okS_nx, okS_rt, okS_bk, okS_ct, okS_ex, okE_ofOpt, zdrop, zapp, zset, zsetF, zifS, ztru, ztst, zop, zcb, zcf, zacons, zanil, zc, zv, znil, zret, zcall, zfz, znew, zneg, zos, zon, zsl, zslF, ztup, zlst, zand, zor, znot, zif, zpar, zpar3, zasg, gN, gT2, gT3, zdnew, zdput, zmt1, zcnt1, zandV, zorV, znotV, zchain, zfrz, zbrk, zcnt, zopF, zpop0, zlput, zdget, zdin, zdnin, zdget2, zisi, ziA, ziQ, itemsQ, ziL, ziT, itemsL, itemsT, rng1_ok, rng2_ok, izs_len, izr_len, zipOf, enumOf, ofOpt, bind_val, bind_exc, st_val, st_exc, seq_nx, seq_rt, seq_ex, seq_bk, seq_ct, List.map_cons, List.map_nil, List.cons_append, List.nil_append, List.replicate, List.length_cons, List.length_nil, List.length_append, List.length_map, List.length_set, List.getElem?_cons_zero, List.getElem?_cons_succ, List.getElem?_nil, List.set_cons_zero, List.set_cons_succ, lstAt, res, resD, truS, truth, app2, on1, on2, lstOnly, lenS, allD_nil, allD_cons, Option.map_some, Option.map_none, Option.bind_some, Option.bind_none, dAdd, dSub, dMul_ok, dMod_ok, dDiv_ok, dLt, dLe, dGt, dGe, dEq_i, dEq_s, dEq_b, dNe_i, dNe_s, dNe_b, dEq_ti, dNe_ti, dEq_li, dNe_li, dIs, dIsNot, nonD, dIn, dNotIn, dIx, atI_0, atI_1, atI_2, dTup, dInt, dMin, dMax, dSum, dAll, dAny, intsOf_map, bolsOf_map, intsOf_nil, intsOf_cons, dMin2, dMax2, dAbs, keySl, Z.keyOf, putS, lim, retN_d, getLast0, setLast0, takeLast0, takeLast1, List.take_succ_cons, List.take_zero, List.take_length, List.take_nil, decide_eq_true_eq, beq_iff_eq, if_true, if_false, Bool.not_true, Bool.not_false, Bool.not_eq_true', Bool.false_eq_true, Bool.true_eq_false, reduceIte, if_pos, if_neg, Nat.add_eq, List.isEmpty_cons, List.isEmpty_nil, Option.some.injEq, decide_true, decide_false, decide_eq_true, decide_eq_false, beq_self_eq_true, BEq.rfl, beq_eq_false_iff_ne, Nat.zero_add, Nat.reduceAdd, Int.toNat_natCast, Bool.not_eq_true, decide_eq_false_iff_not, bne_iff_ne, ne_eq, not_true_eq_false, not_false_eq_true, read_time_ok hn hne (show hs.length ≤ 1000000 by omega)]
  refine ok_seq ?_
  try simp (disch := omega) only [wipeZ, forget, okE_val, okE_exc, okE_bind, okS_st, okS_seq, okS_nx, okS_rt, okS_bk, okS_ct, okS_ex, okE_ofOpt, zdrop, zapp, zset, zsetF, zifS, ztru, ztst, zop, zcb, zcf, zacons, zanil, zc, zv, znil, zret, zcall, zfz, znew, zneg, zos, zon, zsl, zslF, ztup, zlst, zand, zor, znot, zif, zpar, zpar3, zasg, gN, gT2, gT3, zdnew, zdput, zmt1, zcnt1, zandV, zorV, znotV, zchain, zfrz, zbrk, zcnt, zopF, zpop0, zlput, zdget, zdin, zdnin, zdget2, zisi, ziA, ziQ, itemsQ, ziL, ziT, itemsL, itemsT, rng1_ok, rng2_ok, izs_len, izr_len, zipOf, enumOf, ofOpt, bind_val, bind_exc, st_val, st_exc, seq_nx, seq_rt, seq_ex, seq_bk, seq_ct, List.map_cons, List.map_nil, List.cons_append, List.nil_append, List.replicate, List.length_cons, List.length_nil, List.length_append, List.length_map, List.length_set, List.getElem?_cons_zero, List.getElem?_cons_succ, List.getElem?_nil, List.set_cons_zero, List.set_cons_succ, lstAt, res, resD, truS, truth, app2, on1, on2, lstOnly, lenS, allD_nil, allD_cons, Option.map_some, Option.map_none, Option.bind_some, Option.bind_none, dAdd, dSub, dMul_ok, dMod_ok, dDiv_ok, dLt, dLe, dGt, dGe, dEq_i, dEq_s, dEq_b, dNe_i, dNe_s, dNe_b, dEq_ti, dNe_ti, dEq_li, dNe_li, dIs, dIsNot, nonD, dIn, dNotIn, dIx, atI_0, atI_1, atI_2, dTup, dInt, dMin, dMax, dSum, dAll, dAny, intsOf_map, bolsOf_map, intsOf_nil, intsOf_cons, dMin2, dMax2, dAbs, keySl, Z.keyOf, putS, lim, retN_d, getLast0, setLast0, takeLast0, takeLast1, List.take_succ_cons, List.take_zero, List.take_length, List.take_nil, decide_eq_true_eq, beq_iff_eq, if_true, if_false, Bool.not_true, Bool.not_false, Bool.not_eq_true', Bool.false_eq_true, Bool.true_eq_false, reduceIte, if_pos, if_neg, Nat.add_eq, List.isEmpty_cons, List.isEmpty_nil, Option.some.injEq, decide_true, decide_false, decide_eq_true, decide_eq_false, beq_self_eq_true, BEq.rfl, beq_eq_false_iff_ne, Nat.zero_add, Nat.reduceAdd, Int.toNat_natCast, Bool.not_eq_true, decide_eq_false_iff_not, bne_iff_ne, ne_eq, not_true_eq_false, not_false_eq_true, zwhile]
  refine ok_while (fun m Γ S1 => ∃ u, a ≤ u ∧ (u ≤ b ∨ u = a) ∧ m = (b - u).toNat ∧ Γ = [some (.d (dDrum n hs)), some (.d (.int s)), some (.d (.int a)), some (.d (.int b)), some (.box S.length), some (.d (.int (rt n hs s u)))] ∧ S1 = S ++ [.lst ((times n hs s a u).map .int)]) ?_ _ (b - a).toNat _ _ ?_ ?_
  · rintro m Γ S1 ⟨u, h1, h2, rfl, rfl, rfl⟩
    have bd := rt_bounds (s := s) (t := u) hn hne
    rcases Int.lt_or_le (rt n hs s u) b with q | q
    · have tl := times_len_le (n := n) (hs := hs) (s := s) (a := a) (b := u)
      unfold b1_times_of
      simp (disch := omega) only [wipeZ, forget, okE_val, okE_exc, okE_bind, okS_st, okS_seq, okS_nx, okS_rt, okS_bk, okS_ct, okS_ex, okE_ofOpt, zseq, zdrop, zapp, zset, zsetF, zifS, ztru, ztst, zop, zcb, zcf, zacons, zanil, zc, zv, znil, zret, zcall, zfz, znew, zneg, zos, zon, zsl, zslF, ztup, zlst, zand, zor, znot, zif, zpar, zpar3, zasg, gN, gT2, gT3, zdnew, zdput, zmt1, zcnt1, zandV, zorV, znotV, zchain, zfrz, zbrk, zcnt, zopF, zpop0, zlput, zdget, zdin, zdnin, zdget2, zisi, ziA, ziQ, itemsQ, ziL, ziT, itemsL, itemsT, rng1_ok, rng2_ok, izs_len, izr_len, zipOf, enumOf, ofOpt, bind_val, bind_exc, st_val, st_exc, seq_nx, seq_rt, seq_ex, seq_bk, seq_ct, List.map_cons, List.map_nil, List.cons_append, List.nil_append, List.replicate, List.length_cons, List.length_nil, List.length_append, List.length_map, List.length_set, List.getElem?_cons_zero, List.getElem?_cons_succ, List.getElem?_nil, List.set_cons_zero, List.set_cons_succ, lstAt, res, resD, truS, truth, app2, on1, on2, lstOnly, lenS, allD_nil, allD_cons, Option.map_some, Option.map_none, Option.bind_some, Option.bind_none, dAdd, dSub, dMul_ok, dMod_ok, dDiv_ok, dLt, dLe, dGt, dGe, dEq_i, dEq_s, dEq_b, dNe_i, dNe_s, dNe_b, dEq_ti, dNe_ti, dEq_li, dNe_li, dIs, dIsNot, nonD, dIn, dNotIn, dIx, atI_0, atI_1, atI_2, dTup, dInt, dMin, dMax, dSum, dAll, dAny, intsOf_map, bolsOf_map, intsOf_nil, intsOf_cons, dMin2, dMax2, dAbs, keySl, Z.keyOf, putS, lim, retN_d, getLast0, setLast0, takeLast0, takeLast1, List.take_succ_cons, List.take_zero, List.take_length, List.take_nil, decide_eq_true_eq, beq_iff_eq, if_true, if_false, Bool.not_true, Bool.not_false, Bool.not_eq_true', Bool.false_eq_true, Bool.true_eq_false, reduceIte, if_pos, if_neg, Nat.add_eq, List.isEmpty_cons, List.isEmpty_nil, Option.some.injEq, decide_true, decide_false, decide_eq_true, decide_eq_false, beq_self_eq_true, BEq.rfl, beq_eq_false_iff_ne, Nat.zero_add, Nat.reduceAdd, Int.toNat_natCast, Bool.not_eq_true, decide_eq_false_iff_not, bne_iff_ne, ne_eq, not_true_eq_false, not_false_eq_true, q, read_time_ok hn hne (show hs.length ≤ 1000000 by omega), List.length_map]
      refine ⟨(b - (rt n hs s u + 1)).toNat, by omega, rt n hs s u + 1, by omega, by omega, rfl, rfl, ?_⟩
      rw [times_next hn hs0 hs1 hne h1]
      simp
    · have e : times n hs s a b = times n hs s a u := by
        rcases h2 with z | z
        · rw [← times_app h1 z, times_none (a := u) fun x h1 h2 => rt_first hn h1 (by omega)]
          simp
        · subst z
          rw [times_none (a := u) fun x h1 h2 => rt_first hn h1 (by omega), times_none fun x h1 h2 => by omega]
      rw [e]
      simp (disch := omega) only [wipeZ, forget, okE_val, okE_exc, okE_bind, okS_st, okS_seq, okS_nx, okS_rt, okS_bk, okS_ct, okS_ex, okE_ofOpt, zseq, zdrop, zapp, zset, zsetF, zifS, ztru, ztst, zop, zcb, zcf, zacons, zanil, zc, zv, znil, zret, zcall, zfz, znew, zneg, zos, zon, zsl, zslF, ztup, zlst, zand, zor, znot, zif, zpar, zpar3, zasg, gN, gT2, gT3, zdnew, zdput, zmt1, zcnt1, zandV, zorV, znotV, zchain, zfrz, zbrk, zcnt, zopF, zpop0, zlput, zdget, zdin, zdnin, zdget2, zisi, ziA, ziQ, itemsQ, ziL, ziT, itemsL, itemsT, rng1_ok, rng2_ok, izs_len, izr_len, zipOf, enumOf, ofOpt, bind_val, bind_exc, st_val, st_exc, seq_nx, seq_rt, seq_ex, seq_bk, seq_ct, List.map_cons, List.map_nil, List.cons_append, List.nil_append, List.replicate, List.length_cons, List.length_nil, List.length_append, List.length_map, List.length_set, List.getElem?_cons_zero, List.getElem?_cons_succ, List.getElem?_nil, List.set_cons_zero, List.set_cons_succ, lstAt, res, resD, truS, truth, app2, on1, on2, lstOnly, lenS, allD_nil, allD_cons, Option.map_some, Option.map_none, Option.bind_some, Option.bind_none, dAdd, dSub, dMul_ok, dMod_ok, dDiv_ok, dLt, dLe, dGt, dGe, dEq_i, dEq_s, dEq_b, dNe_i, dNe_s, dNe_b, dEq_ti, dNe_ti, dEq_li, dNe_li, dIs, dIsNot, nonD, dIn, dNotIn, dIx, atI_0, atI_1, atI_2, dTup, dInt, dMin, dMax, dSum, dAll, dAny, intsOf_map, bolsOf_map, intsOf_nil, intsOf_cons, dMin2, dMax2, dAbs, keySl, Z.keyOf, putS, lim, retN_d, getLast0, setLast0, takeLast0, takeLast1, List.take_succ_cons, List.take_zero, List.take_length, List.take_nil, decide_eq_true_eq, beq_iff_eq, if_true, if_false, Bool.not_true, Bool.not_false, Bool.not_eq_true', Bool.false_eq_true, Bool.true_eq_false, reduceIte, if_pos, if_neg, Nat.add_eq, List.isEmpty_cons, List.isEmpty_nil, Option.some.injEq, decide_true, decide_false, decide_eq_true, decide_eq_false, beq_self_eq_true, BEq.rfl, beq_eq_false_iff_ne, Nat.zero_add, Nat.reduceAdd, Int.toNat_natCast, Bool.not_eq_true, decide_eq_false_iff_not, bne_iff_ne, ne_eq, not_true_eq_false, not_false_eq_true, show decide (rt n hs s u < b) = false from decide_eq_false (by omega)]
      exact ⟨trivial, by simp⟩
  · unfold fuel
    omega
  · refine ⟨a, Int.le_refl _, .inr rfl, rfl, rfl, ?_⟩
    rw [times_none fun x h1 h2 => by omega]
    rfl
/-! how many in a turn -/
theorem izr_nodup {a : Int} {k : Nat} : (izr a k).Nodup := by
  unfold izr
  refine List.pairwise_map.mpr (List.nodup_range.imp fun {x y} h => ?_)
  show a + (x : Int) ≠ a + (y : Int)
  omega
theorem emod_inj {n x y : Int} (h1 : 0 ≤ x ∧ x < n) (h2 : 0 ≤ y ∧ y < n) {c : Int} (h : (c - x) % n = (c - y) % n) : x = y := by
  have hn : 0 < n := by omega
  have e := Int.emod_eq_emod_iff_emod_sub_eq_zero.mp h
  have e2 : c - x - (c - y) = y - x := by omega
  rw [e2] at e
  have e3 : (y - x) % n = 0 := e
  obtain ⟨k, hk⟩ := Int.dvd_of_emod_eq_zero e3
  have : k = 0 := by
    rcases Int.lt_or_le k 0 with q | q
    · have := Int.mul_le_mul_of_nonneg_left (show k ≤ -1 by omega) (Int.le_of_lt hn)
      omega
    · rcases Int.lt_or_le 0 k with r | r
      · have := Int.mul_le_mul_of_nonneg_left (show 1 ≤ k by omega) (Int.le_of_lt hn)
        omega
      · omega
  subst this
  omega
theorem window_perm {n : Nat} {hs : List Int} {s a : Int} (hd : IsDrum n hs) (hs0 : 0 ≤ s) (hs1 : s < n) : (times n hs s a (a + n)).Perm (hs.map fun h => a + (s - h - a) % n) := by
  have hn : (0 : Int) < n := by omega
  have e : (a + (n : Int) - a).toNat = n := by omega
  unfold times
  rw [e]
  have nd1 : ((izr a n).filter (under n hs s)).Nodup := List.Pairwise.filter _ izr_nodup
  have nd2 : (hs.map fun h => a + (s - h - a) % (n : Int)).Nodup := by
    refine List.pairwise_map.mpr (List.Pairwise.imp_of_mem (fun {x y} hx hy h => ?_) hd.lt)
    intro z
    have e1 : s - x - a = (s - a) - x := by omega
    have e2 : s - y - a = (s - a) - y := by omega
    rw [e1, e2] at z
    have := emod_inj (c := s - a) (hd.rg x hx) (hd.rg y hy) (by omega)
    omega
  refine (List.perm_ext_iff_of_nodup nd1 nd2).mpr fun t => ?_
  rw [List.mem_filter, List.mem_map, under_iff, izr_mem]
  constructor
  · rintro ⟨⟨h1, h2⟩, h, hh, e⟩
    refine ⟨h, hh, ?_⟩
    rw [← e]
    have e3 : (t + h) % (n : Int) - h - a = (t + h) % n - (h + a) := by omega
    rw [e3, Int.emod_sub_emod]
    have e4 : t + h - (h + a) = t - a := by omega
    rw [e4, Int.emod_eq_of_lt (by omega) (by omega)]
    omega
  · rintro ⟨h, hh, rfl⟩
    have := mod_le (a := s - h - a) hn
    refine ⟨by omega, h, hh, ?_⟩
    have e2 : a + (s - h - a) % (n : Int) + h = (a + h) + (s - h - a) % n := by omega
    rw [e2, Int.add_emod_emod]
    have e3 : a + h + (s - h - a) = s := by omega
    rw [e3]
    exact Int.emod_eq_of_lt hs0 hs1
theorem times_turn {n : Nat} {hs : List Int} {s a : Int} (hd : IsDrum n hs) (hs0 : 0 ≤ s) (hs1 : s < n) : (times n hs s a (a + n)).length = hs.length := by
  rw [(window_perm hd hs0 hs1).length_eq, List.length_map]
theorem times_pw {n : Int} {hs : List Int} {s a b : Int} : (times n hs s a b).Pairwise (· < ·) := by
  unfold times izr
  refine List.Pairwise.filter _ (List.pairwise_map.mpr (List.pairwise_lt_range.imp fun {x y} h => ?_))
  show a + (x : Int) < a + (y : Int)
  omega
theorem times_srt {n : Int} {hs : List Int} {s a b : Int} : isort (times n hs s a b) = times n hs s a b :=
  (isort_uniq (.refl _) (times_pw.imp fun h => Int.le_of_lt h)).symm
/-! ### drums, asked for -/
theorem is_whole_ok {x lo hi : Int} {S : Sto} : F_is_whole [.d (.int x), .d (.int lo), .d (.int hi)] S = .val (.d (.bool (decide (lo ≤ x) && decide (x ≤ hi)))) S := by
  refine OkE.val (ok_def rfl ?_)
  unfold z_is_whole
  have e : isOf "int" "int" = true := by decide
  have e2 : isOf "bool" "int" = false := by decide
  by_cases q : lo ≤ x
  · simp (disch := omega) only [wipeZ, forget, okE_val, okE_exc, okE_bind, okS_st, okS_seq, okS_nx, okS_rt, okS_bk, okS_ct, okS_ex, okE_ofOpt, zseq, zdrop, zapp, zset, zsetF, zifS, ztru, ztst, zop, zcb, zcf, zacons, zanil, zc, zv, znil, zret, zcall, zfz, znew, zneg, zos, zon, zsl, zslF, ztup, zlst, zand, zor, znot, zif, zpar, zpar3, zasg, gN, gT2, gT3, zdnew, zdput, zmt1, zcnt1, zandV, zorV, znotV, zchain, zfrz, zbrk, zcnt, zopF, zpop0, zlput, zdget, zdin, zdnin, zdget2, zisi, ziA, ziQ, itemsQ, ziL, ziT, itemsL, itemsT, rng1_ok, rng2_ok, izs_len, izr_len, zipOf, enumOf, ofOpt, bind_val, bind_exc, st_val, st_exc, seq_nx, seq_rt, seq_ex, seq_bk, seq_ct, List.map_cons, List.map_nil, List.cons_append, List.nil_append, List.replicate, List.length_cons, List.length_nil, List.length_append, List.length_map, List.length_set, List.getElem?_cons_zero, List.getElem?_cons_succ, List.getElem?_nil, List.set_cons_zero, List.set_cons_succ, lstAt, res, resD, truS, truth, app2, on1, on2, lstOnly, lenS, allD_nil, allD_cons, Option.map_some, Option.map_none, Option.bind_some, Option.bind_none, dAdd, dSub, dMul_ok, dMod_ok, dDiv_ok, dLt, dLe, dGt, dGe, dEq_i, dEq_s, dEq_b, dNe_i, dNe_s, dNe_b, dEq_ti, dNe_ti, dEq_li, dNe_li, dIs, dIsNot, nonD, dIn, dNotIn, dIx, atI_0, atI_1, atI_2, dTup, dInt, dMin, dMax, dSum, dAll, dAny, intsOf_map, bolsOf_map, intsOf_nil, intsOf_cons, dMin2, dMax2, dAbs, keySl, Z.keyOf, putS, lim, retN_d, getLast0, setLast0, takeLast0, takeLast1, List.take_succ_cons, List.take_zero, List.take_length, List.take_nil, decide_eq_true_eq, beq_iff_eq, if_true, if_false, Bool.not_true, Bool.not_false, Bool.not_eq_true', Bool.false_eq_true, Bool.true_eq_false, reduceIte, if_pos, if_neg, Nat.add_eq, List.isEmpty_cons, List.isEmpty_nil, Option.some.injEq, decide_true, decide_false, decide_eq_true, decide_eq_false, beq_self_eq_true, BEq.rfl, beq_eq_false_iff_ne, Nat.zero_add, Nat.reduceAdd, Int.toNat_natCast, Bool.not_eq_true, decide_eq_false_iff_not, bne_iff_ne, ne_eq, not_true_eq_false, not_false_eq_true, tyN, e, e2, decide_eq_true q, Bool.true_and, and_self]
  · simp (disch := omega) only [wipeZ, forget, okE_val, okE_exc, okE_bind, okS_st, okS_seq, okS_nx, okS_rt, okS_bk, okS_ct, okS_ex, okE_ofOpt, zseq, zdrop, zapp, zset, zsetF, zifS, ztru, ztst, zop, zcb, zcf, zacons, zanil, zc, zv, znil, zret, zcall, zfz, znew, zneg, zos, zon, zsl, zslF, ztup, zlst, zand, zor, znot, zif, zpar, zpar3, zasg, gN, gT2, gT3, zdnew, zdput, zmt1, zcnt1, zandV, zorV, znotV, zchain, zfrz, zbrk, zcnt, zopF, zpop0, zlput, zdget, zdin, zdnin, zdget2, zisi, ziA, ziQ, itemsQ, ziL, ziT, itemsL, itemsT, rng1_ok, rng2_ok, izs_len, izr_len, zipOf, enumOf, ofOpt, bind_val, bind_exc, st_val, st_exc, seq_nx, seq_rt, seq_ex, seq_bk, seq_ct, List.map_cons, List.map_nil, List.cons_append, List.nil_append, List.replicate, List.length_cons, List.length_nil, List.length_append, List.length_map, List.length_set, List.getElem?_cons_zero, List.getElem?_cons_succ, List.getElem?_nil, List.set_cons_zero, List.set_cons_succ, lstAt, res, resD, truS, truth, app2, on1, on2, lstOnly, lenS, allD_nil, allD_cons, Option.map_some, Option.map_none, Option.bind_some, Option.bind_none, dAdd, dSub, dMul_ok, dMod_ok, dDiv_ok, dLt, dLe, dGt, dGe, dEq_i, dEq_s, dEq_b, dNe_i, dNe_s, dNe_b, dEq_ti, dNe_ti, dEq_li, dNe_li, dIs, dIsNot, nonD, dIn, dNotIn, dIx, atI_0, atI_1, atI_2, dTup, dInt, dMin, dMax, dSum, dAll, dAny, intsOf_map, bolsOf_map, intsOf_nil, intsOf_cons, dMin2, dMax2, dAbs, keySl, Z.keyOf, putS, lim, retN_d, getLast0, setLast0, takeLast0, takeLast1, List.take_succ_cons, List.take_zero, List.take_length, List.take_nil, decide_eq_true_eq, beq_iff_eq, if_true, if_false, Bool.not_true, Bool.not_false, Bool.not_eq_true', Bool.false_eq_true, Bool.true_eq_false, reduceIte, if_pos, if_neg, Nat.add_eq, List.isEmpty_cons, List.isEmpty_nil, Option.some.injEq, decide_true, decide_false, decide_eq_true, decide_eq_false, beq_self_eq_true, BEq.rfl, beq_eq_false_iff_ne, Nat.zero_add, Nat.reduceAdd, Int.toNat_natCast, Bool.not_eq_true, decide_eq_false_iff_not, bne_iff_ne, ne_eq, not_true_eq_false, not_false_eq_true, tyN, e, e2, decide_eq_false q, Bool.false_and, and_self]
theorem pw_zip {l : List Int} (h : l.Pairwise (· < ·)) : ∀ p ∈ l.dropLast.zip l.tail, p.1 < p.2 := by
  induction l with
  | nil => simp
  | cons a r ih =>
    intro p hp
    cases r with
    | nil => simp at hp
    | cons b r =>
      rw [List.dropLast_cons_cons, List.tail_cons, List.zip_cons_cons] at hp
      have h' := List.pairwise_cons.mp h
      rcases List.mem_cons.mp hp with rfl | hp
      · exact h'.1 b List.mem_cons_self
      · exact ih h'.2 p hp
theorem is_drum_ok {n : Int} {hs : List Int} {S : Sto} (hd : IsDrum n hs) (hl : hs.length ≤ 3) (h4 : 4 ≤ n) (h24 : n ≤ 24) : F_is_drum [.d (dDrum n hs)] S = .val (.d (.bool true)) S := by
  have hlp := List.length_pos_iff.mpr hd.ne
  refine OkE.val (ok_def rfl ?_)
  unfold z_is_drum
  have e : isOf "tuple" "tuple" = true := by decide
  have w := is_whole_ok (x := n) (lo := 4) (hi := 24) (S := S)
  rw [decide_eq_true h4, decide_eq_true h24] at w
  refine ok_seq ?_
  try simp (disch := omega) only [wipeZ, forget, okE_val, okE_exc, okE_bind, okS_st, okS_seq, okS_nx, okS_rt, okS_bk, okS_ct, okS_ex, okE_ofOpt, zdrop, zapp, zset, zsetF, zifS, ztru, ztst, zop, zcb, zcf, zacons, zanil, zc, zv, znil, zret, zcall, zfz, znew, zneg, zos, zon, zsl, zslF, ztup, zlst, zand, zor, znot, zif, zpar, zpar3, zasg, gN, gT2, gT3, zdnew, zdput, zmt1, zcnt1, zandV, zorV, znotV, zchain, zfrz, zbrk, zcnt, zopF, zpop0, zlput, zdget, zdin, zdnin, zdget2, zisi, ziA, ziQ, itemsQ, ziL, ziT, itemsL, itemsT, rng1_ok, rng2_ok, izs_len, izr_len, zipOf, enumOf, ofOpt, bind_val, bind_exc, st_val, st_exc, seq_nx, seq_rt, seq_ex, seq_bk, seq_ct, List.map_cons, List.map_nil, List.cons_append, List.nil_append, List.replicate, List.length_cons, List.length_nil, List.length_append, List.length_map, List.length_set, List.getElem?_cons_zero, List.getElem?_cons_succ, List.getElem?_nil, List.set_cons_zero, List.set_cons_succ, lstAt, res, resD, truS, truth, app2, on1, on2, lstOnly, lenS, allD_nil, allD_cons, Option.map_some, Option.map_none, Option.bind_some, Option.bind_none, dAdd, dSub, dMul_ok, dMod_ok, dDiv_ok, dLt, dLe, dGt, dGe, dEq_i, dEq_s, dEq_b, dNe_i, dNe_s, dNe_b, dEq_ti, dNe_ti, dEq_li, dNe_li, dIs, dIsNot, nonD, dIn, dNotIn, dIx, atI_0, atI_1, atI_2, dTup, dInt, dMin, dMax, dSum, dAll, dAny, intsOf_map, bolsOf_map, intsOf_nil, intsOf_cons, dMin2, dMax2, dAbs, keySl, Z.keyOf, putS, lim, retN_d, getLast0, setLast0, takeLast0, takeLast1, List.take_succ_cons, List.take_zero, List.take_length, List.take_nil, decide_eq_true_eq, beq_iff_eq, if_true, if_false, Bool.not_true, Bool.not_false, Bool.not_eq_true', Bool.false_eq_true, Bool.true_eq_false, reduceIte, if_pos, if_neg, Nat.add_eq, List.isEmpty_cons, List.isEmpty_nil, Option.some.injEq, decide_true, decide_false, decide_eq_true, decide_eq_false, beq_self_eq_true, BEq.rfl, beq_eq_false_iff_ne, Nat.zero_add, Nat.reduceAdd, Int.toNat_natCast, Bool.not_eq_true, decide_eq_false_iff_not, bne_iff_ne, ne_eq, not_true_eq_false, not_false_eq_true, tyN, e, w, Bool.and_self]
  refine ok_seq ?_
  try simp (disch := omega) only [wipeZ, forget, okE_val, okE_exc, okE_bind, okS_st, okS_seq, okS_nx, okS_rt, okS_bk, okS_ct, okS_ex, okE_ofOpt, zdrop, zapp, zset, zsetF, zifS, ztru, ztst, zop, zcb, zcf, zacons, zanil, zc, zv, znil, zret, zcall, zfz, znew, zneg, zos, zon, zsl, zslF, ztup, zlst, zand, zor, znot, zif, zpar, zpar3, zasg, gN, gT2, gT3, zdnew, zdput, zmt1, zcnt1, zandV, zorV, znotV, zchain, zfrz, zbrk, zcnt, zopF, zpop0, zlput, zdget, zdin, zdnin, zdget2, zisi, ziA, ziQ, itemsQ, ziL, ziT, itemsL, itemsT, rng1_ok, rng2_ok, izs_len, izr_len, zipOf, enumOf, ofOpt, bind_val, bind_exc, st_val, st_exc, seq_nx, seq_rt, seq_ex, seq_bk, seq_ct, List.map_cons, List.map_nil, List.cons_append, List.nil_append, List.replicate, List.length_cons, List.length_nil, List.length_append, List.length_map, List.length_set, List.getElem?_cons_zero, List.getElem?_cons_succ, List.getElem?_nil, List.set_cons_zero, List.set_cons_succ, lstAt, res, resD, truS, truth, app2, on1, on2, lstOnly, lenS, allD_nil, allD_cons, Option.map_some, Option.map_none, Option.bind_some, Option.bind_none, dAdd, dSub, dMul_ok, dMod_ok, dDiv_ok, dLt, dLe, dGt, dGe, dEq_i, dEq_s, dEq_b, dNe_i, dNe_s, dNe_b, dEq_ti, dNe_ti, dEq_li, dNe_li, dIs, dIsNot, nonD, dIn, dNotIn, dIx, atI_0, atI_1, atI_2, dTup, dInt, dMin, dMax, dSum, dAll, dAny, intsOf_map, bolsOf_map, intsOf_nil, intsOf_cons, dMin2, dMax2, dAbs, keySl, Z.keyOf, putS, lim, retN_d, getLast0, setLast0, takeLast0, takeLast1, List.take_succ_cons, List.take_zero, List.take_length, List.take_nil, decide_eq_true_eq, beq_iff_eq, if_true, if_false, Bool.not_true, Bool.not_false, Bool.not_eq_true', Bool.false_eq_true, Bool.true_eq_false, reduceIte, if_pos, if_neg, Nat.add_eq, List.isEmpty_cons, List.isEmpty_nil, Option.some.injEq, decide_true, decide_false, decide_eq_true, decide_eq_false, beq_self_eq_true, BEq.rfl, beq_eq_false_iff_ne, Nat.zero_add, Nat.reduceAdd, Int.toNat_natCast, Bool.not_eq_true, decide_eq_false_iff_not, bne_iff_ne, ne_eq, not_true_eq_false, not_false_eq_true, tyN, e]
  refine ok_seq ?_
  try simp (disch := omega) only [wipeZ, forget, okE_val, okE_exc, okE_bind, okS_st, okS_seq, okS_nx, okS_rt, okS_bk, okS_ct, okS_ex, okE_ofOpt, zdrop, zapp, zset, zsetF, zifS, ztru, ztst, zop, zcb, zcf, zacons, zanil, zc, zv, znil, zret, zcall, zfz, znew, zneg, zos, zon, zsl, zslF, ztup, zlst, zand, zor, znot, zif, zpar, zpar3, zasg, gN, gT2, gT3, zdnew, zdput, zmt1, zcnt1, zandV, zorV, znotV, zchain, zfrz, zbrk, zcnt, zopF, zpop0, zlput, zdget, zdin, zdnin, zdget2, zisi, ziA, ziQ, itemsQ, ziL, ziT, itemsL, itemsT, rng1_ok, rng2_ok, izs_len, izr_len, zipOf, enumOf, ofOpt, bind_val, bind_exc, st_val, st_exc, seq_nx, seq_rt, seq_ex, seq_bk, seq_ct, List.map_cons, List.map_nil, List.cons_append, List.nil_append, List.replicate, List.length_cons, List.length_nil, List.length_append, List.length_map, List.length_set, List.getElem?_cons_zero, List.getElem?_cons_succ, List.getElem?_nil, List.set_cons_zero, List.set_cons_succ, lstAt, res, resD, truS, truth, app2, on1, on2, lstOnly, lenS, allD_nil, allD_cons, Option.map_some, Option.map_none, Option.bind_some, Option.bind_none, dAdd, dSub, dMul_ok, dMod_ok, dDiv_ok, dLt, dLe, dGt, dGe, dEq_i, dEq_s, dEq_b, dNe_i, dNe_s, dNe_b, dEq_ti, dNe_ti, dEq_li, dNe_li, dIs, dIsNot, nonD, dIn, dNotIn, dIx, atI_0, atI_1, atI_2, dTup, dInt, dMin, dMax, dSum, dAll, dAny, intsOf_map, bolsOf_map, intsOf_nil, intsOf_cons, dMin2, dMax2, dAbs, keySl, Z.keyOf, putS, lim, retN_d, getLast0, setLast0, takeLast0, takeLast1, List.take_succ_cons, List.take_zero, List.take_length, List.take_nil, decide_eq_true_eq, beq_iff_eq, if_true, if_false, Bool.not_true, Bool.not_false, Bool.not_eq_true', Bool.false_eq_true, Bool.true_eq_false, reduceIte, if_pos, if_neg, Nat.add_eq, List.isEmpty_cons, List.isEmpty_nil, Option.some.injEq, decide_true, decide_false, decide_eq_true, decide_eq_false, beq_self_eq_true, BEq.rfl, beq_eq_false_iff_ne, Nat.zero_add, Nat.reduceAdd, Int.toNat_natCast, Bool.not_eq_true, decide_eq_false_iff_not, bne_iff_ne, ne_eq, not_true_eq_false, not_false_eq_true]
  refine ok_zlcM hs .int (fun x => .bool true) (by simp (disch := omega) only [wipeZ, forget, okE_val, okE_exc, okE_bind, okS_st, okS_seq, okS_nx, okS_rt, okS_bk, okS_ct, okS_ex, okE_ofOpt, zseq, zdrop, zapp, zset, zsetF, zifS, ztru, ztst, zop, zcb, zcf, zacons, zanil, zc, zv, znil, zret, zcall, zfz, znew, zneg, zos, zon, zsl, zslF, ztup, zlst, zand, zor, znot, zif, zpar, zpar3, zasg, gN, gT2, gT3, zdnew, zdput, zmt1, zcnt1, zandV, zorV, znotV, zchain, zfrz, zbrk, zcnt, zopF, zpop0, zlput, zdget, zdin, zdnin, zdget2, zisi, ziA, ziQ, itemsQ, ziL, ziT, itemsL, itemsT, rng1_ok, rng2_ok, izs_len, izr_len, zipOf, enumOf, ofOpt, bind_val, bind_exc, st_val, st_exc, seq_nx, seq_rt, seq_ex, seq_bk, seq_ct, List.map_cons, List.map_nil, List.cons_append, List.nil_append, List.replicate, List.length_cons, List.length_nil, List.length_append, List.length_map, List.length_set, List.getElem?_cons_zero, List.getElem?_cons_succ, List.getElem?_nil, List.set_cons_zero, List.set_cons_succ, lstAt, res, resD, truS, truth, app2, on1, on2, lstOnly, lenS, allD_nil, allD_cons, Option.map_some, Option.map_none, Option.bind_some, Option.bind_none, dAdd, dSub, dMul_ok, dMod_ok, dDiv_ok, dLt, dLe, dGt, dGe, dEq_i, dEq_s, dEq_b, dNe_i, dNe_s, dNe_b, dEq_ti, dNe_ti, dEq_li, dNe_li, dIs, dIsNot, nonD, dIn, dNotIn, dIx, atI_0, atI_1, atI_2, dTup, dInt, dMin, dMax, dSum, dAll, dAny, intsOf_map, bolsOf_map, intsOf_nil, intsOf_cons, dMin2, dMax2, dAbs, keySl, Z.keyOf, putS, lim, retN_d, getLast0, setLast0, takeLast0, takeLast1, List.take_succ_cons, List.take_zero, List.take_length, List.take_nil, decide_eq_true_eq, beq_iff_eq, if_true, if_false, Bool.not_true, Bool.not_false, Bool.not_eq_true', Bool.false_eq_true, Bool.true_eq_false, reduceIte, if_pos, if_neg, Nat.add_eq, List.isEmpty_cons, List.isEmpty_nil, Option.some.injEq, decide_true, decide_false, decide_eq_true, decide_eq_false, beq_self_eq_true, BEq.rfl, beq_eq_false_iff_ne, Nat.zero_add, Nat.reduceAdd, Int.toNat_natCast, Bool.not_eq_true, decide_eq_false_iff_not, bne_iff_ne, ne_eq, not_true_eq_false, not_false_eq_true]) (by omega) (fun x hx => ⟨_, rfl, by
    have b := hd.rg x hx
    have w := is_whole_ok (x := x) (lo := 0) (hi := n - 1) (S := S)
    rw [decide_eq_true b.1, decide_eq_true (show x ≤ n - 1 by omega)] at w
    simp (disch := omega) only [wipeZ, forget, okE_val, okE_exc, okE_bind, okS_st, okS_seq, okS_nx, okS_rt, okS_bk, okS_ct, okS_ex, okE_ofOpt, zseq, zdrop, zapp, zset, zsetF, zifS, ztru, ztst, zop, zcb, zcf, zacons, zanil, zc, zv, znil, zret, zcall, zfz, znew, zneg, zos, zon, zsl, zslF, ztup, zlst, zand, zor, znot, zif, zpar, zpar3, zasg, gN, gT2, gT3, zdnew, zdput, zmt1, zcnt1, zandV, zorV, znotV, zchain, zfrz, zbrk, zcnt, zopF, zpop0, zlput, zdget, zdin, zdnin, zdget2, zisi, ziA, ziQ, itemsQ, ziL, ziT, itemsL, itemsT, rng1_ok, rng2_ok, izs_len, izr_len, zipOf, enumOf, ofOpt, bind_val, bind_exc, st_val, st_exc, seq_nx, seq_rt, seq_ex, seq_bk, seq_ct, List.map_cons, List.map_nil, List.cons_append, List.nil_append, List.replicate, List.length_cons, List.length_nil, List.length_append, List.length_map, List.length_set, List.getElem?_cons_zero, List.getElem?_cons_succ, List.getElem?_nil, List.set_cons_zero, List.set_cons_succ, lstAt, res, resD, truS, truth, app2, on1, on2, lstOnly, lenS, allD_nil, allD_cons, Option.map_some, Option.map_none, Option.bind_some, Option.bind_none, dAdd, dSub, dMul_ok, dMod_ok, dDiv_ok, dLt, dLe, dGt, dGe, dEq_i, dEq_s, dEq_b, dNe_i, dNe_s, dNe_b, dEq_ti, dNe_ti, dEq_li, dNe_li, dIs, dIsNot, nonD, dIn, dNotIn, dIx, atI_0, atI_1, atI_2, dTup, dInt, dMin, dMax, dSum, dAll, dAny, intsOf_map, bolsOf_map, intsOf_nil, intsOf_cons, dMin2, dMax2, dAbs, keySl, Z.keyOf, putS, lim, retN_d, getLast0, setLast0, takeLast0, takeLast1, List.take_succ_cons, List.take_zero, List.take_length, List.take_nil, decide_eq_true_eq, beq_iff_eq, if_true, if_false, Bool.not_true, Bool.not_false, Bool.not_eq_true', Bool.false_eq_true, Bool.true_eq_false, reduceIte, if_pos, if_neg, Nat.add_eq, List.isEmpty_cons, List.isEmpty_nil, Option.some.injEq, decide_true, decide_false, decide_eq_true, decide_eq_false, beq_self_eq_true, BEq.rfl, beq_eq_false_iff_ne, Nat.zero_add, Nat.reduceAdd, Int.toNat_natCast, Bool.not_eq_true, decide_eq_false_iff_not, bne_iff_ne, ne_eq, not_true_eq_false, not_false_eq_true, w, Bool.and_self]⟩) ?_
  have eb : (hs.map fun x => PyData.bool true) = (hs.map fun _ => true).map .bool := by simp
  have ea : ((hs.map fun _ => true).all id) = true := by simp
  rw [eb]
  try simp (disch := omega) only [wipeZ, forget, okE_val, okE_exc, okE_bind, okS_st, okS_seq, okS_nx, okS_rt, okS_bk, okS_ct, okS_ex, okE_ofOpt, zdrop, zapp, zset, zsetF, zifS, ztru, ztst, zop, zcb, zcf, zacons, zanil, zc, zv, znil, zret, zcall, zfz, znew, zneg, zos, zon, zsl, zslF, ztup, zlst, zand, zor, znot, zif, zpar, zpar3, zasg, gN, gT2, gT3, zdnew, zdput, zmt1, zcnt1, zandV, zorV, znotV, zchain, zfrz, zbrk, zcnt, zopF, zpop0, zlput, zdget, zdin, zdnin, zdget2, zisi, ziA, ziQ, itemsQ, ziL, ziT, itemsL, itemsT, rng1_ok, rng2_ok, izs_len, izr_len, zipOf, enumOf, ofOpt, bind_val, bind_exc, st_val, st_exc, seq_nx, seq_rt, seq_ex, seq_bk, seq_ct, List.map_cons, List.map_nil, List.cons_append, List.nil_append, List.replicate, List.length_cons, List.length_nil, List.length_append, List.length_map, List.length_set, List.getElem?_cons_zero, List.getElem?_cons_succ, List.getElem?_nil, List.set_cons_zero, List.set_cons_succ, lstAt, res, resD, truS, truth, app2, on1, on2, lstOnly, lenS, allD_nil, allD_cons, Option.map_some, Option.map_none, Option.bind_some, Option.bind_none, dAdd, dSub, dMul_ok, dMod_ok, dDiv_ok, dLt, dLe, dGt, dGe, dEq_i, dEq_s, dEq_b, dNe_i, dNe_s, dNe_b, dEq_ti, dNe_ti, dEq_li, dNe_li, dIs, dIsNot, nonD, dIn, dNotIn, dIx, atI_0, atI_1, atI_2, dTup, dInt, dMin, dMax, dSum, dAll, dAny, intsOf_map, bolsOf_map, intsOf_nil, intsOf_cons, dMin2, dMax2, dAbs, keySl, Z.keyOf, putS, lim, retN_d, getLast0, setLast0, takeLast0, takeLast1, List.take_succ_cons, List.take_zero, List.take_length, List.take_nil, decide_eq_true_eq, beq_iff_eq, if_true, if_false, Bool.not_true, Bool.not_false, Bool.not_eq_true', Bool.false_eq_true, Bool.true_eq_false, reduceIte, if_pos, if_neg, Nat.add_eq, List.isEmpty_cons, List.isEmpty_nil, Option.some.injEq, decide_true, decide_false, decide_eq_true, decide_eq_false, beq_self_eq_true, BEq.rfl, beq_eq_false_iff_ne, Nat.zero_add, Nat.reduceAdd, Int.toNat_natCast, Bool.not_eq_true, decide_eq_false_iff_not, bne_iff_ne, ne_eq, not_true_eq_false, not_false_eq_true, ea]
  refine ok_zlcM (hs.dropLast.zip hs.tail) (fun p => .tuple [.int p.1, .int p.2]) (fun p => .bool true) (by simp (disch := omega) only [wipeZ, forget, okE_val, okE_exc, okE_bind, okS_st, okS_seq, okS_nx, okS_rt, okS_bk, okS_ct, okS_ex, okE_ofOpt, zseq, zdrop, zapp, zset, zsetF, zifS, ztru, ztst, zop, zcb, zcf, zacons, zanil, zc, zv, znil, zret, zcall, zfz, znew, zneg, zos, zon, zsl, zslF, ztup, zlst, zand, zor, znot, zif, zpar, zpar3, zasg, gN, gT2, gT3, zdnew, zdput, zmt1, zcnt1, zandV, zorV, znotV, zchain, zfrz, zbrk, zcnt, zopF, zpop0, zlput, zdget, zdin, zdnin, zdget2, zisi, ziA, ziQ, itemsQ, ziL, ziT, itemsL, itemsT, rng1_ok, rng2_ok, izs_len, izr_len, zipOf, enumOf, ofOpt, bind_val, bind_exc, st_val, st_exc, seq_nx, seq_rt, seq_ex, seq_bk, seq_ct, List.map_cons, List.map_nil, List.cons_append, List.nil_append, List.replicate, List.length_cons, List.length_nil, List.length_append, List.length_map, List.length_set, List.getElem?_cons_zero, List.getElem?_cons_succ, List.getElem?_nil, List.set_cons_zero, List.set_cons_succ, lstAt, res, resD, truS, truth, app2, on1, on2, lstOnly, lenS, allD_nil, allD_cons, Option.map_some, Option.map_none, Option.bind_some, Option.bind_none, dAdd, dSub, dMul_ok, dMod_ok, dDiv_ok, dLt, dLe, dGt, dGe, dEq_i, dEq_s, dEq_b, dNe_i, dNe_s, dNe_b, dEq_ti, dNe_ti, dEq_li, dNe_li, dIs, dIsNot, nonD, dIn, dNotIn, dIx, atI_0, atI_1, atI_2, dTup, dInt, dMin, dMax, dSum, dAll, dAny, intsOf_map, bolsOf_map, intsOf_nil, intsOf_cons, dMin2, dMax2, dAbs, keySl, Z.keyOf, putS, lim, retN_d, getLast0, setLast0, takeLast0, takeLast1, List.take_succ_cons, List.take_zero, List.take_length, List.take_nil, decide_eq_true_eq, beq_iff_eq, if_true, if_false, Bool.not_true, Bool.not_false, Bool.not_eq_true', Bool.false_eq_true, Bool.true_eq_false, reduceIte, if_pos, if_neg, Nat.add_eq, List.isEmpty_cons, List.isEmpty_nil, Option.some.injEq, decide_true, decide_false, decide_eq_true, decide_eq_false, beq_self_eq_true, BEq.rfl, beq_eq_false_iff_ne, Nat.zero_add, Nat.reduceAdd, Int.toNat_natCast, Bool.not_eq_true, decide_eq_false_iff_not, bne_iff_ne, ne_eq, not_true_eq_false, not_false_eq_true, dSl, cut_init, cut_tail, ← List.map_dropLast, ← List.map_tail, zip_pairs]) (by simp; omega) (fun p hp => ⟨_, rfl, by
    have := pw_zip hd.lt p hp
    simp (disch := omega) only [wipeZ, forget, okE_val, okE_exc, okE_bind, okS_st, okS_seq, okS_nx, okS_rt, okS_bk, okS_ct, okS_ex, okE_ofOpt, zseq, zdrop, zapp, zset, zsetF, zifS, ztru, ztst, zop, zcb, zcf, zacons, zanil, zc, zv, znil, zret, zcall, zfz, znew, zneg, zos, zon, zsl, zslF, ztup, zlst, zand, zor, znot, zif, zpar, zpar3, zasg, gN, gT2, gT3, zdnew, zdput, zmt1, zcnt1, zandV, zorV, znotV, zchain, zfrz, zbrk, zcnt, zopF, zpop0, zlput, zdget, zdin, zdnin, zdget2, zisi, ziA, ziQ, itemsQ, ziL, ziT, itemsL, itemsT, rng1_ok, rng2_ok, izs_len, izr_len, zipOf, enumOf, ofOpt, bind_val, bind_exc, st_val, st_exc, seq_nx, seq_rt, seq_ex, seq_bk, seq_ct, List.map_cons, List.map_nil, List.cons_append, List.nil_append, List.replicate, List.length_cons, List.length_nil, List.length_append, List.length_map, List.length_set, List.getElem?_cons_zero, List.getElem?_cons_succ, List.getElem?_nil, List.set_cons_zero, List.set_cons_succ, lstAt, res, resD, truS, truth, app2, on1, on2, lstOnly, lenS, allD_nil, allD_cons, Option.map_some, Option.map_none, Option.bind_some, Option.bind_none, dAdd, dSub, dMul_ok, dMod_ok, dDiv_ok, dLt, dLe, dGt, dGe, dEq_i, dEq_s, dEq_b, dNe_i, dNe_s, dNe_b, dEq_ti, dNe_ti, dEq_li, dNe_li, dIs, dIsNot, nonD, dIn, dNotIn, dIx, atI_0, atI_1, atI_2, dTup, dInt, dMin, dMax, dSum, dAll, dAny, intsOf_map, bolsOf_map, intsOf_nil, intsOf_cons, dMin2, dMax2, dAbs, keySl, Z.keyOf, putS, lim, retN_d, getLast0, setLast0, takeLast0, takeLast1, List.take_succ_cons, List.take_zero, List.take_length, List.take_nil, decide_eq_true_eq, beq_iff_eq, if_true, if_false, Bool.not_true, Bool.not_false, Bool.not_eq_true', Bool.false_eq_true, Bool.true_eq_false, reduceIte, if_pos, if_neg, Nat.add_eq, List.isEmpty_cons, List.isEmpty_nil, Option.some.injEq, decide_true, decide_false, decide_eq_true, decide_eq_false, beq_self_eq_true, BEq.rfl, beq_eq_false_iff_ne, Nat.zero_add, Nat.reduceAdd, Int.toNat_natCast, Bool.not_eq_true, decide_eq_false_iff_not, bne_iff_ne, ne_eq, not_true_eq_false, not_false_eq_true, this]⟩) ?_
  have eb : ((hs.dropLast.zip hs.tail).map fun p => PyData.bool true) = ((hs.dropLast.zip hs.tail).map fun _ => true).map .bool := by simp
  have ea : (((hs.dropLast.zip hs.tail).map fun _ => true).all id) = true := by simp
  rw [eb]
  try simp (disch := omega) only [wipeZ, forget, okE_val, okE_exc, okE_bind, okS_st, okS_seq, okS_nx, okS_rt, okS_bk, okS_ct, okS_ex, okE_ofOpt, zdrop, zapp, zset, zsetF, zifS, ztru, ztst, zop, zcb, zcf, zacons, zanil, zc, zv, znil, zret, zcall, zfz, znew, zneg, zos, zon, zsl, zslF, ztup, zlst, zand, zor, znot, zif, zpar, zpar3, zasg, gN, gT2, gT3, zdnew, zdput, zmt1, zcnt1, zandV, zorV, znotV, zchain, zfrz, zbrk, zcnt, zopF, zpop0, zlput, zdget, zdin, zdnin, zdget2, zisi, ziA, ziQ, itemsQ, ziL, ziT, itemsL, itemsT, rng1_ok, rng2_ok, izs_len, izr_len, zipOf, enumOf, ofOpt, bind_val, bind_exc, st_val, st_exc, seq_nx, seq_rt, seq_ex, seq_bk, seq_ct, List.map_cons, List.map_nil, List.cons_append, List.nil_append, List.replicate, List.length_cons, List.length_nil, List.length_append, List.length_map, List.length_set, List.getElem?_cons_zero, List.getElem?_cons_succ, List.getElem?_nil, List.set_cons_zero, List.set_cons_succ, lstAt, res, resD, truS, truth, app2, on1, on2, lstOnly, lenS, allD_nil, allD_cons, Option.map_some, Option.map_none, Option.bind_some, Option.bind_none, dAdd, dSub, dMul_ok, dMod_ok, dDiv_ok, dLt, dLe, dGt, dGe, dEq_i, dEq_s, dEq_b, dNe_i, dNe_s, dNe_b, dEq_ti, dNe_ti, dEq_li, dNe_li, dIs, dIsNot, nonD, dIn, dNotIn, dIx, atI_0, atI_1, atI_2, dTup, dInt, dMin, dMax, dSum, dAll, dAny, intsOf_map, bolsOf_map, intsOf_nil, intsOf_cons, dMin2, dMax2, dAbs, keySl, Z.keyOf, putS, lim, retN_d, getLast0, setLast0, takeLast0, takeLast1, List.take_succ_cons, List.take_zero, List.take_length, List.take_nil, decide_eq_true_eq, beq_iff_eq, if_true, if_false, Bool.not_true, Bool.not_false, Bool.not_eq_true', Bool.false_eq_true, Bool.true_eq_false, reduceIte, if_pos, if_neg, Nat.add_eq, List.isEmpty_cons, List.isEmpty_nil, Option.some.injEq, decide_true, decide_false, decide_eq_true, decide_eq_false, beq_self_eq_true, BEq.rfl, beq_eq_false_iff_ne, Nat.zero_add, Nat.reduceAdd, Int.toNat_natCast, Bool.not_eq_true, decide_eq_false_iff_not, bne_iff_ne, ne_eq, not_true_eq_false, not_false_eq_true, ea, and_self]
/-! ### drums turned -/
theorem minI_perm {a b : List Int} (h : a.Perm b) : minI a = minI b := by
  cases a with
  | nil => rw [List.nil_perm.mp h]
  | cons x r =>
    obtain ⟨m, e⟩ := minI_ex (l := x :: r) (by simp)
    obtain ⟨h1, h2⟩ := minI_iff e
    rw [e, minI_eq (h.mem_iff.mp h1) fun y hy => h2 y (h.mem_iff.mpr hy)]
theorem rt_perm {n : Int} {hs hs' : List Int} {s t : Int} (h : hs.Perm hs') : rt n hs s t = rt n hs' s t := by
  unfold rt
  rw [minI_perm (h.map _)]
theorem rt_map {n : Int} {hs : List Int} {s t s' t' : Int} (f : Int → Int) (hne : hs ≠ []) (h : ∀ x ∈ hs, (s' - f x - t') % n = (s - x - t) % n) : rt n (hs.map f) s' t' = rt n hs s t + (t' - t) := by
  unfold rt
  rw [List.map_map]
  have e : (hs.map ((fun h => t' + (s' - h - t') % n) ∘ f)) = hs.map fun x => (t' - t) + (t + (s - x - t) % n) := List.map_congr_left fun x hx => by
    show t' + (s' - f x - t') % n = _
    rw [h x hx]
    omega
  rw [e, minI_add (f := fun x => t + (s - x - t) % n) hs hne, rt_eq hne]
  show (t' - t) + rt n hs s t = rt n hs s t + (t' - t)
  omega
theorem rt_same {n : Int} {hs : List Int} {s t s' t' : Int} (hne : hs ≠ []) (h : ∀ x ∈ hs, (s' - x - t') % n = (s - x - t) % n) : rt n hs s' t' = rt n hs s t + (t' - t) := by
  have := rt_map (s := s) (t := t) (s' := s') (t' := t') (n := n) (fun x => x) hne h
  rwa [List.map_id'] at this
theorem emod_inj2 {n x y : Int} (h1 : 0 ≤ x ∧ x < n) (h2 : 0 ≤ y ∧ y < n) {c : Int} (h : (x + c) % n = (y + c) % n) : x = y := by
  refine emod_inj (c := 0) h1 h2 ?_
  have e := Int.emod_eq_emod_iff_emod_sub_eq_zero.mp h.symm
  refine Int.emod_eq_emod_iff_emod_sub_eq_zero.mpr ?_
  have e2 : 0 - x - (0 - y) = y + c - (x + c) := by omega
  rw [e2]
  exact e
theorem turned_drum {n : Int} {hs : List Int} {by_ : Int} (hd : IsDrum n hs) : IsDrum n (isort (hs.map fun h => (h + by_) % n)) := by
  have hn : 0 < n := by
    obtain ⟨x, hx⟩ := List.exists_mem_of_ne_nil _ hd.ne
    have := hd.rg x hx
    omega
  refine ⟨fun z => ?_, isort_lt (List.pairwise_map.mpr (List.Pairwise.imp_of_mem (fun {x y} hx hy h => ?_) hd.lt)), fun x hx => ?_⟩
  · have := isort_len (ks := hs.map fun h => (h + by_) % n)
    rw [z] at this
    simp at this
    exact hd.ne (List.length_eq_zero_iff.mp this.symm)
  · intro z
    have := emod_inj2 (hd.rg x hx) (hd.rg y hy) z
    omega
  · obtain ⟨h, _, rfl⟩ := List.mem_map.mp (isort_mem.mp hx)
    exact mod_le hn
end Zc
end
section
set_option Elab.async false
set_option linter.all false
set_option maxRecDepth 100000
set_option autoImplicit false
set_option maxHeartbeats 2000000
namespace Zc
open PySem Z
open L2 (atI)
/-! ### programs as data -/
inductive Cell where
  | w (n : Int)
  | o (k : Str) (as : List Str)
  deriving DecidableEq
abbrev Prog := List (Str × Cell)
abbrev Lay := List (Str × Int)
def dCell : Cell → PyData
  | .w n => .int n
  | .o k as => .tuple (.str k :: as.map .str)
def dRow (c : Str × Cell) : PyData := .tuple [.str c.1, dCell c.2]
def dProg (p : Prog) : PyData := .tuple (p.map dRow)
def dSpot (c : Str × Int) : PyData := .tuple [.str c.1, .int c.2]
def dLay (l : Lay) : PyData := .tuple (l.map dSpot)
def isO : Cell → Bool
  | .w _ => false
  | .o _ _ => true
def isW : Cell → Bool
  | .w _ => true
  | .o _ _ => false
def nms (p : Prog) : List Str := p.map (·.1)
def ords (p : Prog) : List Str := (p.filter fun c => isO c.2).map (·.1)
def wrds (p : Prog) : List Str := (p.filter fun c => isW c.2).map (·.1)
/-! ### looking up -/
def lk {α : Type} (p : List (Str × α)) (x : Str) : Option α := (p.find? fun c => decide (c.1 = x)).map (·.2)
def kv {α : Type} (f : α → PyData) (p : List (Str × α)) : List (L2.Key × PyData) := p.map fun c => (Sum.inr c.1, f c.2)
theorem lk_nil {α : Type} {x : Str} : lk ([] : List (Str × α)) x = none := rfl
theorem lk_cons {α : Type} {p : List (Str × α)} {y x : Str} {v : α} : lk ((y, v) :: p) x = if y = x then some v else lk p x := by
  unfold lk
  rw [List.find?_cons]
  by_cases h : y = x
  · rw [if_pos h]
    simp [h]
  · rw [if_neg h]
    simp [h]
theorem val_kv {α : Type} {f : α → PyData} {x : Str} : ∀ {p : List (Str × α)}, valD (kv f p) (.inr x) = (lk p x).map f
  | [] => rfl
  | (y, v) :: p => by
    rw [lk_cons]
    unfold valD kv
    rw [List.map_cons, List.find?_cons]
    by_cases h : y = x
    · rw [if_pos h]
      simp [h]
    · rw [if_neg h]
      have h2 : ¬ ((Sum.inr y : L2.Key) = Sum.inr x) := fun e => h (Sum.inr.inj e)
      simp only [h2, decide_false]
      exact val_kv
theorem lk_mem {α : Type} {x : Str} {v : α} : ∀ {p : List (Str × α)}, lk p x = some v → (x, v) ∈ p
  | [], h => by cases h
  | (y, u) :: p, h => by
    rw [lk_cons] at h
    split at h
    · rename_i e
      cases h
      rw [e]
      exact List.mem_cons_self
    · exact List.mem_cons_of_mem _ (lk_mem h)
theorem lk_some {α : Type} {x : Str} : ∀ {p : List (Str × α)}, x ∈ p.map (·.1) → ∃ v, lk p x = some v
  | [], h => by simp at h
  | (y, u) :: p, h => by
    rw [lk_cons]
    by_cases e : y = x
    · exact ⟨u, if_pos e⟩
    · rw [if_neg e]
      refine lk_some ?_
      rw [List.map_cons] at h
      rcases List.mem_cons.mp h with q | q
      · exact absurd q.symm e
      · exact q
theorem lk_name {α : Type} {x : Str} {v : α} {p : List (Str × α)} (h : lk p x = some v) : x ∈ p.map (·.1) := List.mem_map.mpr ⟨_, lk_mem h, rfl⟩
theorem lk_of_mem {α : Type} {x : Str} {v : α} : ∀ {p : List (Str × α)}, (p.map (·.1)).Nodup → (x, v) ∈ p → lk p x = some v
  | (y, u) :: p, nd, h => by
    rw [List.map_cons] at nd
    obtain ⟨n1, n2⟩ := List.nodup_cons.mp nd
    rw [lk_cons]
    rcases List.mem_cons.mp h with e | e
    · cases e
      exact if_pos rfl
    · rw [if_neg, lk_of_mem n2 e]
      rintro rfl
      exact n1 (List.mem_map.mpr ⟨_, e, rfl⟩)
theorem any_kv {α : Type} {f : α → PyData} {x : Str} {p : List (Str × α)} : ((kv f p).any fun c => decide (c.1 = .inr x)) = (lk p x).isSome := by
  have h := val_kv (f := f) (x := x) (p := p)
  unfold valD at h
  have e : ((kv f p).any fun c => decide (c.1 = .inr x)) = ((kv f p).find? fun c => decide (c.1 = .inr x)).isSome := by
    rw [Bool.eq_iff_iff, List.any_eq_true, List.find?_isSome]
  rw [e]
  cases q : lk p x with
  | none => rw [q] at h; cases q2 : (kv f p).find? fun c => decide (c.1 = .inr x) with
    | none => rfl
    | some y => rw [q2] at h; cases h
  | some v => rw [q] at h; cases q2 : (kv f p).find? fun c => decide (c.1 = .inr x) with
    | none => rw [q2] at h; cases h
    | some y => rfl
def setC {α : Type} (p : List (Str × α)) (x : Str) (v : α) : List (Str × α) := p.map fun c => if c.1 = x then (c.1, v) else c
theorem put_kv {α : Type} {f : α → PyData} {p : List (Str × α)} {x : Str} {v : α} (h : x ∈ p.map (·.1)) : putD (kv f p) (.inr x) (f v) = kv f (setC p x v) := by
  obtain ⟨u, e⟩ := lk_some h
  unfold putD
  rw [if_pos (by rw [any_kv, e]; rfl)]
  unfold kv setC
  rw [List.map_map, List.map_map]
  refine List.map_congr_left fun c _ => ?_
  show (if (Sum.inr c.1 : L2.Key) = Sum.inr x then (Sum.inr c.1, f v) else (Sum.inr c.1, f c.2)) = _
  by_cases q : c.1 = x
  · rw [if_pos (by rw [q])]
    simp [q]
  · rw [if_neg (fun z => q (Sum.inr.inj z))]
    simp [q]
theorem put_new {α : Type} {f : α → PyData} {p : List (Str × α)} {x : Str} {v : α} (h : x ∉ p.map (·.1)) : putD (kv f p) (.inr x) (f v) = kv f (p ++ [(x, v)]) := by
  unfold putD
  rw [if_neg]
  · simp [kv]
  · rw [any_kv]
    cases q : lk p x with
    | none => simp
    | some u => exact absurd (lk_name q) h
theorem setC_nms {α : Type} {p : List (Str × α)} {x : Str} {v : α} : (setC p x v).map (·.1) = p.map (·.1) := by
  unfold setC
  rw [List.map_map]
  refine List.map_congr_left fun c _ => ?_
  show (if c.1 = x then (c.1, v) else c).1 = c.1
  split <;> rfl
theorem lk_setC {α : Type} {x y : Str} {v : α} : ∀ {p : List (Str × α)}, lk (setC p x v) y = if y = x then (lk p y).map (fun _ => v) else lk p y
  | [] => by simp [setC, lk_nil]
  | (z, u) :: p => by
    have ih := lk_setC (x := x) (y := y) (v := v) (p := p)
    unfold setC at ih ⊢
    rw [List.map_cons]
    by_cases q : z = x
    · rw [show (if (z, u).1 = x then ((z, u).1, v) else (z, u)) = (z, v) from if_pos q, lk_cons, lk_cons, ih]
      by_cases q2 : z = y
      · rw [if_pos q2, if_pos q2, if_pos (q2.symm.trans q)]
        rfl
      · rw [if_neg q2, if_neg q2]
    · rw [show (if (z, u).1 = x then ((z, u).1, v) else (z, u)) = (z, u) from if_neg q, lk_cons, lk_cons, ih]
      by_cases q2 : z = y
      · rw [if_pos q2, if_pos q2, if_neg (fun e => q (q2.trans e))]
      · rw [if_neg q2, if_neg q2]
/-! ### dict(program), dict(laying) -/
theorem merge_kv {α : Type} {f : α → PyData} : ∀ {more acc : List (Str × α)}, ((acc ++ more).map (·.1)).Nodup → mergeD (kv f acc) (kv f more) = kv f (acc ++ more)
  | [], acc, _ => by simp [mergeD, kv]
  | (x, v) :: r, acc, nd => by
    have hx : x ∉ acc.map (·.1) := by
      intro z
      rw [List.map_append] at nd
      exact (List.nodup_append.mp nd).2.2 x z x (by simp) rfl
    have e : mergeD (kv f acc) (kv f ((x, v) :: r)) = mergeD (putD (kv f acc) (.inr x) (f v)) (kv f r) := rfl
    rw [e, put_new hx, merge_kv (by simpa using nd)]
    simp
theorem pairs_kv {α : Type} {f : α → PyData} : ∀ {p : List (Str × α)}, pairsOf (p.map fun c => .tuple [.str c.1, f c.2]) = some (kv f p)
  | [] => rfl
  | c :: p => by
    rw [List.map_cons, pairsOf, pairs_kv]
    rfl
theorem bDic_prog {p : Prog} (nd : (p.map (·.1)).Nodup) : bDic (dProg p) = some (.dic (kv dCell p)) := by
  have e : pairsOf (p.map dRow) = some (kv dCell p) := pairs_kv
  unfold dProg bDic
  dsimp only
  rw [e]
  show some (Box.dic (mergeD (kv dCell []) (kv dCell p))) = _
  rw [merge_kv (by simpa using nd), List.nil_append]
theorem bDic_lay {p : Lay} (nd : (p.map (·.1)).Nodup) : bDic (dLay p) = some (.dic (kv PyData.int p)) := by
  have e : pairsOf (p.map dSpot) = some (kv PyData.int p) := pairs_kv
  unfold dLay bDic
  dsimp only
  rw [e]
  show some (Box.dic (mergeD (kv PyData.int []) (kv PyData.int p))) = _
  rw [merge_kv (by simpa using nd), List.nil_append]
end Zc
end
section
set_option Elab.async false
set_option linter.all false
set_option maxRecDepth 100000
set_option autoImplicit false
set_option maxHeartbeats 2000000
namespace Z
open PySem
theorem lc_gen {α : Type} {g : ZG} {zt : ZT} {ze : ZE} {Γ0 : Env1} {S : Sto} (j : α → PyData) (p : α → Bool) (f : α → PyData) : ∀ (xs : List α) (acc : List PyData), (∀ x ∈ xs, ∃ Γ1, g (j x) Γ0 = some Γ1 ∧ zt Γ1 S = .val (p x) S ∧ (p x = true → ze Γ1 S = .val (.d (f x)) S)) → acc.length + xs.length ≤ 1000000 →
    lcGo (lcOne S.length g zt ze Γ0) (xs.map j) acc S = .val (acc ++ (xs.filter p).map f) S
  | [], acc, _, _ => by simp [lcGo]
  | x :: xs, acc, h, hl => by
    simp only [List.length_cons] at hl
    obtain ⟨Γ1, e1, e2, e3⟩ := h x List.mem_cons_self
    rw [List.map_cons, lcGo]
    cases q : p x with
    | false =>
      have e : lcOne S.length g zt ze Γ0 (j x) S = .val none S := by
        unfold lcOne
        rw [e1]
        dsimp only
        rw [e2, q]
        dsimp only
        rw [List.take_length]
      rw [e, bind_val]
      dsimp only
      rw [lc_gen j p f xs acc (fun y hy => h y (List.mem_cons_of_mem _ hy)) (by omega), List.filter_cons_of_neg (by simp [q])]
    | true =>
      have e : lcOne S.length g zt ze Γ0 (j x) S = .val (some (f x)) S := by
        unfold lcOne
        rw [e1]
        dsimp only
        rw [e2, q]
        dsimp only
        rw [e3 q]
        dsimp only
        rw [List.take_length]
      rw [e, bind_val]
      dsimp only
      rw [if_pos (show acc.length < 1000000 by omega), lc_gen j p f xs (acc ++ [f x]) (fun y hy => h y (List.mem_cons_of_mem _ hy)) (by simp; omega), List.filter_cons_of_pos (by simp [q])]
      simp
/-- a comprehension whose items are told -/
theorem zlc_eq {α : Type} {zi : ZI} {g : ZG} {zt : ZT} {ze : ZE} {vs : List Nat} {Γ : Env1} {S : Sto} (xs : List α) (j : α → PyData) (p : α → Bool) (f : α → PyData) (hz : zi Γ S = .val (xs.map j) S) (hl : xs.length ≤ 1000000)
    (h : ∀ x ∈ xs, ∃ Γ1, g (j x) (wipeZ Γ vs) = some Γ1 ∧ zt Γ1 S = .val (p x) S ∧ (p x = true → ze Γ1 S = .val (.d (f x)) S)) : zlc zi g zt ze vs Γ S = .val (.lst ((xs.filter p).map f)) S := by
  unfold zlc
  rw [hz, bind_val, lc_gen j p f xs [] h (by simpa using hl)]
  rfl
theorem zlc_eqT {α : Type} {zi : ZI} {g : ZG} {ze : ZE} {vs : List Nat} {Γ : Env1} {S : Sto} (xs : List α) (j : α → PyData) (f : α → PyData) (hz : zi Γ S = .val (xs.map j) S) (hl : xs.length ≤ 1000000)
    (h : ∀ x ∈ xs, ∃ Γ1, g (j x) (wipeZ Γ vs) = some Γ1 ∧ ze Γ1 S = .val (.d (f x)) S) : zlc zi g ztrue ze vs Γ S = .val (.lst (xs.map f)) S := by
  rw [zlc_eq (zt := ztrue) xs j (fun _ => true) f hz hl fun x hx => let ⟨Γ1, a, b⟩ := h x hx; ⟨Γ1, a, rfl, fun _ => b⟩, List.filter_eq_self.mpr (fun _ _ => rfl)]
end Z
namespace Zc
open PySem Z
open L2 (atI)
theorem tup_shape {c : Cell} : (match dCell c with | .tuple _ => true | _ => false) = isO c := by cases c <;> rfl
theorem isi_tup {c : Cell} {i : Nat} {Γ : Env1} {S : Sto} (h : Γ[i]? = some (some (.d (dCell c)))) : ztru (zisi "tuple" (zv i)) Γ S = .val (isO c) S := by
  cases c with
  | w n => simp [ztru, zisi, zv, h, Out.bind, res, dCell, tyN, isOf, truS, truth, ofOpt, isO]
  | o k as => simp [ztru, zisi, zv, h, Out.bind, res, dCell, tyN, isOf, truS, truth, ofOpt, isO]
theorem isi_int {c : Cell} {i : Nat} {Γ : Env1} {S : Sto} (h : Γ[i]? = some (some (.d (dCell c)))) : ztru (zisi "int" (zv i)) Γ S = .val (isW c) S := by
  cases c with
  | w n => simp [ztru, zisi, zv, h, Out.bind, res, dCell, tyN, isOf, truS, truth, ofOpt, isW]
  | o k as => simp [ztru, zisi, zv, h, Out.bind, res, dCell, tyN, isOf, truS, truth, ofOpt, isW]
def dStrs (l : List Str) : List PyData := l.map .str
theorem names_ok {p : Prog} {S : Sto} (hl : p.length ≤ 1000) : F_names [.d (dProg p)] S = .val (.d (.tuple (dStrs (nms p)))) S := by
  refine zdef_val rfl (S1 := S) ?_ List.take_length
  unfold z_names
  have e := zlc_eqT (zi := ziQ (zv 0)) (g := gT2 (gN 1) (gN 2)) (ze := zv 1) (vs := [1, 2]) (Γ := [some (.d (dProg p)), none, none]) (S := S) p dRow (fun c => .str c.1) rfl (by omega) (fun c _ => ⟨_, rfl, rfl⟩)
  simp (disch := omega) only [wipeZ, forget, okE_val, okE_exc, okE_bind, okS_st, okS_seq, okS_nx, okS_rt, okS_bk, okS_ct, okS_ex, okE_ofOpt, zseq, zdrop, zapp, zset, zsetF, zifS, ztru, ztst, zop, zcb, zcf, zacons, zanil, zc, zv, znil, zret, zcall, zfz, znew, zneg, zos, zon, zsl, zslF, ztup, zlst, zand, zor, znot, zif, zpar, zpar3, zasg, gN, gT2, gT3, zdnew, zdput, zmt1, zcnt1, zandV, zorV, znotV, zchain, zfrz, zbrk, zcnt, zopF, zpop0, zlput, zdget, zdin, zdnin, zdget2, zisi, ziA, ziQ, itemsQ, ziL, ziT, itemsL, itemsT, rng1_ok, rng2_ok, izs_len, izr_len, zipOf, enumOf, ofOpt, bind_val, bind_exc, st_val, st_exc, seq_nx, seq_rt, seq_ex, seq_bk, seq_ct, List.map_cons, List.map_nil, List.cons_append, List.nil_append, List.replicate, List.length_cons, List.length_nil, List.length_append, List.length_map, List.length_set, List.getElem?_cons_zero, List.getElem?_cons_succ, List.getElem?_nil, List.set_cons_zero, List.set_cons_succ, lstAt, res, resD, truS, truth, app2, on1, on2, lstOnly, lenS, allD_nil, allD_cons, Option.map_some, Option.map_none, Option.bind_some, Option.bind_none, dAdd, dSub, dMul_ok, dMod_ok, dDiv_ok, dLt, dLe, dGt, dGe, dEq_i, dEq_s, dEq_b, dNe_i, dNe_s, dNe_b, dEq_ti, dNe_ti, dEq_li, dNe_li, dIs, dIsNot, nonD, dIn, dNotIn, dIx, atI_0, atI_1, atI_2, dTup, dInt, dMin, dMax, dSum, dAll, dAny, intsOf_map, bolsOf_map, intsOf_nil, intsOf_cons, dMin2, dMax2, dAbs, keySl, Z.keyOf, putS, lim, retN_d, getLast0, setLast0, takeLast0, takeLast1, List.take_succ_cons, List.take_zero, List.take_length, List.take_nil, decide_eq_true_eq, beq_iff_eq, if_true, if_false, Bool.not_true, Bool.not_false, Bool.not_eq_true', Bool.false_eq_true, Bool.true_eq_false, reduceIte, if_pos, if_neg, Nat.add_eq, List.isEmpty_cons, List.isEmpty_nil, Option.some.injEq, decide_true, decide_false, decide_eq_true, decide_eq_false, beq_self_eq_true, BEq.rfl, beq_eq_false_iff_ne, Nat.zero_add, Nat.reduceAdd, Int.toNat_natCast, Bool.not_eq_true, decide_eq_false_iff_not, bne_iff_ne, ne_eq, not_true_eq_false, not_false_eq_true, e]
  simp [dStrs, nms]
theorem orders_ok {p : Prog} {S : Sto} (hl : p.length ≤ 1000) : F_orders [.d (dProg p)] S = .val (.d (.tuple (dStrs (ords p)))) S := by
  refine zdef_val rfl (S1 := S) ?_ List.take_length
  unfold z_orders
  have e := zlc_eq (zi := ziQ (zv 0)) (g := gT2 (gN 1) (gN 2)) (zt := ztru (zisi "tuple" (zv 2))) (ze := zv 1) (vs := [1, 2]) (Γ := [some (.d (dProg p)), none, none]) (S := S) p dRow (fun c => isO c.2) (fun c => .str c.1) rfl (by omega) (fun c _ => ⟨_, rfl, isi_tup rfl, fun _ => rfl⟩)
  simp (disch := omega) only [wipeZ, forget, okE_val, okE_exc, okE_bind, okS_st, okS_seq, okS_nx, okS_rt, okS_bk, okS_ct, okS_ex, okE_ofOpt, zseq, zdrop, zapp, zset, zsetF, zifS, ztru, ztst, zop, zcb, zcf, zacons, zanil, zc, zv, znil, zret, zcall, zfz, znew, zneg, zos, zon, zsl, zslF, ztup, zlst, zand, zor, znot, zif, zpar, zpar3, zasg, gN, gT2, gT3, zdnew, zdput, zmt1, zcnt1, zandV, zorV, znotV, zchain, zfrz, zbrk, zcnt, zopF, zpop0, zlput, zdget, zdin, zdnin, zdget2, zisi, ziA, ziQ, itemsQ, ziL, ziT, itemsL, itemsT, rng1_ok, rng2_ok, izs_len, izr_len, zipOf, enumOf, ofOpt, bind_val, bind_exc, st_val, st_exc, seq_nx, seq_rt, seq_ex, seq_bk, seq_ct, List.map_cons, List.map_nil, List.cons_append, List.nil_append, List.replicate, List.length_cons, List.length_nil, List.length_append, List.length_map, List.length_set, List.getElem?_cons_zero, List.getElem?_cons_succ, List.getElem?_nil, List.set_cons_zero, List.set_cons_succ, lstAt, res, resD, truS, truth, app2, on1, on2, lstOnly, lenS, allD_nil, allD_cons, Option.map_some, Option.map_none, Option.bind_some, Option.bind_none, dAdd, dSub, dMul_ok, dMod_ok, dDiv_ok, dLt, dLe, dGt, dGe, dEq_i, dEq_s, dEq_b, dNe_i, dNe_s, dNe_b, dEq_ti, dNe_ti, dEq_li, dNe_li, dIs, dIsNot, nonD, dIn, dNotIn, dIx, atI_0, atI_1, atI_2, dTup, dInt, dMin, dMax, dSum, dAll, dAny, intsOf_map, bolsOf_map, intsOf_nil, intsOf_cons, dMin2, dMax2, dAbs, keySl, Z.keyOf, putS, lim, retN_d, getLast0, setLast0, takeLast0, takeLast1, List.take_succ_cons, List.take_zero, List.take_length, List.take_nil, decide_eq_true_eq, beq_iff_eq, if_true, if_false, Bool.not_true, Bool.not_false, Bool.not_eq_true', Bool.false_eq_true, Bool.true_eq_false, reduceIte, if_pos, if_neg, Nat.add_eq, List.isEmpty_cons, List.isEmpty_nil, Option.some.injEq, decide_true, decide_false, decide_eq_true, decide_eq_false, beq_self_eq_true, BEq.rfl, beq_eq_false_iff_ne, Nat.zero_add, Nat.reduceAdd, Int.toNat_natCast, Bool.not_eq_true, decide_eq_false_iff_not, bne_iff_ne, ne_eq, not_true_eq_false, not_false_eq_true, e]
  simp [dStrs, ords]
theorem words_ok {p : Prog} {S : Sto} (hl : p.length ≤ 1000) : F_words [.d (dProg p)] S = .val (.d (.tuple (dStrs (wrds p)))) S := by
  refine zdef_val rfl (S1 := S) ?_ List.take_length
  unfold z_words
  have e := zlc_eq (zi := ziQ (zv 0)) (g := gT2 (gN 1) (gN 2)) (zt := ztru (zisi "int" (zv 2))) (ze := zv 1) (vs := [1, 2]) (Γ := [some (.d (dProg p)), none, none]) (S := S) p dRow (fun c => isW c.2) (fun c => .str c.1) rfl (by omega) (fun c _ => ⟨_, rfl, isi_int rfl, fun _ => rfl⟩)
  simp (disch := omega) only [wipeZ, forget, okE_val, okE_exc, okE_bind, okS_st, okS_seq, okS_nx, okS_rt, okS_bk, okS_ct, okS_ex, okE_ofOpt, zseq, zdrop, zapp, zset, zsetF, zifS, ztru, ztst, zop, zcb, zcf, zacons, zanil, zc, zv, znil, zret, zcall, zfz, znew, zneg, zos, zon, zsl, zslF, ztup, zlst, zand, zor, znot, zif, zpar, zpar3, zasg, gN, gT2, gT3, zdnew, zdput, zmt1, zcnt1, zandV, zorV, znotV, zchain, zfrz, zbrk, zcnt, zopF, zpop0, zlput, zdget, zdin, zdnin, zdget2, zisi, ziA, ziQ, itemsQ, ziL, ziT, itemsL, itemsT, rng1_ok, rng2_ok, izs_len, izr_len, zipOf, enumOf, ofOpt, bind_val, bind_exc, st_val, st_exc, seq_nx, seq_rt, seq_ex, seq_bk, seq_ct, List.map_cons, List.map_nil, List.cons_append, List.nil_append, List.replicate, List.length_cons, List.length_nil, List.length_append, List.length_map, List.length_set, List.getElem?_cons_zero, List.getElem?_cons_succ, List.getElem?_nil, List.set_cons_zero, List.set_cons_succ, lstAt, res, resD, truS, truth, app2, on1, on2, lstOnly, lenS, allD_nil, allD_cons, Option.map_some, Option.map_none, Option.bind_some, Option.bind_none, dAdd, dSub, dMul_ok, dMod_ok, dDiv_ok, dLt, dLe, dGt, dGe, dEq_i, dEq_s, dEq_b, dNe_i, dNe_s, dNe_b, dEq_ti, dNe_ti, dEq_li, dNe_li, dIs, dIsNot, nonD, dIn, dNotIn, dIx, atI_0, atI_1, atI_2, dTup, dInt, dMin, dMax, dSum, dAll, dAny, intsOf_map, bolsOf_map, intsOf_nil, intsOf_cons, dMin2, dMax2, dAbs, keySl, Z.keyOf, putS, lim, retN_d, getLast0, setLast0, takeLast0, takeLast1, List.take_succ_cons, List.take_zero, List.take_length, List.take_nil, decide_eq_true_eq, beq_iff_eq, if_true, if_false, Bool.not_true, Bool.not_false, Bool.not_eq_true', Bool.false_eq_true, Bool.true_eq_false, reduceIte, if_pos, if_neg, Nat.add_eq, List.isEmpty_cons, List.isEmpty_nil, Option.some.injEq, decide_true, decide_false, decide_eq_true, decide_eq_false, beq_self_eq_true, BEq.rfl, beq_eq_false_iff_ne, Nat.zero_add, Nat.reduceAdd, Int.toNat_natCast, Bool.not_eq_true, decide_eq_false_iff_not, bne_iff_ne, ne_eq, not_true_eq_false, not_false_eq_true, e]
  simp [dStrs, wrds]
theorem law_orders_ok {p : Prog} {S : Sto} (hl : p.length ≤ 1000) : F__law_orders [.d (dProg p)] S = .val (.d (.list (dStrs (ords p)))) S := by
  refine zdef_val rfl (S1 := S) ?_ List.take_length
  unfold z__law_orders
  have e := zlc_eq (zi := ziQ (zv 0)) (g := gT2 (gN 1) (gN 2)) (zt := ztru (zisi "tuple" (zv 2))) (ze := zv 1) (vs := [1, 2]) (Γ := [some (.d (dProg p)), none, none]) (S := S) p dRow (fun c => isO c.2) (fun c => .str c.1) rfl (by omega) (fun c _ => ⟨_, rfl, isi_tup rfl, fun _ => rfl⟩)
  simp (disch := omega) only [wipeZ, forget, okE_val, okE_exc, okE_bind, okS_st, okS_seq, okS_nx, okS_rt, okS_bk, okS_ct, okS_ex, okE_ofOpt, zseq, zdrop, zapp, zset, zsetF, zifS, ztru, ztst, zop, zcb, zcf, zacons, zanil, zc, zv, znil, zret, zcall, zfz, znew, zneg, zos, zon, zsl, zslF, ztup, zlst, zand, zor, znot, zif, zpar, zpar3, zasg, gN, gT2, gT3, zdnew, zdput, zmt1, zcnt1, zandV, zorV, znotV, zchain, zfrz, zbrk, zcnt, zopF, zpop0, zlput, zdget, zdin, zdnin, zdget2, zisi, ziA, ziQ, itemsQ, ziL, ziT, itemsL, itemsT, rng1_ok, rng2_ok, izs_len, izr_len, zipOf, enumOf, ofOpt, bind_val, bind_exc, st_val, st_exc, seq_nx, seq_rt, seq_ex, seq_bk, seq_ct, List.map_cons, List.map_nil, List.cons_append, List.nil_append, List.replicate, List.length_cons, List.length_nil, List.length_append, List.length_map, List.length_set, List.getElem?_cons_zero, List.getElem?_cons_succ, List.getElem?_nil, List.set_cons_zero, List.set_cons_succ, lstAt, res, resD, truS, truth, app2, on1, on2, lstOnly, lenS, allD_nil, allD_cons, Option.map_some, Option.map_none, Option.bind_some, Option.bind_none, dAdd, dSub, dMul_ok, dMod_ok, dDiv_ok, dLt, dLe, dGt, dGe, dEq_i, dEq_s, dEq_b, dNe_i, dNe_s, dNe_b, dEq_ti, dNe_ti, dEq_li, dNe_li, dIs, dIsNot, nonD, dIn, dNotIn, dIx, atI_0, atI_1, atI_2, dTup, dInt, dMin, dMax, dSum, dAll, dAny, intsOf_map, bolsOf_map, intsOf_nil, intsOf_cons, dMin2, dMax2, dAbs, keySl, Z.keyOf, putS, lim, retN_d, getLast0, setLast0, takeLast0, takeLast1, List.take_succ_cons, List.take_zero, List.take_length, List.take_nil, decide_eq_true_eq, beq_iff_eq, if_true, if_false, Bool.not_true, Bool.not_false, Bool.not_eq_true', Bool.false_eq_true, Bool.true_eq_false, reduceIte, if_pos, if_neg, Nat.add_eq, List.isEmpty_cons, List.isEmpty_nil, Option.some.injEq, decide_true, decide_false, decide_eq_true, decide_eq_false, beq_self_eq_true, BEq.rfl, beq_eq_false_iff_ne, Nat.zero_add, Nat.reduceAdd, Int.toNat_natCast, Bool.not_eq_true, decide_eq_false_iff_not, bne_iff_ne, ne_eq, not_true_eq_false, not_false_eq_true, e]
  simp [dStrs, ords]
theorem eqv_str {x y : Str} : PyData.eqv (.str x) (.str y) = decide (x = y) := by
  apply Bool.eq_iff_iff.mpr
  simp [PyData.eqv]
theorem isIn_strs {x : Str} {xs : List Str} : isIn (.str x) (dStrs xs) = decide (x ∈ xs) := by
  unfold isIn dStrs
  rw [List.any_map]
  apply Bool.eq_iff_iff.mpr
  rw [List.any_eq_true, decide_eq_true_eq]
  constructor
  · rintro ⟨y, hy, e⟩
    have e : PyData.eqv (.str y) (.str x) = true := e
    rw [eqv_str, decide_eq_true_eq] at e
    exact e ▸ hy
  · intro hx
    refine ⟨x, hx, ?_⟩
    show PyData.eqv (.str x) (.str x) = true
    rw [eqv_str, decide_eq_true_eq]
theorem memS_tup {x : Str} {xs : List Str} : memD (.str x) (.tuple (dStrs xs)) = some (decide (x ∈ xs)) := by
  unfold memD
  dsimp only
  rw [if_pos ⟨rfl, by simp [dStrs, flatD]⟩, isIn_strs]
theorem memS_lst {x : Str} {xs : List Str} : memD (.str x) (.list (dStrs xs)) = some (decide (x ∈ xs)) := by
  unfold memD
  dsimp only
  rw [if_pos ⟨rfl, by simp [dStrs, flatD]⟩, isIn_strs]
theorem need_ok {p : Prog} {x : Str} {S : Sto} (hl : p.length ≤ 1000) (hx : x ∈ ords p) : F_need_order [.d (dProg p), .d (.str x)] S = .val (.d .none) S := by
  refine OkE.val (ok_def rfl ?_)
  unfold z_need_order
  simp (disch := omega) only [wipeZ, forget, okE_val, okE_exc, okE_bind, okS_st, okS_seq, okS_nx, okS_rt, okS_bk, okS_ct, okS_ex, okE_ofOpt, zseq, zdrop, zapp, zset, zsetF, zifS, ztru, ztst, zop, zcb, zcf, zacons, zanil, zc, zv, znil, zret, zcall, zfz, znew, zneg, zos, zon, zsl, zslF, ztup, zlst, zand, zor, znot, zif, zpar, zpar3, zasg, gN, gT2, gT3, zdnew, zdput, zmt1, zcnt1, zandV, zorV, znotV, zchain, zfrz, zbrk, zcnt, zopF, zpop0, zlput, zdget, zdin, zdnin, zdget2, zisi, ziA, ziQ, itemsQ, ziL, ziT, itemsL, itemsT, rng1_ok, rng2_ok, izs_len, izr_len, zipOf, enumOf, ofOpt, bind_val, bind_exc, st_val, st_exc, seq_nx, seq_rt, seq_ex, seq_bk, seq_ct, List.map_cons, List.map_nil, List.cons_append, List.nil_append, List.replicate, List.length_cons, List.length_nil, List.length_append, List.length_map, List.length_set, List.getElem?_cons_zero, List.getElem?_cons_succ, List.getElem?_nil, List.set_cons_zero, List.set_cons_succ, lstAt, res, resD, truS, truth, app2, on1, on2, lstOnly, lenS, allD_nil, allD_cons, Option.map_some, Option.map_none, Option.bind_some, Option.bind_none, dAdd, dSub, dMul_ok, dMod_ok, dDiv_ok, dLt, dLe, dGt, dGe, dEq_i, dEq_s, dEq_b, dNe_i, dNe_s, dNe_b, dEq_ti, dNe_ti, dEq_li, dNe_li, dIs, dIsNot, nonD, dIn, dNotIn, dIx, atI_0, atI_1, atI_2, dTup, dInt, dMin, dMax, dSum, dAll, dAny, intsOf_map, bolsOf_map, intsOf_nil, intsOf_cons, dMin2, dMax2, dAbs, keySl, Z.keyOf, putS, lim, retN_d, getLast0, setLast0, takeLast0, takeLast1, List.take_succ_cons, List.take_zero, List.take_length, List.take_nil, decide_eq_true_eq, beq_iff_eq, if_true, if_false, Bool.not_true, Bool.not_false, Bool.not_eq_true', Bool.false_eq_true, Bool.true_eq_false, reduceIte, if_pos, if_neg, Nat.add_eq, List.isEmpty_cons, List.isEmpty_nil, Option.some.injEq, decide_true, decide_false, decide_eq_true, decide_eq_false, beq_self_eq_true, BEq.rfl, beq_eq_false_iff_ne, Nat.zero_add, Nat.reduceAdd, Int.toNat_natCast, Bool.not_eq_true, decide_eq_false_iff_not, bne_iff_ne, ne_eq, not_true_eq_false, not_false_eq_true, orders_ok hl, memS_tup, hx, List.take_length, and_self]
theorem need_bad {p : Prog} {x : Str} {S : Sto} (hl : p.length ≤ 1000) (hx : x ∉ ords p) : F_need_order [.d (dProg p), .d (.str x)] S = .exc "NoName" S := by
  unfold F_need_order zdef z_need_order
  simp (disch := omega) only [wipeZ, forget, okE_val, okE_exc, okE_bind, okS_st, okS_seq, okS_nx, okS_rt, okS_bk, okS_ct, okS_ex, okE_ofOpt, zseq, zdrop, zapp, zset, zsetF, zifS, ztru, ztst, zop, zcb, zcf, zacons, zanil, zc, zv, znil, zret, zcall, zfz, znew, zneg, zos, zon, zsl, zslF, ztup, zlst, zand, zor, znot, zif, zpar, zpar3, zasg, gN, gT2, gT3, zdnew, zdput, zmt1, zcnt1, zandV, zorV, znotV, zchain, zfrz, zbrk, zcnt, zopF, zpop0, zlput, zdget, zdin, zdnin, zdget2, zisi, ziA, ziQ, itemsQ, ziL, ziT, itemsL, itemsT, rng1_ok, rng2_ok, izs_len, izr_len, zipOf, enumOf, ofOpt, bind_val, bind_exc, st_val, st_exc, seq_nx, seq_rt, seq_ex, seq_bk, seq_ct, List.map_cons, List.map_nil, List.cons_append, List.nil_append, List.replicate, List.length_cons, List.length_nil, List.length_append, List.length_map, List.length_set, List.getElem?_cons_zero, List.getElem?_cons_succ, List.getElem?_nil, List.set_cons_zero, List.set_cons_succ, lstAt, res, resD, truS, truth, app2, on1, on2, lstOnly, lenS, allD_nil, allD_cons, Option.map_some, Option.map_none, Option.bind_some, Option.bind_none, dAdd, dSub, dMul_ok, dMod_ok, dDiv_ok, dLt, dLe, dGt, dGe, dEq_i, dEq_s, dEq_b, dNe_i, dNe_s, dNe_b, dEq_ti, dNe_ti, dEq_li, dNe_li, dIs, dIsNot, nonD, dIn, dNotIn, dIx, atI_0, atI_1, atI_2, dTup, dInt, dMin, dMax, dSum, dAll, dAny, intsOf_map, bolsOf_map, intsOf_nil, intsOf_cons, dMin2, dMax2, dAbs, keySl, Z.keyOf, putS, lim, retN_d, getLast0, setLast0, takeLast0, takeLast1, List.take_succ_cons, List.take_zero, List.take_length, List.take_nil, decide_eq_true_eq, beq_iff_eq, if_true, if_false, Bool.not_true, Bool.not_false, Bool.not_eq_true', Bool.false_eq_true, Bool.true_eq_false, reduceIte, if_pos, if_neg, Nat.add_eq, List.isEmpty_cons, List.isEmpty_nil, Option.some.injEq, decide_true, decide_false, decide_eq_true, decide_eq_false, beq_self_eq_true, BEq.rfl, beq_eq_false_iff_ne, Nat.zero_add, Nat.reduceAdd, Int.toNat_natCast, Bool.not_eq_true, decide_eq_false_iff_not, bne_iff_ne, ne_eq, not_true_eq_false, not_false_eq_true, orders_ok hl, memS_tup, hx, zraise, retS, List.take_length]
theorem content_ok {p : Prog} {x : Str} {c : Cell} {S : Sto} (nd : (p.map (·.1)).Nodup) (hx : lk p x = some c) : F_content_of [.d (dProg p), .d (.str x)] S = .val (.d (dCell c)) S := by
  refine OkE.val (ok_def rfl ?_)
  unfold z_content_of
  simp (disch := omega) only [wipeZ, forget, okE_val, okE_exc, okE_bind, okS_st, okS_seq, okS_nx, okS_rt, okS_bk, okS_ct, okS_ex, okE_ofOpt, zseq, zdrop, zapp, zset, zsetF, zifS, ztru, ztst, zop, zcb, zcf, zacons, zanil, zc, zv, znil, zret, zcall, zfz, znew, zneg, zos, zon, zsl, zslF, ztup, zlst, zand, zor, znot, zif, zpar, zpar3, zasg, gN, gT2, gT3, zdnew, zdput, zmt1, zcnt1, zandV, zorV, znotV, zchain, zfrz, zbrk, zcnt, zopF, zpop0, zlput, zdget, zdin, zdnin, zdget2, zisi, ziA, ziQ, itemsQ, ziL, ziT, itemsL, itemsT, rng1_ok, rng2_ok, izs_len, izr_len, zipOf, enumOf, ofOpt, bind_val, bind_exc, st_val, st_exc, seq_nx, seq_rt, seq_ex, seq_bk, seq_ct, List.map_cons, List.map_nil, List.cons_append, List.nil_append, List.replicate, List.length_cons, List.length_nil, List.length_append, List.length_map, List.length_set, List.getElem?_cons_zero, List.getElem?_cons_succ, List.getElem?_nil, List.set_cons_zero, List.set_cons_succ, lstAt, res, resD, truS, truth, app2, on1, on2, lstOnly, lenS, allD_nil, allD_cons, Option.map_some, Option.map_none, Option.bind_some, Option.bind_none, dAdd, dSub, dMul_ok, dMod_ok, dDiv_ok, dLt, dLe, dGt, dGe, dEq_i, dEq_s, dEq_b, dNe_i, dNe_s, dNe_b, dEq_ti, dNe_ti, dEq_li, dNe_li, dIs, dIsNot, nonD, dIn, dNotIn, dIx, atI_0, atI_1, atI_2, dTup, dInt, dMin, dMax, dSum, dAll, dAny, intsOf_map, bolsOf_map, intsOf_nil, intsOf_cons, dMin2, dMax2, dAbs, keySl, Z.keyOf, putS, lim, retN_d, getLast0, setLast0, takeLast0, takeLast1, List.take_succ_cons, List.take_zero, List.take_length, List.take_nil, decide_eq_true_eq, beq_iff_eq, if_true, if_false, Bool.not_true, Bool.not_false, Bool.not_eq_true', Bool.false_eq_true, Bool.true_eq_false, reduceIte, if_pos, if_neg, Nat.add_eq, List.isEmpty_cons, List.isEmpty_nil, Option.some.injEq, decide_true, decide_false, decide_eq_true, decide_eq_false, beq_self_eq_true, BEq.rfl, beq_eq_false_iff_ne, Nat.zero_add, Nat.reduceAdd, Int.toNat_natCast, Bool.not_eq_true, decide_eq_false_iff_not, bne_iff_ne, ne_eq, not_true_eq_false, not_false_eq_true, bDic_prog nd, val_kv, hx, any_kv, Option.isSome_some, List.take_length, and_self]
theorem content_bad {p : Prog} {x : Str} {S : Sto} (nd : (p.map (·.1)).Nodup) (hx : lk p x = none) : F_content_of [.d (dProg p), .d (.str x)] S = .exc "NoName" S := by
  unfold F_content_of zdef z_content_of
  simp (disch := omega) only [wipeZ, forget, okE_val, okE_exc, okE_bind, okS_st, okS_seq, okS_nx, okS_rt, okS_bk, okS_ct, okS_ex, okE_ofOpt, zseq, zdrop, zapp, zset, zsetF, zifS, ztru, ztst, zop, zcb, zcf, zacons, zanil, zc, zv, znil, zret, zcall, zfz, znew, zneg, zos, zon, zsl, zslF, ztup, zlst, zand, zor, znot, zif, zpar, zpar3, zasg, gN, gT2, gT3, zdnew, zdput, zmt1, zcnt1, zandV, zorV, znotV, zchain, zfrz, zbrk, zcnt, zopF, zpop0, zlput, zdget, zdin, zdnin, zdget2, zisi, ziA, ziQ, itemsQ, ziL, ziT, itemsL, itemsT, rng1_ok, rng2_ok, izs_len, izr_len, zipOf, enumOf, ofOpt, bind_val, bind_exc, st_val, st_exc, seq_nx, seq_rt, seq_ex, seq_bk, seq_ct, List.map_cons, List.map_nil, List.cons_append, List.nil_append, List.replicate, List.length_cons, List.length_nil, List.length_append, List.length_map, List.length_set, List.getElem?_cons_zero, List.getElem?_cons_succ, List.getElem?_nil, List.set_cons_zero, List.set_cons_succ, lstAt, res, resD, truS, truth, app2, on1, on2, lstOnly, lenS, allD_nil, allD_cons, Option.map_some, Option.map_none, Option.bind_some, Option.bind_none, dAdd, dSub, dMul_ok, dMod_ok, dDiv_ok, dLt, dLe, dGt, dGe, dEq_i, dEq_s, dEq_b, dNe_i, dNe_s, dNe_b, dEq_ti, dNe_ti, dEq_li, dNe_li, dIs, dIsNot, nonD, dIn, dNotIn, dIx, atI_0, atI_1, atI_2, dTup, dInt, dMin, dMax, dSum, dAll, dAny, intsOf_map, bolsOf_map, intsOf_nil, intsOf_cons, dMin2, dMax2, dAbs, keySl, Z.keyOf, putS, lim, retN_d, getLast0, setLast0, takeLast0, takeLast1, List.take_succ_cons, List.take_zero, List.take_length, List.take_nil, decide_eq_true_eq, beq_iff_eq, if_true, if_false, Bool.not_true, Bool.not_false, Bool.not_eq_true', Bool.false_eq_true, Bool.true_eq_false, reduceIte, if_pos, if_neg, Nat.add_eq, List.isEmpty_cons, List.isEmpty_nil, Option.some.injEq, decide_true, decide_false, decide_eq_true, decide_eq_false, beq_self_eq_true, BEq.rfl, beq_eq_false_iff_ne, Nat.zero_add, Nat.reduceAdd, Int.toNat_natCast, Bool.not_eq_true, decide_eq_false_iff_not, bne_iff_ne, ne_eq, not_true_eq_false, not_false_eq_true, bDic_prog nd, val_kv, hx, any_kv, Option.isSome_none, zraise, retS]
end Zc
end
section
set_option Elab.async false
set_option linter.all false
set_option maxRecDepth 100000
set_option autoImplicit false
set_option maxHeartbeats 4000000
namespace Zc
open PySem Z
open L2 (atI)
/-! ### the machine -/
def hold (n : Int) : Int := if (if n < 9999 then n else 9999) > 0 - 9999 then (if n < 9999 then n else 9999) else 0 - 9999
theorem held_ok {n : Int} {S : Sto} : F_held [.d (.int n)] S = .val (.d (.int (hold n))) S := by
  refine OkE.val (ok_def rfl ?_)
  unfold z_held hold
  simp (disch := omega) only [wipeZ, forget, okE_val, okE_exc, okE_bind, okS_st, okS_seq, okS_nx, okS_rt, okS_bk, okS_ct, okS_ex, okE_ofOpt, zseq, zdrop, zapp, zset, zsetF, zifS, ztru, ztst, zop, zcb, zcf, zacons, zanil, zc, zv, znil, zret, zcall, zfz, znew, zneg, zos, zon, zsl, zslF, ztup, zlst, zand, zor, znot, zif, zpar, zpar3, zasg, gN, gT2, gT3, zdnew, zdput, zmt1, zcnt1, zandV, zorV, znotV, zchain, zfrz, zbrk, zcnt, zopF, zpop0, zlput, zdget, zdin, zdnin, zdget2, zisi, ziA, ziQ, itemsQ, ziL, ziT, itemsL, itemsT, rng1_ok, rng2_ok, izs_len, izr_len, zipOf, enumOf, ofOpt, bind_val, bind_exc, st_val, st_exc, seq_nx, seq_rt, seq_ex, seq_bk, seq_ct, List.map_cons, List.map_nil, List.cons_append, List.nil_append, List.replicate, List.length_cons, List.length_nil, List.length_append, List.length_map, List.length_set, List.getElem?_cons_zero, List.getElem?_cons_succ, List.getElem?_nil, List.set_cons_zero, List.set_cons_succ, lstAt, res, resD, truS, truth, app2, on1, on2, lstOnly, lenS, allD_nil, allD_cons, Option.map_some, Option.map_none, Option.bind_some, Option.bind_none, dAdd, dSub, dMul_ok, dMod_ok, dDiv_ok, dLt, dLe, dGt, dGe, dEq_i, dEq_s, dEq_b, dNe_i, dNe_s, dNe_b, dEq_ti, dNe_ti, dEq_li, dNe_li, dIs, dIsNot, nonD, dIn, dNotIn, dIx, atI_0, atI_1, atI_2, dTup, dInt, dMin, dMax, dSum, dAll, dAny, intsOf_map, bolsOf_map, intsOf_nil, intsOf_cons, dMin2, dMax2, dAbs, keySl, Z.keyOf, putS, lim, retN_d, getLast0, setLast0, takeLast0, takeLast1, List.take_succ_cons, List.take_zero, List.take_length, List.take_nil, decide_eq_true_eq, beq_iff_eq, if_true, if_false, Bool.not_true, Bool.not_false, Bool.not_eq_true', Bool.false_eq_true, Bool.true_eq_false, reduceIte, if_pos, if_neg, Nat.add_eq, List.isEmpty_cons, List.isEmpty_nil, Option.some.injEq, decide_true, decide_false, decide_eq_true, decide_eq_false, beq_self_eq_true, BEq.rfl, beq_eq_false_iff_ne, Nat.zero_add, Nat.reduceAdd, Int.toNat_natCast, Bool.not_eq_true, decide_eq_false_iff_not, bne_iff_ne, ne_eq, not_true_eq_false, not_false_eq_true, List.take_length, and_self]
def mBox (c : Prog) (h : Int) (nx : PyData) (t : Int) : Box := .ins "Machine" [("held", .int h), ("next", nx), ("time", .int t)] "cells" (kv dCell c)
section
variable {R : Sto} {c : Prog} {h t v r wd : Int} {nx : PyData} {a b x : Str}
theorem done_put (ha : lk c a = some (.w v)) : F_Machine_done [.box R.length, .d (.tuple [.str "put", .str a, .str b])] (R ++ [mBox c h nx t]) = .val (.d .none) (R ++ [mBox c v nx t]) := by
  refine OkE.val (ok_def rfl ?_)
  unfold z_Machine_done mBox
  simp (disch := omega) only [wipeZ, forget, okE_val, okE_exc, okE_bind, okS_st, okS_seq, okS_nx, okS_rt, okS_bk, okS_ct, okS_ex, okE_ofOpt, zseq, zdrop, zapp, zset, zsetF, zifS, ztru, ztst, zop, zcb, zcf, zacons, zanil, zc, zv, znil, zret, zcall, zfz, znew, zneg, zos, zon, zsl, zslF, ztup, zlst, zand, zor, znot, zif, zpar, zpar3, zasg, gN, gT2, gT3, zdnew, zdput, zmt1, zcnt1, zandV, zorV, znotV, zchain, zfrz, zbrk, zcnt, zopF, zpop0, zlput, zdget, zdin, zdnin, zdget2, zisi, ziA, ziQ, itemsQ, ziL, ziT, itemsL, itemsT, rng1_ok, rng2_ok, izs_len, izr_len, zipOf, enumOf, ofOpt, bind_val, bind_exc, st_val, st_exc, seq_nx, seq_rt, seq_ex, seq_bk, seq_ct, List.map_cons, List.map_nil, List.cons_append, List.nil_append, List.replicate, List.length_cons, List.length_nil, List.length_append, List.length_map, List.length_set, List.getElem?_cons_zero, List.getElem?_cons_succ, List.getElem?_nil, List.set_cons_zero, List.set_cons_succ, lstAt, res, resD, truS, truth, app2, on1, on2, lstOnly, lenS, allD_nil, allD_cons, Option.map_some, Option.map_none, Option.bind_some, Option.bind_none, dAdd, dSub, dMul_ok, dMod_ok, dDiv_ok, dLt, dLe, dGt, dGe, dEq_i, dEq_s, dEq_b, dNe_i, dNe_s, dNe_b, dEq_ti, dNe_ti, dEq_li, dNe_li, dIs, dIsNot, nonD, dIn, dNotIn, dIx, atI_0, atI_1, atI_2, dTup, dInt, dMin, dMax, dSum, dAll, dAny, intsOf_map, bolsOf_map, intsOf_nil, intsOf_cons, dMin2, dMax2, dAbs, keySl, Z.keyOf, putS, lim, retN_d, getLast0, setLast0, takeLast0, takeLast1, List.take_succ_cons, List.take_zero, List.take_length, List.take_nil, decide_eq_true_eq, beq_iff_eq, if_true, if_false, Bool.not_true, Bool.not_false, Bool.not_eq_true', Bool.false_eq_true, Bool.true_eq_false, reduceIte, if_pos, if_neg, Nat.add_eq, List.isEmpty_cons, List.isEmpty_nil, Option.some.injEq, decide_true, decide_false, decide_eq_true, decide_eq_false, beq_self_eq_true, BEq.rfl, beq_eq_false_iff_ne, Nat.zero_add, Nat.reduceAdd, Int.toNat_natCast, Bool.not_eq_true, decide_eq_false_iff_not, bne_iff_ne, ne_eq, not_true_eq_false, not_false_eq_true, insAt, putA, List.lookup_cons, List.lookup_nil, zattr, zaset, zmeth, zmake, zpr, zpr1, zasgP, zlset, zlrg, zkin, zkget, zact, lamOf, zlamcall, noExc, zraise, znil, Zc.t_BEATS, Zc.o_BEATS, retN_d, Zs.se_put_add, Zs.sn_put_add, Zs.se_put_sub, Zs.sn_put_sub, Zs.se_put_save, Zs.sn_put_save, Zs.se_put_less, Zs.sn_put_less, Zs.se_put_stop, Zs.sn_put_stop, Zs.se_add_put, Zs.sn_add_put, Zs.se_add_sub, Zs.sn_add_sub, Zs.se_add_save, Zs.sn_add_save, Zs.se_add_less, Zs.sn_add_less, Zs.se_add_stop, Zs.sn_add_stop, Zs.se_sub_put, Zs.sn_sub_put, Zs.se_sub_add, Zs.sn_sub_add, Zs.se_sub_save, Zs.sn_sub_save, Zs.se_sub_less, Zs.sn_sub_less, Zs.se_sub_stop, Zs.sn_sub_stop, Zs.se_save_put, Zs.sn_save_put, Zs.se_save_add, Zs.sn_save_add, Zs.se_save_sub, Zs.sn_save_sub, Zs.se_save_less, Zs.sn_save_less, Zs.se_save_stop, Zs.sn_save_stop, Zs.se_less_put, Zs.sn_less_put, Zs.se_less_add, Zs.sn_less_add, Zs.se_less_sub, Zs.sn_less_sub, Zs.se_less_save, Zs.sn_less_save, Zs.se_less_stop, Zs.sn_less_stop, Zs.se_stop_put, Zs.sn_stop_put, Zs.se_stop_add, Zs.sn_stop_add, Zs.se_stop_sub, Zs.sn_stop_sub, Zs.se_stop_save, Zs.sn_stop_save, Zs.se_stop_less, Zs.sn_stop_less, Zs.se_held_next, Zs.sn_held_next, Zs.se_held_time, Zs.sn_held_time, Zs.se_held_cells, Zs.sn_held_cells, Zs.se_held_step, Zs.sn_held_step, Zs.se_held_words, Zs.sn_held_words, Zs.se_held_done, Zs.sn_held_done, Zs.se_next_held, Zs.sn_next_held, Zs.se_next_time, Zs.sn_next_time, Zs.se_next_cells, Zs.sn_next_cells, Zs.se_next_step, Zs.sn_next_step, Zs.se_next_words, Zs.sn_next_words, Zs.se_next_done, Zs.sn_next_done, Zs.se_time_held, Zs.sn_time_held, Zs.se_time_next, Zs.sn_time_next, Zs.se_time_cells, Zs.sn_time_cells, Zs.se_time_step, Zs.sn_time_step, Zs.se_time_words, Zs.sn_time_words, Zs.se_time_done, Zs.sn_time_done, Zs.se_cells_held, Zs.sn_cells_held, Zs.se_cells_next, Zs.sn_cells_next, Zs.se_cells_time, Zs.sn_cells_time, Zs.se_cells_step, Zs.sn_cells_step, Zs.se_cells_words, Zs.sn_cells_words, Zs.se_cells_done, Zs.sn_cells_done, Zs.se_step_held, Zs.sn_step_held, Zs.se_step_next, Zs.sn_step_next, Zs.se_step_time, Zs.sn_step_time, Zs.se_step_cells, Zs.sn_step_cells, Zs.se_step_words, Zs.sn_step_words, Zs.se_step_done, Zs.sn_step_done, Zs.se_words_held, Zs.sn_words_held, Zs.se_words_next, Zs.sn_words_next, Zs.se_words_time, Zs.sn_words_time, Zs.se_words_cells, Zs.sn_words_cells, Zs.se_words_step, Zs.sn_words_step, Zs.se_words_done, Zs.sn_words_done, Zs.se_done_held, Zs.sn_done_held, Zs.se_done_next, Zs.sn_done_next, Zs.se_done_time, Zs.sn_done_time, Zs.se_done_cells, Zs.sn_done_cells, Zs.se_done_step, Zs.sn_done_step, Zs.se_done_words, Zs.sn_done_words, val_kv, ha, dCell, Option.isSome_some, Option.isSome_none, and_self, and_true, true_and, List.take_length, eq_self]
theorem done_add (ha : lk c a = some (.w v)) : F_Machine_done [.box R.length, .d (.tuple [.str "add", .str a, .str b])] (R ++ [mBox c h nx t]) = .val (.d .none) (R ++ [mBox c (hold (h + v)) nx t]) := by
  refine OkE.val (ok_def rfl ?_)
  unfold z_Machine_done mBox
  simp (disch := omega) only [wipeZ, forget, okE_val, okE_exc, okE_bind, okS_st, okS_seq, okS_nx, okS_rt, okS_bk, okS_ct, okS_ex, okE_ofOpt, zseq, zdrop, zapp, zset, zsetF, zifS, ztru, ztst, zop, zcb, zcf, zacons, zanil, zc, zv, znil, zret, zcall, zfz, znew, zneg, zos, zon, zsl, zslF, ztup, zlst, zand, zor, znot, zif, zpar, zpar3, zasg, gN, gT2, gT3, zdnew, zdput, zmt1, zcnt1, zandV, zorV, znotV, zchain, zfrz, zbrk, zcnt, zopF, zpop0, zlput, zdget, zdin, zdnin, zdget2, zisi, ziA, ziQ, itemsQ, ziL, ziT, itemsL, itemsT, rng1_ok, rng2_ok, izs_len, izr_len, zipOf, enumOf, ofOpt, bind_val, bind_exc, st_val, st_exc, seq_nx, seq_rt, seq_ex, seq_bk, seq_ct, List.map_cons, List.map_nil, List.cons_append, List.nil_append, List.replicate, List.length_cons, List.length_nil, List.length_append, List.length_map, List.length_set, List.getElem?_cons_zero, List.getElem?_cons_succ, List.getElem?_nil, List.set_cons_zero, List.set_cons_succ, lstAt, res, resD, truS, truth, app2, on1, on2, lstOnly, lenS, allD_nil, allD_cons, Option.map_some, Option.map_none, Option.bind_some, Option.bind_none, dAdd, dSub, dMul_ok, dMod_ok, dDiv_ok, dLt, dLe, dGt, dGe, dEq_i, dEq_s, dEq_b, dNe_i, dNe_s, dNe_b, dEq_ti, dNe_ti, dEq_li, dNe_li, dIs, dIsNot, nonD, dIn, dNotIn, dIx, atI_0, atI_1, atI_2, dTup, dInt, dMin, dMax, dSum, dAll, dAny, intsOf_map, bolsOf_map, intsOf_nil, intsOf_cons, dMin2, dMax2, dAbs, keySl, Z.keyOf, putS, lim, retN_d, getLast0, setLast0, takeLast0, takeLast1, List.take_succ_cons, List.take_zero, List.take_length, List.take_nil, decide_eq_true_eq, beq_iff_eq, if_true, if_false, Bool.not_true, Bool.not_false, Bool.not_eq_true', Bool.false_eq_true, Bool.true_eq_false, reduceIte, if_pos, if_neg, Nat.add_eq, List.isEmpty_cons, List.isEmpty_nil, Option.some.injEq, decide_true, decide_false, decide_eq_true, decide_eq_false, beq_self_eq_true, BEq.rfl, beq_eq_false_iff_ne, Nat.zero_add, Nat.reduceAdd, Int.toNat_natCast, Bool.not_eq_true, decide_eq_false_iff_not, bne_iff_ne, ne_eq, not_true_eq_false, not_false_eq_true, insAt, putA, List.lookup_cons, List.lookup_nil, zattr, zaset, zmeth, zmake, zpr, zpr1, zasgP, zlset, zlrg, zkin, zkget, zact, lamOf, zlamcall, noExc, zraise, znil, Zc.t_BEATS, Zc.o_BEATS, retN_d, Zs.se_put_add, Zs.sn_put_add, Zs.se_put_sub, Zs.sn_put_sub, Zs.se_put_save, Zs.sn_put_save, Zs.se_put_less, Zs.sn_put_less, Zs.se_put_stop, Zs.sn_put_stop, Zs.se_add_put, Zs.sn_add_put, Zs.se_add_sub, Zs.sn_add_sub, Zs.se_add_save, Zs.sn_add_save, Zs.se_add_less, Zs.sn_add_less, Zs.se_add_stop, Zs.sn_add_stop, Zs.se_sub_put, Zs.sn_sub_put, Zs.se_sub_add, Zs.sn_sub_add, Zs.se_sub_save, Zs.sn_sub_save, Zs.se_sub_less, Zs.sn_sub_less, Zs.se_sub_stop, Zs.sn_sub_stop, Zs.se_save_put, Zs.sn_save_put, Zs.se_save_add, Zs.sn_save_add, Zs.se_save_sub, Zs.sn_save_sub, Zs.se_save_less, Zs.sn_save_less, Zs.se_save_stop, Zs.sn_save_stop, Zs.se_less_put, Zs.sn_less_put, Zs.se_less_add, Zs.sn_less_add, Zs.se_less_sub, Zs.sn_less_sub, Zs.se_less_save, Zs.sn_less_save, Zs.se_less_stop, Zs.sn_less_stop, Zs.se_stop_put, Zs.sn_stop_put, Zs.se_stop_add, Zs.sn_stop_add, Zs.se_stop_sub, Zs.sn_stop_sub, Zs.se_stop_save, Zs.sn_stop_save, Zs.se_stop_less, Zs.sn_stop_less, Zs.se_held_next, Zs.sn_held_next, Zs.se_held_time, Zs.sn_held_time, Zs.se_held_cells, Zs.sn_held_cells, Zs.se_held_step, Zs.sn_held_step, Zs.se_held_words, Zs.sn_held_words, Zs.se_held_done, Zs.sn_held_done, Zs.se_next_held, Zs.sn_next_held, Zs.se_next_time, Zs.sn_next_time, Zs.se_next_cells, Zs.sn_next_cells, Zs.se_next_step, Zs.sn_next_step, Zs.se_next_words, Zs.sn_next_words, Zs.se_next_done, Zs.sn_next_done, Zs.se_time_held, Zs.sn_time_held, Zs.se_time_next, Zs.sn_time_next, Zs.se_time_cells, Zs.sn_time_cells, Zs.se_time_step, Zs.sn_time_step, Zs.se_time_words, Zs.sn_time_words, Zs.se_time_done, Zs.sn_time_done, Zs.se_cells_held, Zs.sn_cells_held, Zs.se_cells_next, Zs.sn_cells_next, Zs.se_cells_time, Zs.sn_cells_time, Zs.se_cells_step, Zs.sn_cells_step, Zs.se_cells_words, Zs.sn_cells_words, Zs.se_cells_done, Zs.sn_cells_done, Zs.se_step_held, Zs.sn_step_held, Zs.se_step_next, Zs.sn_step_next, Zs.se_step_time, Zs.sn_step_time, Zs.se_step_cells, Zs.sn_step_cells, Zs.se_step_words, Zs.sn_step_words, Zs.se_step_done, Zs.sn_step_done, Zs.se_words_held, Zs.sn_words_held, Zs.se_words_next, Zs.sn_words_next, Zs.se_words_time, Zs.sn_words_time, Zs.se_words_cells, Zs.sn_words_cells, Zs.se_words_step, Zs.sn_words_step, Zs.se_words_done, Zs.sn_words_done, Zs.se_done_held, Zs.sn_done_held, Zs.se_done_next, Zs.sn_done_next, Zs.se_done_time, Zs.sn_done_time, Zs.se_done_cells, Zs.sn_done_cells, Zs.se_done_step, Zs.sn_done_step, Zs.se_done_words, Zs.sn_done_words, val_kv, ha, dCell, held_ok, Option.isSome_some, Option.isSome_none, and_self, and_true, true_and, List.take_length, eq_self]
theorem done_sub (ha : lk c a = some (.w v)) : F_Machine_done [.box R.length, .d (.tuple [.str "sub", .str a, .str b])] (R ++ [mBox c h nx t]) = .val (.d .none) (R ++ [mBox c (hold (h - v)) nx t]) := by
  refine OkE.val (ok_def rfl ?_)
  unfold z_Machine_done mBox
  simp (disch := omega) only [wipeZ, forget, okE_val, okE_exc, okE_bind, okS_st, okS_seq, okS_nx, okS_rt, okS_bk, okS_ct, okS_ex, okE_ofOpt, zseq, zdrop, zapp, zset, zsetF, zifS, ztru, ztst, zop, zcb, zcf, zacons, zanil, zc, zv, znil, zret, zcall, zfz, znew, zneg, zos, zon, zsl, zslF, ztup, zlst, zand, zor, znot, zif, zpar, zpar3, zasg, gN, gT2, gT3, zdnew, zdput, zmt1, zcnt1, zandV, zorV, znotV, zchain, zfrz, zbrk, zcnt, zopF, zpop0, zlput, zdget, zdin, zdnin, zdget2, zisi, ziA, ziQ, itemsQ, ziL, ziT, itemsL, itemsT, rng1_ok, rng2_ok, izs_len, izr_len, zipOf, enumOf, ofOpt, bind_val, bind_exc, st_val, st_exc, seq_nx, seq_rt, seq_ex, seq_bk, seq_ct, List.map_cons, List.map_nil, List.cons_append, List.nil_append, List.replicate, List.length_cons, List.length_nil, List.length_append, List.length_map, List.length_set, List.getElem?_cons_zero, List.getElem?_cons_succ, List.getElem?_nil, List.set_cons_zero, List.set_cons_succ, lstAt, res, resD, truS, truth, app2, on1, on2, lstOnly, lenS, allD_nil, allD_cons, Option.map_some, Option.map_none, Option.bind_some, Option.bind_none, dAdd, dSub, dMul_ok, dMod_ok, dDiv_ok, dLt, dLe, dGt, dGe, dEq_i, dEq_s, dEq_b, dNe_i, dNe_s, dNe_b, dEq_ti, dNe_ti, dEq_li, dNe_li, dIs, dIsNot, nonD, dIn, dNotIn, dIx, atI_0, atI_1, atI_2, dTup, dInt, dMin, dMax, dSum, dAll, dAny, intsOf_map, bolsOf_map, intsOf_nil, intsOf_cons, dMin2, dMax2, dAbs, keySl, Z.keyOf, putS, lim, retN_d, getLast0, setLast0, takeLast0, takeLast1, List.take_succ_cons, List.take_zero, List.take_length, List.take_nil, decide_eq_true_eq, beq_iff_eq, if_true, if_false, Bool.not_true, Bool.not_false, Bool.not_eq_true', Bool.false_eq_true, Bool.true_eq_false, reduceIte, if_pos, if_neg, Nat.add_eq, List.isEmpty_cons, List.isEmpty_nil, Option.some.injEq, decide_true, decide_false, decide_eq_true, decide_eq_false, beq_self_eq_true, BEq.rfl, beq_eq_false_iff_ne, Nat.zero_add, Nat.reduceAdd, Int.toNat_natCast, Bool.not_eq_true, decide_eq_false_iff_not, bne_iff_ne, ne_eq, not_true_eq_false, not_false_eq_true, insAt, putA, List.lookup_cons, List.lookup_nil, zattr, zaset, zmeth, zmake, zpr, zpr1, zasgP, zlset, zlrg, zkin, zkget, zact, lamOf, zlamcall, noExc, zraise, znil, Zc.t_BEATS, Zc.o_BEATS, retN_d, Zs.se_put_add, Zs.sn_put_add, Zs.se_put_sub, Zs.sn_put_sub, Zs.se_put_save, Zs.sn_put_save, Zs.se_put_less, Zs.sn_put_less, Zs.se_put_stop, Zs.sn_put_stop, Zs.se_add_put, Zs.sn_add_put, Zs.se_add_sub, Zs.sn_add_sub, Zs.se_add_save, Zs.sn_add_save, Zs.se_add_less, Zs.sn_add_less, Zs.se_add_stop, Zs.sn_add_stop, Zs.se_sub_put, Zs.sn_sub_put, Zs.se_sub_add, Zs.sn_sub_add, Zs.se_sub_save, Zs.sn_sub_save, Zs.se_sub_less, Zs.sn_sub_less, Zs.se_sub_stop, Zs.sn_sub_stop, Zs.se_save_put, Zs.sn_save_put, Zs.se_save_add, Zs.sn_save_add, Zs.se_save_sub, Zs.sn_save_sub, Zs.se_save_less, Zs.sn_save_less, Zs.se_save_stop, Zs.sn_save_stop, Zs.se_less_put, Zs.sn_less_put, Zs.se_less_add, Zs.sn_less_add, Zs.se_less_sub, Zs.sn_less_sub, Zs.se_less_save, Zs.sn_less_save, Zs.se_less_stop, Zs.sn_less_stop, Zs.se_stop_put, Zs.sn_stop_put, Zs.se_stop_add, Zs.sn_stop_add, Zs.se_stop_sub, Zs.sn_stop_sub, Zs.se_stop_save, Zs.sn_stop_save, Zs.se_stop_less, Zs.sn_stop_less, Zs.se_held_next, Zs.sn_held_next, Zs.se_held_time, Zs.sn_held_time, Zs.se_held_cells, Zs.sn_held_cells, Zs.se_held_step, Zs.sn_held_step, Zs.se_held_words, Zs.sn_held_words, Zs.se_held_done, Zs.sn_held_done, Zs.se_next_held, Zs.sn_next_held, Zs.se_next_time, Zs.sn_next_time, Zs.se_next_cells, Zs.sn_next_cells, Zs.se_next_step, Zs.sn_next_step, Zs.se_next_words, Zs.sn_next_words, Zs.se_next_done, Zs.sn_next_done, Zs.se_time_held, Zs.sn_time_held, Zs.se_time_next, Zs.sn_time_next, Zs.se_time_cells, Zs.sn_time_cells, Zs.se_time_step, Zs.sn_time_step, Zs.se_time_words, Zs.sn_time_words, Zs.se_time_done, Zs.sn_time_done, Zs.se_cells_held, Zs.sn_cells_held, Zs.se_cells_next, Zs.sn_cells_next, Zs.se_cells_time, Zs.sn_cells_time, Zs.se_cells_step, Zs.sn_cells_step, Zs.se_cells_words, Zs.sn_cells_words, Zs.se_cells_done, Zs.sn_cells_done, Zs.se_step_held, Zs.sn_step_held, Zs.se_step_next, Zs.sn_step_next, Zs.se_step_time, Zs.sn_step_time, Zs.se_step_cells, Zs.sn_step_cells, Zs.se_step_words, Zs.sn_step_words, Zs.se_step_done, Zs.sn_step_done, Zs.se_words_held, Zs.sn_words_held, Zs.se_words_next, Zs.sn_words_next, Zs.se_words_time, Zs.sn_words_time, Zs.se_words_cells, Zs.sn_words_cells, Zs.se_words_step, Zs.sn_words_step, Zs.se_words_done, Zs.sn_words_done, Zs.se_done_held, Zs.sn_done_held, Zs.se_done_next, Zs.sn_done_next, Zs.se_done_time, Zs.sn_done_time, Zs.se_done_cells, Zs.sn_done_cells, Zs.se_done_step, Zs.sn_done_step, Zs.se_done_words, Zs.sn_done_words, val_kv, ha, dCell, held_ok, Option.isSome_some, Option.isSome_none, and_self, and_true, true_and, List.take_length, eq_self]
theorem kv_len {α : Type} {f : α → PyData} {p : List (Str × α)} : (kv f p).length = p.length := by simp [kv]
theorem put_w (ha : a ∈ c.map (·.1)) : putD (kv dCell c) (.inr a) (.int h) = kv dCell (setC c a (.w h)) := put_kv (f := dCell) (v := .w h) ha
theorem done_save (ha : a ∈ c.map (·.1)) (hl : c.length ≤ 1000) : F_Machine_done [.box R.length, .d (.tuple [.str "save", .str a, .str b])] (R ++ [mBox c h nx t]) = .val (.d .none) (R ++ [mBox (setC c a (.w h)) h nx t]) := by
  refine OkE.val (ok_def rfl ?_)
  unfold z_Machine_done mBox
  simp (disch := omega) only [wipeZ, forget, okE_val, okE_exc, okE_bind, okS_st, okS_seq, okS_nx, okS_rt, okS_bk, okS_ct, okS_ex, okE_ofOpt, zseq, zdrop, zapp, zset, zsetF, zifS, ztru, ztst, zop, zcb, zcf, zacons, zanil, zc, zv, znil, zret, zcall, zfz, znew, zneg, zos, zon, zsl, zslF, ztup, zlst, zand, zor, znot, zif, zpar, zpar3, zasg, gN, gT2, gT3, zdnew, zdput, zmt1, zcnt1, zandV, zorV, znotV, zchain, zfrz, zbrk, zcnt, zopF, zpop0, zlput, zdget, zdin, zdnin, zdget2, zisi, ziA, ziQ, itemsQ, ziL, ziT, itemsL, itemsT, rng1_ok, rng2_ok, izs_len, izr_len, zipOf, enumOf, ofOpt, bind_val, bind_exc, st_val, st_exc, seq_nx, seq_rt, seq_ex, seq_bk, seq_ct, List.map_cons, List.map_nil, List.cons_append, List.nil_append, List.replicate, List.length_cons, List.length_nil, List.length_append, List.length_map, List.length_set, List.getElem?_cons_zero, List.getElem?_cons_succ, List.getElem?_nil, List.set_cons_zero, List.set_cons_succ, lstAt, res, resD, truS, truth, app2, on1, on2, lstOnly, lenS, allD_nil, allD_cons, Option.map_some, Option.map_none, Option.bind_some, Option.bind_none, dAdd, dSub, dMul_ok, dMod_ok, dDiv_ok, dLt, dLe, dGt, dGe, dEq_i, dEq_s, dEq_b, dNe_i, dNe_s, dNe_b, dEq_ti, dNe_ti, dEq_li, dNe_li, dIs, dIsNot, nonD, dIn, dNotIn, dIx, atI_0, atI_1, atI_2, dTup, dInt, dMin, dMax, dSum, dAll, dAny, intsOf_map, bolsOf_map, intsOf_nil, intsOf_cons, dMin2, dMax2, dAbs, keySl, Z.keyOf, putS, lim, retN_d, getLast0, setLast0, takeLast0, takeLast1, List.take_succ_cons, List.take_zero, List.take_length, List.take_nil, decide_eq_true_eq, beq_iff_eq, if_true, if_false, Bool.not_true, Bool.not_false, Bool.not_eq_true', Bool.false_eq_true, Bool.true_eq_false, reduceIte, if_pos, if_neg, Nat.add_eq, List.isEmpty_cons, List.isEmpty_nil, Option.some.injEq, decide_true, decide_false, decide_eq_true, decide_eq_false, beq_self_eq_true, BEq.rfl, beq_eq_false_iff_ne, Nat.zero_add, Nat.reduceAdd, Int.toNat_natCast, Bool.not_eq_true, decide_eq_false_iff_not, bne_iff_ne, ne_eq, not_true_eq_false, not_false_eq_true, insAt, putA, List.lookup_cons, List.lookup_nil, zattr, zaset, zmeth, zmake, zpr, zpr1, zasgP, zlset, zlrg, zkin, zkget, zact, lamOf, zlamcall, noExc, zraise, znil, Zc.t_BEATS, Zc.o_BEATS, retN_d, Zs.se_put_add, Zs.sn_put_add, Zs.se_put_sub, Zs.sn_put_sub, Zs.se_put_save, Zs.sn_put_save, Zs.se_put_less, Zs.sn_put_less, Zs.se_put_stop, Zs.sn_put_stop, Zs.se_add_put, Zs.sn_add_put, Zs.se_add_sub, Zs.sn_add_sub, Zs.se_add_save, Zs.sn_add_save, Zs.se_add_less, Zs.sn_add_less, Zs.se_add_stop, Zs.sn_add_stop, Zs.se_sub_put, Zs.sn_sub_put, Zs.se_sub_add, Zs.sn_sub_add, Zs.se_sub_save, Zs.sn_sub_save, Zs.se_sub_less, Zs.sn_sub_less, Zs.se_sub_stop, Zs.sn_sub_stop, Zs.se_save_put, Zs.sn_save_put, Zs.se_save_add, Zs.sn_save_add, Zs.se_save_sub, Zs.sn_save_sub, Zs.se_save_less, Zs.sn_save_less, Zs.se_save_stop, Zs.sn_save_stop, Zs.se_less_put, Zs.sn_less_put, Zs.se_less_add, Zs.sn_less_add, Zs.se_less_sub, Zs.sn_less_sub, Zs.se_less_save, Zs.sn_less_save, Zs.se_less_stop, Zs.sn_less_stop, Zs.se_stop_put, Zs.sn_stop_put, Zs.se_stop_add, Zs.sn_stop_add, Zs.se_stop_sub, Zs.sn_stop_sub, Zs.se_stop_save, Zs.sn_stop_save, Zs.se_stop_less, Zs.sn_stop_less, Zs.se_held_next, Zs.sn_held_next, Zs.se_held_time, Zs.sn_held_time, Zs.se_held_cells, Zs.sn_held_cells, Zs.se_held_step, Zs.sn_held_step, Zs.se_held_words, Zs.sn_held_words, Zs.se_held_done, Zs.sn_held_done, Zs.se_next_held, Zs.sn_next_held, Zs.se_next_time, Zs.sn_next_time, Zs.se_next_cells, Zs.sn_next_cells, Zs.se_next_step, Zs.sn_next_step, Zs.se_next_words, Zs.sn_next_words, Zs.se_next_done, Zs.sn_next_done, Zs.se_time_held, Zs.sn_time_held, Zs.se_time_next, Zs.sn_time_next, Zs.se_time_cells, Zs.sn_time_cells, Zs.se_time_step, Zs.sn_time_step, Zs.se_time_words, Zs.sn_time_words, Zs.se_time_done, Zs.sn_time_done, Zs.se_cells_held, Zs.sn_cells_held, Zs.se_cells_next, Zs.sn_cells_next, Zs.se_cells_time, Zs.sn_cells_time, Zs.se_cells_step, Zs.sn_cells_step, Zs.se_cells_words, Zs.sn_cells_words, Zs.se_cells_done, Zs.sn_cells_done, Zs.se_step_held, Zs.sn_step_held, Zs.se_step_next, Zs.sn_step_next, Zs.se_step_time, Zs.sn_step_time, Zs.se_step_cells, Zs.sn_step_cells, Zs.se_step_words, Zs.sn_step_words, Zs.se_step_done, Zs.sn_step_done, Zs.se_words_held, Zs.sn_words_held, Zs.se_words_next, Zs.sn_words_next, Zs.se_words_time, Zs.sn_words_time, Zs.se_words_cells, Zs.sn_words_cells, Zs.se_words_step, Zs.sn_words_step, Zs.se_words_done, Zs.sn_words_done, Zs.se_done_held, Zs.sn_done_held, Zs.se_done_next, Zs.sn_done_next, Zs.se_done_time, Zs.sn_done_time, Zs.se_done_cells, Zs.sn_done_cells, Zs.se_done_step, Zs.sn_done_step, Zs.se_done_words, Zs.sn_done_words, put_w ha, kv_len, Option.isSome_some, Option.isSome_none, and_self, and_true, true_and, List.take_length, eq_self]
theorem step_stop {w : PyData} (hx : lk c x = some (.o "stop" [])) : F_Machine_step [.box R.length, .d (.int r), .d w] (R ++ [mBox c h (.str x) t]) = .val (.d .none) (R ++ [mBox c h .none (r + 1)]) := by
  refine OkE.val (ok_def rfl ?_)
  unfold z_Machine_step mBox
  simp (disch := omega) only [wipeZ, forget, okE_val, okE_exc, okE_bind, okS_st, okS_seq, okS_nx, okS_rt, okS_bk, okS_ct, okS_ex, okE_ofOpt, zseq, zdrop, zapp, zset, zsetF, zifS, ztru, ztst, zop, zcb, zcf, zacons, zanil, zc, zv, znil, zret, zcall, zfz, znew, zneg, zos, zon, zsl, zslF, ztup, zlst, zand, zor, znot, zif, zpar, zpar3, zasg, gN, gT2, gT3, zdnew, zdput, zmt1, zcnt1, zandV, zorV, znotV, zchain, zfrz, zbrk, zcnt, zopF, zpop0, zlput, zdget, zdin, zdnin, zdget2, zisi, ziA, ziQ, itemsQ, ziL, ziT, itemsL, itemsT, rng1_ok, rng2_ok, izs_len, izr_len, zipOf, enumOf, ofOpt, bind_val, bind_exc, st_val, st_exc, seq_nx, seq_rt, seq_ex, seq_bk, seq_ct, List.map_cons, List.map_nil, List.cons_append, List.nil_append, List.replicate, List.length_cons, List.length_nil, List.length_append, List.length_map, List.length_set, List.getElem?_cons_zero, List.getElem?_cons_succ, List.getElem?_nil, List.set_cons_zero, List.set_cons_succ, lstAt, res, resD, truS, truth, app2, on1, on2, lstOnly, lenS, allD_nil, allD_cons, Option.map_some, Option.map_none, Option.bind_some, Option.bind_none, dAdd, dSub, dMul_ok, dMod_ok, dDiv_ok, dLt, dLe, dGt, dGe, dEq_i, dEq_s, dEq_b, dNe_i, dNe_s, dNe_b, dEq_ti, dNe_ti, dEq_li, dNe_li, dIs, dIsNot, nonD, dIn, dNotIn, dIx, atI_0, atI_1, atI_2, dTup, dInt, dMin, dMax, dSum, dAll, dAny, intsOf_map, bolsOf_map, intsOf_nil, intsOf_cons, dMin2, dMax2, dAbs, keySl, Z.keyOf, putS, lim, retN_d, getLast0, setLast0, takeLast0, takeLast1, List.take_succ_cons, List.take_zero, List.take_length, List.take_nil, decide_eq_true_eq, beq_iff_eq, if_true, if_false, Bool.not_true, Bool.not_false, Bool.not_eq_true', Bool.false_eq_true, Bool.true_eq_false, reduceIte, if_pos, if_neg, Nat.add_eq, List.isEmpty_cons, List.isEmpty_nil, Option.some.injEq, decide_true, decide_false, decide_eq_true, decide_eq_false, beq_self_eq_true, BEq.rfl, beq_eq_false_iff_ne, Nat.zero_add, Nat.reduceAdd, Int.toNat_natCast, Bool.not_eq_true, decide_eq_false_iff_not, bne_iff_ne, ne_eq, not_true_eq_false, not_false_eq_true, insAt, putA, List.lookup_cons, List.lookup_nil, zattr, zaset, zmeth, zmake, zpr, zpr1, zasgP, zlset, zlrg, zkin, zkget, zact, lamOf, zlamcall, noExc, zraise, znil, Zc.t_BEATS, Zc.o_BEATS, retN_d, Zs.se_put_add, Zs.sn_put_add, Zs.se_put_sub, Zs.sn_put_sub, Zs.se_put_save, Zs.sn_put_save, Zs.se_put_less, Zs.sn_put_less, Zs.se_put_stop, Zs.sn_put_stop, Zs.se_add_put, Zs.sn_add_put, Zs.se_add_sub, Zs.sn_add_sub, Zs.se_add_save, Zs.sn_add_save, Zs.se_add_less, Zs.sn_add_less, Zs.se_add_stop, Zs.sn_add_stop, Zs.se_sub_put, Zs.sn_sub_put, Zs.se_sub_add, Zs.sn_sub_add, Zs.se_sub_save, Zs.sn_sub_save, Zs.se_sub_less, Zs.sn_sub_less, Zs.se_sub_stop, Zs.sn_sub_stop, Zs.se_save_put, Zs.sn_save_put, Zs.se_save_add, Zs.sn_save_add, Zs.se_save_sub, Zs.sn_save_sub, Zs.se_save_less, Zs.sn_save_less, Zs.se_save_stop, Zs.sn_save_stop, Zs.se_less_put, Zs.sn_less_put, Zs.se_less_add, Zs.sn_less_add, Zs.se_less_sub, Zs.sn_less_sub, Zs.se_less_save, Zs.sn_less_save, Zs.se_less_stop, Zs.sn_less_stop, Zs.se_stop_put, Zs.sn_stop_put, Zs.se_stop_add, Zs.sn_stop_add, Zs.se_stop_sub, Zs.sn_stop_sub, Zs.se_stop_save, Zs.sn_stop_save, Zs.se_stop_less, Zs.sn_stop_less, Zs.se_held_next, Zs.sn_held_next, Zs.se_held_time, Zs.sn_held_time, Zs.se_held_cells, Zs.sn_held_cells, Zs.se_held_step, Zs.sn_held_step, Zs.se_held_words, Zs.sn_held_words, Zs.se_held_done, Zs.sn_held_done, Zs.se_next_held, Zs.sn_next_held, Zs.se_next_time, Zs.sn_next_time, Zs.se_next_cells, Zs.sn_next_cells, Zs.se_next_step, Zs.sn_next_step, Zs.se_next_words, Zs.sn_next_words, Zs.se_next_done, Zs.sn_next_done, Zs.se_time_held, Zs.sn_time_held, Zs.se_time_next, Zs.sn_time_next, Zs.se_time_cells, Zs.sn_time_cells, Zs.se_time_step, Zs.sn_time_step, Zs.se_time_words, Zs.sn_time_words, Zs.se_time_done, Zs.sn_time_done, Zs.se_cells_held, Zs.sn_cells_held, Zs.se_cells_next, Zs.sn_cells_next, Zs.se_cells_time, Zs.sn_cells_time, Zs.se_cells_step, Zs.sn_cells_step, Zs.se_cells_words, Zs.sn_cells_words, Zs.se_cells_done, Zs.sn_cells_done, Zs.se_step_held, Zs.sn_step_held, Zs.se_step_next, Zs.sn_step_next, Zs.se_step_time, Zs.sn_step_time, Zs.se_step_cells, Zs.sn_step_cells, Zs.se_step_words, Zs.sn_step_words, Zs.se_step_done, Zs.sn_step_done, Zs.se_words_held, Zs.sn_words_held, Zs.se_words_next, Zs.sn_words_next, Zs.se_words_time, Zs.sn_words_time, Zs.se_words_cells, Zs.sn_words_cells, Zs.se_words_step, Zs.sn_words_step, Zs.se_words_done, Zs.sn_words_done, Zs.se_done_held, Zs.sn_done_held, Zs.se_done_next, Zs.sn_done_next, Zs.se_done_time, Zs.sn_done_time, Zs.se_done_cells, Zs.sn_done_cells, Zs.se_done_step, Zs.sn_done_step, Zs.se_done_words, Zs.sn_done_words, val_kv, hx, dCell, Option.isSome_some, Option.isSome_none, and_self, and_true, true_and, List.take_length, eq_self]
theorem step_less {w : PyData} (hx : lk c x = some (.o "less" [a, b])) : F_Machine_step [.box R.length, .d (.int r), .d w] (R ++ [mBox c h (.str x) t]) = .val (.d .none) (R ++ [mBox c h (.str (if 0 ≤ h then b else a)) (r + 2)]) := by
  refine OkE.val (ok_def rfl ?_)
  unfold z_Machine_step mBox
  by_cases hh : 0 ≤ h
  · simp (disch := omega) only [wipeZ, forget, okE_val, okE_exc, okE_bind, okS_st, okS_seq, okS_nx, okS_rt, okS_bk, okS_ct, okS_ex, okE_ofOpt, zseq, zdrop, zapp, zset, zsetF, zifS, ztru, ztst, zop, zcb, zcf, zacons, zanil, zc, zv, znil, zret, zcall, zfz, znew, zneg, zos, zon, zsl, zslF, ztup, zlst, zand, zor, znot, zif, zpar, zpar3, zasg, gN, gT2, gT3, zdnew, zdput, zmt1, zcnt1, zandV, zorV, znotV, zchain, zfrz, zbrk, zcnt, zopF, zpop0, zlput, zdget, zdin, zdnin, zdget2, zisi, ziA, ziQ, itemsQ, ziL, ziT, itemsL, itemsT, rng1_ok, rng2_ok, izs_len, izr_len, zipOf, enumOf, ofOpt, bind_val, bind_exc, st_val, st_exc, seq_nx, seq_rt, seq_ex, seq_bk, seq_ct, List.map_cons, List.map_nil, List.cons_append, List.nil_append, List.replicate, List.length_cons, List.length_nil, List.length_append, List.length_map, List.length_set, List.getElem?_cons_zero, List.getElem?_cons_succ, List.getElem?_nil, List.set_cons_zero, List.set_cons_succ, lstAt, res, resD, truS, truth, app2, on1, on2, lstOnly, lenS, allD_nil, allD_cons, Option.map_some, Option.map_none, Option.bind_some, Option.bind_none, dAdd, dSub, dMul_ok, dMod_ok, dDiv_ok, dLt, dLe, dGt, dGe, dEq_i, dEq_s, dEq_b, dNe_i, dNe_s, dNe_b, dEq_ti, dNe_ti, dEq_li, dNe_li, dIs, dIsNot, nonD, dIn, dNotIn, dIx, atI_0, atI_1, atI_2, dTup, dInt, dMin, dMax, dSum, dAll, dAny, intsOf_map, bolsOf_map, intsOf_nil, intsOf_cons, dMin2, dMax2, dAbs, keySl, Z.keyOf, putS, lim, retN_d, getLast0, setLast0, takeLast0, takeLast1, List.take_succ_cons, List.take_zero, List.take_length, List.take_nil, decide_eq_true_eq, beq_iff_eq, if_true, if_false, Bool.not_true, Bool.not_false, Bool.not_eq_true', Bool.false_eq_true, Bool.true_eq_false, reduceIte, if_pos, if_neg, Nat.add_eq, List.isEmpty_cons, List.isEmpty_nil, Option.some.injEq, decide_true, decide_false, decide_eq_true, decide_eq_false, beq_self_eq_true, BEq.rfl, beq_eq_false_iff_ne, Nat.zero_add, Nat.reduceAdd, Int.toNat_natCast, Bool.not_eq_true, decide_eq_false_iff_not, bne_iff_ne, ne_eq, not_true_eq_false, not_false_eq_true, insAt, putA, List.lookup_cons, List.lookup_nil, zattr, zaset, zmeth, zmake, zpr, zpr1, zasgP, zlset, zlrg, zkin, zkget, zact, lamOf, zlamcall, noExc, zraise, znil, Zc.t_BEATS, Zc.o_BEATS, retN_d, Zs.se_put_add, Zs.sn_put_add, Zs.se_put_sub, Zs.sn_put_sub, Zs.se_put_save, Zs.sn_put_save, Zs.se_put_less, Zs.sn_put_less, Zs.se_put_stop, Zs.sn_put_stop, Zs.se_add_put, Zs.sn_add_put, Zs.se_add_sub, Zs.sn_add_sub, Zs.se_add_save, Zs.sn_add_save, Zs.se_add_less, Zs.sn_add_less, Zs.se_add_stop, Zs.sn_add_stop, Zs.se_sub_put, Zs.sn_sub_put, Zs.se_sub_add, Zs.sn_sub_add, Zs.se_sub_save, Zs.sn_sub_save, Zs.se_sub_less, Zs.sn_sub_less, Zs.se_sub_stop, Zs.sn_sub_stop, Zs.se_save_put, Zs.sn_save_put, Zs.se_save_add, Zs.sn_save_add, Zs.se_save_sub, Zs.sn_save_sub, Zs.se_save_less, Zs.sn_save_less, Zs.se_save_stop, Zs.sn_save_stop, Zs.se_less_put, Zs.sn_less_put, Zs.se_less_add, Zs.sn_less_add, Zs.se_less_sub, Zs.sn_less_sub, Zs.se_less_save, Zs.sn_less_save, Zs.se_less_stop, Zs.sn_less_stop, Zs.se_stop_put, Zs.sn_stop_put, Zs.se_stop_add, Zs.sn_stop_add, Zs.se_stop_sub, Zs.sn_stop_sub, Zs.se_stop_save, Zs.sn_stop_save, Zs.se_stop_less, Zs.sn_stop_less, Zs.se_held_next, Zs.sn_held_next, Zs.se_held_time, Zs.sn_held_time, Zs.se_held_cells, Zs.sn_held_cells, Zs.se_held_step, Zs.sn_held_step, Zs.se_held_words, Zs.sn_held_words, Zs.se_held_done, Zs.sn_held_done, Zs.se_next_held, Zs.sn_next_held, Zs.se_next_time, Zs.sn_next_time, Zs.se_next_cells, Zs.sn_next_cells, Zs.se_next_step, Zs.sn_next_step, Zs.se_next_words, Zs.sn_next_words, Zs.se_next_done, Zs.sn_next_done, Zs.se_time_held, Zs.sn_time_held, Zs.se_time_next, Zs.sn_time_next, Zs.se_time_cells, Zs.sn_time_cells, Zs.se_time_step, Zs.sn_time_step, Zs.se_time_words, Zs.sn_time_words, Zs.se_time_done, Zs.sn_time_done, Zs.se_cells_held, Zs.sn_cells_held, Zs.se_cells_next, Zs.sn_cells_next, Zs.se_cells_time, Zs.sn_cells_time, Zs.se_cells_step, Zs.sn_cells_step, Zs.se_cells_words, Zs.sn_cells_words, Zs.se_cells_done, Zs.sn_cells_done, Zs.se_step_held, Zs.sn_step_held, Zs.se_step_next, Zs.sn_step_next, Zs.se_step_time, Zs.sn_step_time, Zs.se_step_cells, Zs.sn_step_cells, Zs.se_step_words, Zs.sn_step_words, Zs.se_step_done, Zs.sn_step_done, Zs.se_words_held, Zs.sn_words_held, Zs.se_words_next, Zs.sn_words_next, Zs.se_words_time, Zs.sn_words_time, Zs.se_words_cells, Zs.sn_words_cells, Zs.se_words_step, Zs.sn_words_step, Zs.se_words_done, Zs.sn_words_done, Zs.se_done_held, Zs.sn_done_held, Zs.se_done_next, Zs.sn_done_next, Zs.se_done_time, Zs.sn_done_time, Zs.se_done_cells, Zs.sn_done_cells, Zs.se_done_step, Zs.sn_done_step, Zs.se_done_words, Zs.sn_done_words, val_kv, hx, dCell, Int.reduceAdd, hh, Option.isSome_some, Option.isSome_none, and_self, and_true, true_and, List.take_length, eq_self]
  · simp (disch := omega) only [wipeZ, forget, okE_val, okE_exc, okE_bind, okS_st, okS_seq, okS_nx, okS_rt, okS_bk, okS_ct, okS_ex, okE_ofOpt, zseq, zdrop, zapp, zset, zsetF, zifS, ztru, ztst, zop, zcb, zcf, zacons, zanil, zc, zv, znil, zret, zcall, zfz, znew, zneg, zos, zon, zsl, zslF, ztup, zlst, zand, zor, znot, zif, zpar, zpar3, zasg, gN, gT2, gT3, zdnew, zdput, zmt1, zcnt1, zandV, zorV, znotV, zchain, zfrz, zbrk, zcnt, zopF, zpop0, zlput, zdget, zdin, zdnin, zdget2, zisi, ziA, ziQ, itemsQ, ziL, ziT, itemsL, itemsT, rng1_ok, rng2_ok, izs_len, izr_len, zipOf, enumOf, ofOpt, bind_val, bind_exc, st_val, st_exc, seq_nx, seq_rt, seq_ex, seq_bk, seq_ct, List.map_cons, List.map_nil, List.cons_append, List.nil_append, List.replicate, List.length_cons, List.length_nil, List.length_append, List.length_map, List.length_set, List.getElem?_cons_zero, List.getElem?_cons_succ, List.getElem?_nil, List.set_cons_zero, List.set_cons_succ, lstAt, res, resD, truS, truth, app2, on1, on2, lstOnly, lenS, allD_nil, allD_cons, Option.map_some, Option.map_none, Option.bind_some, Option.bind_none, dAdd, dSub, dMul_ok, dMod_ok, dDiv_ok, dLt, dLe, dGt, dGe, dEq_i, dEq_s, dEq_b, dNe_i, dNe_s, dNe_b, dEq_ti, dNe_ti, dEq_li, dNe_li, dIs, dIsNot, nonD, dIn, dNotIn, dIx, atI_0, atI_1, atI_2, dTup, dInt, dMin, dMax, dSum, dAll, dAny, intsOf_map, bolsOf_map, intsOf_nil, intsOf_cons, dMin2, dMax2, dAbs, keySl, Z.keyOf, putS, lim, retN_d, getLast0, setLast0, takeLast0, takeLast1, List.take_succ_cons, List.take_zero, List.take_length, List.take_nil, decide_eq_true_eq, beq_iff_eq, if_true, if_false, Bool.not_true, Bool.not_false, Bool.not_eq_true', Bool.false_eq_true, Bool.true_eq_false, reduceIte, if_pos, if_neg, Nat.add_eq, List.isEmpty_cons, List.isEmpty_nil, Option.some.injEq, decide_true, decide_false, decide_eq_true, decide_eq_false, beq_self_eq_true, BEq.rfl, beq_eq_false_iff_ne, Nat.zero_add, Nat.reduceAdd, Int.toNat_natCast, Bool.not_eq_true, decide_eq_false_iff_not, bne_iff_ne, ne_eq, not_true_eq_false, not_false_eq_true, insAt, putA, List.lookup_cons, List.lookup_nil, zattr, zaset, zmeth, zmake, zpr, zpr1, zasgP, zlset, zlrg, zkin, zkget, zact, lamOf, zlamcall, noExc, zraise, znil, Zc.t_BEATS, Zc.o_BEATS, retN_d, Zs.se_put_add, Zs.sn_put_add, Zs.se_put_sub, Zs.sn_put_sub, Zs.se_put_save, Zs.sn_put_save, Zs.se_put_less, Zs.sn_put_less, Zs.se_put_stop, Zs.sn_put_stop, Zs.se_add_put, Zs.sn_add_put, Zs.se_add_sub, Zs.sn_add_sub, Zs.se_add_save, Zs.sn_add_save, Zs.se_add_less, Zs.sn_add_less, Zs.se_add_stop, Zs.sn_add_stop, Zs.se_sub_put, Zs.sn_sub_put, Zs.se_sub_add, Zs.sn_sub_add, Zs.se_sub_save, Zs.sn_sub_save, Zs.se_sub_less, Zs.sn_sub_less, Zs.se_sub_stop, Zs.sn_sub_stop, Zs.se_save_put, Zs.sn_save_put, Zs.se_save_add, Zs.sn_save_add, Zs.se_save_sub, Zs.sn_save_sub, Zs.se_save_less, Zs.sn_save_less, Zs.se_save_stop, Zs.sn_save_stop, Zs.se_less_put, Zs.sn_less_put, Zs.se_less_add, Zs.sn_less_add, Zs.se_less_sub, Zs.sn_less_sub, Zs.se_less_save, Zs.sn_less_save, Zs.se_less_stop, Zs.sn_less_stop, Zs.se_stop_put, Zs.sn_stop_put, Zs.se_stop_add, Zs.sn_stop_add, Zs.se_stop_sub, Zs.sn_stop_sub, Zs.se_stop_save, Zs.sn_stop_save, Zs.se_stop_less, Zs.sn_stop_less, Zs.se_held_next, Zs.sn_held_next, Zs.se_held_time, Zs.sn_held_time, Zs.se_held_cells, Zs.sn_held_cells, Zs.se_held_step, Zs.sn_held_step, Zs.se_held_words, Zs.sn_held_words, Zs.se_held_done, Zs.sn_held_done, Zs.se_next_held, Zs.sn_next_held, Zs.se_next_time, Zs.sn_next_time, Zs.se_next_cells, Zs.sn_next_cells, Zs.se_next_step, Zs.sn_next_step, Zs.se_next_words, Zs.sn_next_words, Zs.se_next_done, Zs.sn_next_done, Zs.se_time_held, Zs.sn_time_held, Zs.se_time_next, Zs.sn_time_next, Zs.se_time_cells, Zs.sn_time_cells, Zs.se_time_step, Zs.sn_time_step, Zs.se_time_words, Zs.sn_time_words, Zs.se_time_done, Zs.sn_time_done, Zs.se_cells_held, Zs.sn_cells_held, Zs.se_cells_next, Zs.sn_cells_next, Zs.se_cells_time, Zs.sn_cells_time, Zs.se_cells_step, Zs.sn_cells_step, Zs.se_cells_words, Zs.sn_cells_words, Zs.se_cells_done, Zs.sn_cells_done, Zs.se_step_held, Zs.sn_step_held, Zs.se_step_next, Zs.sn_step_next, Zs.se_step_time, Zs.sn_step_time, Zs.se_step_cells, Zs.sn_step_cells, Zs.se_step_words, Zs.sn_step_words, Zs.se_step_done, Zs.sn_step_done, Zs.se_words_held, Zs.sn_words_held, Zs.se_words_next, Zs.sn_words_next, Zs.se_words_time, Zs.sn_words_time, Zs.se_words_cells, Zs.sn_words_cells, Zs.se_words_step, Zs.sn_words_step, Zs.se_words_done, Zs.sn_words_done, Zs.se_done_held, Zs.sn_done_held, Zs.se_done_next, Zs.sn_done_next, Zs.se_done_time, Zs.sn_done_time, Zs.se_done_cells, Zs.sn_done_cells, Zs.se_done_step, Zs.sn_done_step, Zs.se_done_words, Zs.sn_done_words, val_kv, hx, dCell, Int.reduceAdd, hh, Option.isSome_some, Option.isSome_none, and_self, and_true, true_and, List.take_length, eq_self]
theorem step_put (hx : lk c x = some (.o "put" [a, b])) (ha : lk c a = some (.w v)) : F_Machine_step [.box R.length, .d (.int r), .d (.int wd)] (R ++ [mBox c h (.str x) t]) = .val (.d .none) (R ++ [mBox c v (.str b) (wd + 1)]) := by
  have e := done_put (R := R) (h := h) (nx := .str x) (t := t) (b := b) ha
  have et : wd + 1 + 1 = wd + 2 := by omega
  unfold mBox at e
  refine OkE.val (ok_def rfl ?_)
  unfold z_Machine_step mBox
  simp (disch := omega) only [wipeZ, forget, okE_val, okE_exc, okE_bind, okS_st, okS_seq, okS_nx, okS_rt, okS_bk, okS_ct, okS_ex, okE_ofOpt, zseq, zdrop, zapp, zset, zsetF, zifS, ztru, ztst, zop, zcb, zcf, zacons, zanil, zc, zv, znil, zret, zcall, zfz, znew, zneg, zos, zon, zsl, zslF, ztup, zlst, zand, zor, znot, zif, zpar, zpar3, zasg, gN, gT2, gT3, zdnew, zdput, zmt1, zcnt1, zandV, zorV, znotV, zchain, zfrz, zbrk, zcnt, zopF, zpop0, zlput, zdget, zdin, zdnin, zdget2, zisi, ziA, ziQ, itemsQ, ziL, ziT, itemsL, itemsT, rng1_ok, rng2_ok, izs_len, izr_len, zipOf, enumOf, ofOpt, bind_val, bind_exc, st_val, st_exc, seq_nx, seq_rt, seq_ex, seq_bk, seq_ct, List.map_cons, List.map_nil, List.cons_append, List.nil_append, List.replicate, List.length_cons, List.length_nil, List.length_append, List.length_map, List.length_set, List.getElem?_cons_zero, List.getElem?_cons_succ, List.getElem?_nil, List.set_cons_zero, List.set_cons_succ, lstAt, res, resD, truS, truth, app2, on1, on2, lstOnly, lenS, allD_nil, allD_cons, Option.map_some, Option.map_none, Option.bind_some, Option.bind_none, dAdd, dSub, dMul_ok, dMod_ok, dDiv_ok, dLt, dLe, dGt, dGe, dEq_i, dEq_s, dEq_b, dNe_i, dNe_s, dNe_b, dEq_ti, dNe_ti, dEq_li, dNe_li, dIs, dIsNot, nonD, dIn, dNotIn, dIx, atI_0, atI_1, atI_2, dTup, dInt, dMin, dMax, dSum, dAll, dAny, intsOf_map, bolsOf_map, intsOf_nil, intsOf_cons, dMin2, dMax2, dAbs, keySl, Z.keyOf, putS, lim, retN_d, getLast0, setLast0, takeLast0, takeLast1, List.take_succ_cons, List.take_zero, List.take_length, List.take_nil, decide_eq_true_eq, beq_iff_eq, if_true, if_false, Bool.not_true, Bool.not_false, Bool.not_eq_true', Bool.false_eq_true, Bool.true_eq_false, reduceIte, if_pos, if_neg, Nat.add_eq, List.isEmpty_cons, List.isEmpty_nil, Option.some.injEq, decide_true, decide_false, decide_eq_true, decide_eq_false, beq_self_eq_true, BEq.rfl, beq_eq_false_iff_ne, Nat.zero_add, Nat.reduceAdd, Int.toNat_natCast, Bool.not_eq_true, decide_eq_false_iff_not, bne_iff_ne, ne_eq, not_true_eq_false, not_false_eq_true, insAt, putA, List.lookup_cons, List.lookup_nil, zattr, zaset, zmeth, zmake, zpr, zpr1, zasgP, zlset, zlrg, zkin, zkget, zact, lamOf, zlamcall, noExc, zraise, znil, Zc.t_BEATS, Zc.o_BEATS, retN_d, Zs.se_put_add, Zs.sn_put_add, Zs.se_put_sub, Zs.sn_put_sub, Zs.se_put_save, Zs.sn_put_save, Zs.se_put_less, Zs.sn_put_less, Zs.se_put_stop, Zs.sn_put_stop, Zs.se_add_put, Zs.sn_add_put, Zs.se_add_sub, Zs.sn_add_sub, Zs.se_add_save, Zs.sn_add_save, Zs.se_add_less, Zs.sn_add_less, Zs.se_add_stop, Zs.sn_add_stop, Zs.se_sub_put, Zs.sn_sub_put, Zs.se_sub_add, Zs.sn_sub_add, Zs.se_sub_save, Zs.sn_sub_save, Zs.se_sub_less, Zs.sn_sub_less, Zs.se_sub_stop, Zs.sn_sub_stop, Zs.se_save_put, Zs.sn_save_put, Zs.se_save_add, Zs.sn_save_add, Zs.se_save_sub, Zs.sn_save_sub, Zs.se_save_less, Zs.sn_save_less, Zs.se_save_stop, Zs.sn_save_stop, Zs.se_less_put, Zs.sn_less_put, Zs.se_less_add, Zs.sn_less_add, Zs.se_less_sub, Zs.sn_less_sub, Zs.se_less_save, Zs.sn_less_save, Zs.se_less_stop, Zs.sn_less_stop, Zs.se_stop_put, Zs.sn_stop_put, Zs.se_stop_add, Zs.sn_stop_add, Zs.se_stop_sub, Zs.sn_stop_sub, Zs.se_stop_save, Zs.sn_stop_save, Zs.se_stop_less, Zs.sn_stop_less, Zs.se_held_next, Zs.sn_held_next, Zs.se_held_time, Zs.sn_held_time, Zs.se_held_cells, Zs.sn_held_cells, Zs.se_held_step, Zs.sn_held_step, Zs.se_held_words, Zs.sn_held_words, Zs.se_held_done, Zs.sn_held_done, Zs.se_next_held, Zs.sn_next_held, Zs.se_next_time, Zs.sn_next_time, Zs.se_next_cells, Zs.sn_next_cells, Zs.se_next_step, Zs.sn_next_step, Zs.se_next_words, Zs.sn_next_words, Zs.se_next_done, Zs.sn_next_done, Zs.se_time_held, Zs.sn_time_held, Zs.se_time_next, Zs.sn_time_next, Zs.se_time_cells, Zs.sn_time_cells, Zs.se_time_step, Zs.sn_time_step, Zs.se_time_words, Zs.sn_time_words, Zs.se_time_done, Zs.sn_time_done, Zs.se_cells_held, Zs.sn_cells_held, Zs.se_cells_next, Zs.sn_cells_next, Zs.se_cells_time, Zs.sn_cells_time, Zs.se_cells_step, Zs.sn_cells_step, Zs.se_cells_words, Zs.sn_cells_words, Zs.se_cells_done, Zs.sn_cells_done, Zs.se_step_held, Zs.sn_step_held, Zs.se_step_next, Zs.sn_step_next, Zs.se_step_time, Zs.sn_step_time, Zs.se_step_cells, Zs.sn_step_cells, Zs.se_step_words, Zs.sn_step_words, Zs.se_step_done, Zs.sn_step_done, Zs.se_words_held, Zs.sn_words_held, Zs.se_words_next, Zs.sn_words_next, Zs.se_words_time, Zs.sn_words_time, Zs.se_words_cells, Zs.sn_words_cells, Zs.se_words_step, Zs.sn_words_step, Zs.se_words_done, Zs.sn_words_done, Zs.se_done_held, Zs.sn_done_held, Zs.se_done_next, Zs.sn_done_next, Zs.se_done_time, Zs.sn_done_time, Zs.se_done_cells, Zs.sn_done_cells, Zs.se_done_step, Zs.sn_done_step, Zs.se_done_words, Zs.sn_done_words, val_kv, hx, dCell, e, et, Int.add_zero, Option.isSome_some, Option.isSome_none, and_self, and_true, true_and, List.take_length, eq_self]
theorem step_add (hx : lk c x = some (.o "add" [a, b])) (ha : lk c a = some (.w v)) : F_Machine_step [.box R.length, .d (.int r), .d (.int wd)] (R ++ [mBox c h (.str x) t]) = .val (.d .none) (R ++ [mBox c (hold (h + v)) (.str b) (wd + 2)]) := by
  have e := done_add (R := R) (h := h) (nx := .str x) (t := t) (b := b) ha
  have et : wd + 1 + 1 = wd + 2 := by omega
  unfold mBox at e
  refine OkE.val (ok_def rfl ?_)
  unfold z_Machine_step mBox
  simp (disch := omega) only [wipeZ, forget, okE_val, okE_exc, okE_bind, okS_st, okS_seq, okS_nx, okS_rt, okS_bk, okS_ct, okS_ex, okE_ofOpt, zseq, zdrop, zapp, zset, zsetF, zifS, ztru, ztst, zop, zcb, zcf, zacons, zanil, zc, zv, znil, zret, zcall, zfz, znew, zneg, zos, zon, zsl, zslF, ztup, zlst, zand, zor, znot, zif, zpar, zpar3, zasg, gN, gT2, gT3, zdnew, zdput, zmt1, zcnt1, zandV, zorV, znotV, zchain, zfrz, zbrk, zcnt, zopF, zpop0, zlput, zdget, zdin, zdnin, zdget2, zisi, ziA, ziQ, itemsQ, ziL, ziT, itemsL, itemsT, rng1_ok, rng2_ok, izs_len, izr_len, zipOf, enumOf, ofOpt, bind_val, bind_exc, st_val, st_exc, seq_nx, seq_rt, seq_ex, seq_bk, seq_ct, List.map_cons, List.map_nil, List.cons_append, List.nil_append, List.replicate, List.length_cons, List.length_nil, List.length_append, List.length_map, List.length_set, List.getElem?_cons_zero, List.getElem?_cons_succ, List.getElem?_nil, List.set_cons_zero, List.set_cons_succ, lstAt, res, resD, truS, truth, app2, on1, on2, lstOnly, lenS, allD_nil, allD_cons, Option.map_some, Option.map_none, Option.bind_some, Option.bind_none, dAdd, dSub, dMul_ok, dMod_ok, dDiv_ok, dLt, dLe, dGt, dGe, dEq_i, dEq_s, dEq_b, dNe_i, dNe_s, dNe_b, dEq_ti, dNe_ti, dEq_li, dNe_li, dIs, dIsNot, nonD, dIn, dNotIn, dIx, atI_0, atI_1, atI_2, dTup, dInt, dMin, dMax, dSum, dAll, dAny, intsOf_map, bolsOf_map, intsOf_nil, intsOf_cons, dMin2, dMax2, dAbs, keySl, Z.keyOf, putS, lim, retN_d, getLast0, setLast0, takeLast0, takeLast1, List.take_succ_cons, List.take_zero, List.take_length, List.take_nil, decide_eq_true_eq, beq_iff_eq, if_true, if_false, Bool.not_true, Bool.not_false, Bool.not_eq_true', Bool.false_eq_true, Bool.true_eq_false, reduceIte, if_pos, if_neg, Nat.add_eq, List.isEmpty_cons, List.isEmpty_nil, Option.some.injEq, decide_true, decide_false, decide_eq_true, decide_eq_false, beq_self_eq_true, BEq.rfl, beq_eq_false_iff_ne, Nat.zero_add, Nat.reduceAdd, Int.toNat_natCast, Bool.not_eq_true, decide_eq_false_iff_not, bne_iff_ne, ne_eq, not_true_eq_false, not_false_eq_true, insAt, putA, List.lookup_cons, List.lookup_nil, zattr, zaset, zmeth, zmake, zpr, zpr1, zasgP, zlset, zlrg, zkin, zkget, zact, lamOf, zlamcall, noExc, zraise, znil, Zc.t_BEATS, Zc.o_BEATS, retN_d, Zs.se_put_add, Zs.sn_put_add, Zs.se_put_sub, Zs.sn_put_sub, Zs.se_put_save, Zs.sn_put_save, Zs.se_put_less, Zs.sn_put_less, Zs.se_put_stop, Zs.sn_put_stop, Zs.se_add_put, Zs.sn_add_put, Zs.se_add_sub, Zs.sn_add_sub, Zs.se_add_save, Zs.sn_add_save, Zs.se_add_less, Zs.sn_add_less, Zs.se_add_stop, Zs.sn_add_stop, Zs.se_sub_put, Zs.sn_sub_put, Zs.se_sub_add, Zs.sn_sub_add, Zs.se_sub_save, Zs.sn_sub_save, Zs.se_sub_less, Zs.sn_sub_less, Zs.se_sub_stop, Zs.sn_sub_stop, Zs.se_save_put, Zs.sn_save_put, Zs.se_save_add, Zs.sn_save_add, Zs.se_save_sub, Zs.sn_save_sub, Zs.se_save_less, Zs.sn_save_less, Zs.se_save_stop, Zs.sn_save_stop, Zs.se_less_put, Zs.sn_less_put, Zs.se_less_add, Zs.sn_less_add, Zs.se_less_sub, Zs.sn_less_sub, Zs.se_less_save, Zs.sn_less_save, Zs.se_less_stop, Zs.sn_less_stop, Zs.se_stop_put, Zs.sn_stop_put, Zs.se_stop_add, Zs.sn_stop_add, Zs.se_stop_sub, Zs.sn_stop_sub, Zs.se_stop_save, Zs.sn_stop_save, Zs.se_stop_less, Zs.sn_stop_less, Zs.se_held_next, Zs.sn_held_next, Zs.se_held_time, Zs.sn_held_time, Zs.se_held_cells, Zs.sn_held_cells, Zs.se_held_step, Zs.sn_held_step, Zs.se_held_words, Zs.sn_held_words, Zs.se_held_done, Zs.sn_held_done, Zs.se_next_held, Zs.sn_next_held, Zs.se_next_time, Zs.sn_next_time, Zs.se_next_cells, Zs.sn_next_cells, Zs.se_next_step, Zs.sn_next_step, Zs.se_next_words, Zs.sn_next_words, Zs.se_next_done, Zs.sn_next_done, Zs.se_time_held, Zs.sn_time_held, Zs.se_time_next, Zs.sn_time_next, Zs.se_time_cells, Zs.sn_time_cells, Zs.se_time_step, Zs.sn_time_step, Zs.se_time_words, Zs.sn_time_words, Zs.se_time_done, Zs.sn_time_done, Zs.se_cells_held, Zs.sn_cells_held, Zs.se_cells_next, Zs.sn_cells_next, Zs.se_cells_time, Zs.sn_cells_time, Zs.se_cells_step, Zs.sn_cells_step, Zs.se_cells_words, Zs.sn_cells_words, Zs.se_cells_done, Zs.sn_cells_done, Zs.se_step_held, Zs.sn_step_held, Zs.se_step_next, Zs.sn_step_next, Zs.se_step_time, Zs.sn_step_time, Zs.se_step_cells, Zs.sn_step_cells, Zs.se_step_words, Zs.sn_step_words, Zs.se_step_done, Zs.sn_step_done, Zs.se_words_held, Zs.sn_words_held, Zs.se_words_next, Zs.sn_words_next, Zs.se_words_time, Zs.sn_words_time, Zs.se_words_cells, Zs.sn_words_cells, Zs.se_words_step, Zs.sn_words_step, Zs.se_words_done, Zs.sn_words_done, Zs.se_done_held, Zs.sn_done_held, Zs.se_done_next, Zs.sn_done_next, Zs.se_done_time, Zs.sn_done_time, Zs.se_done_cells, Zs.sn_done_cells, Zs.se_done_step, Zs.sn_done_step, Zs.se_done_words, Zs.sn_done_words, val_kv, hx, dCell, e, et, Int.add_zero, Option.isSome_some, Option.isSome_none, and_self, and_true, true_and, List.take_length, eq_self]
theorem step_sub (hx : lk c x = some (.o "sub" [a, b])) (ha : lk c a = some (.w v)) : F_Machine_step [.box R.length, .d (.int r), .d (.int wd)] (R ++ [mBox c h (.str x) t]) = .val (.d .none) (R ++ [mBox c (hold (h - v)) (.str b) (wd + 2)]) := by
  have e := done_sub (R := R) (h := h) (nx := .str x) (t := t) (b := b) ha
  have et : wd + 1 + 1 = wd + 2 := by omega
  unfold mBox at e
  refine OkE.val (ok_def rfl ?_)
  unfold z_Machine_step mBox
  simp (disch := omega) only [wipeZ, forget, okE_val, okE_exc, okE_bind, okS_st, okS_seq, okS_nx, okS_rt, okS_bk, okS_ct, okS_ex, okE_ofOpt, zseq, zdrop, zapp, zset, zsetF, zifS, ztru, ztst, zop, zcb, zcf, zacons, zanil, zc, zv, znil, zret, zcall, zfz, znew, zneg, zos, zon, zsl, zslF, ztup, zlst, zand, zor, znot, zif, zpar, zpar3, zasg, gN, gT2, gT3, zdnew, zdput, zmt1, zcnt1, zandV, zorV, znotV, zchain, zfrz, zbrk, zcnt, zopF, zpop0, zlput, zdget, zdin, zdnin, zdget2, zisi, ziA, ziQ, itemsQ, ziL, ziT, itemsL, itemsT, rng1_ok, rng2_ok, izs_len, izr_len, zipOf, enumOf, ofOpt, bind_val, bind_exc, st_val, st_exc, seq_nx, seq_rt, seq_ex, seq_bk, seq_ct, List.map_cons, List.map_nil, List.cons_append, List.nil_append, List.replicate, List.length_cons, List.length_nil, List.length_append, List.length_map, List.length_set, List.getElem?_cons_zero, List.getElem?_cons_succ, List.getElem?_nil, List.set_cons_zero, List.set_cons_succ, lstAt, res, resD, truS, truth, app2, on1, on2, lstOnly, lenS, allD_nil, allD_cons, Option.map_some, Option.map_none, Option.bind_some, Option.bind_none, dAdd, dSub, dMul_ok, dMod_ok, dDiv_ok, dLt, dLe, dGt, dGe, dEq_i, dEq_s, dEq_b, dNe_i, dNe_s, dNe_b, dEq_ti, dNe_ti, dEq_li, dNe_li, dIs, dIsNot, nonD, dIn, dNotIn, dIx, atI_0, atI_1, atI_2, dTup, dInt, dMin, dMax, dSum, dAll, dAny, intsOf_map, bolsOf_map, intsOf_nil, intsOf_cons, dMin2, dMax2, dAbs, keySl, Z.keyOf, putS, lim, retN_d, getLast0, setLast0, takeLast0, takeLast1, List.take_succ_cons, List.take_zero, List.take_length, List.take_nil, decide_eq_true_eq, beq_iff_eq, if_true, if_false, Bool.not_true, Bool.not_false, Bool.not_eq_true', Bool.false_eq_true, Bool.true_eq_false, reduceIte, if_pos, if_neg, Nat.add_eq, List.isEmpty_cons, List.isEmpty_nil, Option.some.injEq, decide_true, decide_false, decide_eq_true, decide_eq_false, beq_self_eq_true, BEq.rfl, beq_eq_false_iff_ne, Nat.zero_add, Nat.reduceAdd, Int.toNat_natCast, Bool.not_eq_true, decide_eq_false_iff_not, bne_iff_ne, ne_eq, not_true_eq_false, not_false_eq_true, insAt, putA, List.lookup_cons, List.lookup_nil, zattr, zaset, zmeth, zmake, zpr, zpr1, zasgP, zlset, zlrg, zkin, zkget, zact, lamOf, zlamcall, noExc, zraise, znil, Zc.t_BEATS, Zc.o_BEATS, retN_d, Zs.se_put_add, Zs.sn_put_add, Zs.se_put_sub, Zs.sn_put_sub, Zs.se_put_save, Zs.sn_put_save, Zs.se_put_less, Zs.sn_put_less, Zs.se_put_stop, Zs.sn_put_stop, Zs.se_add_put, Zs.sn_add_put, Zs.se_add_sub, Zs.sn_add_sub, Zs.se_add_save, Zs.sn_add_save, Zs.se_add_less, Zs.sn_add_less, Zs.se_add_stop, Zs.sn_add_stop, Zs.se_sub_put, Zs.sn_sub_put, Zs.se_sub_add, Zs.sn_sub_add, Zs.se_sub_save, Zs.sn_sub_save, Zs.se_sub_less, Zs.sn_sub_less, Zs.se_sub_stop, Zs.sn_sub_stop, Zs.se_save_put, Zs.sn_save_put, Zs.se_save_add, Zs.sn_save_add, Zs.se_save_sub, Zs.sn_save_sub, Zs.se_save_less, Zs.sn_save_less, Zs.se_save_stop, Zs.sn_save_stop, Zs.se_less_put, Zs.sn_less_put, Zs.se_less_add, Zs.sn_less_add, Zs.se_less_sub, Zs.sn_less_sub, Zs.se_less_save, Zs.sn_less_save, Zs.se_less_stop, Zs.sn_less_stop, Zs.se_stop_put, Zs.sn_stop_put, Zs.se_stop_add, Zs.sn_stop_add, Zs.se_stop_sub, Zs.sn_stop_sub, Zs.se_stop_save, Zs.sn_stop_save, Zs.se_stop_less, Zs.sn_stop_less, Zs.se_held_next, Zs.sn_held_next, Zs.se_held_time, Zs.sn_held_time, Zs.se_held_cells, Zs.sn_held_cells, Zs.se_held_step, Zs.sn_held_step, Zs.se_held_words, Zs.sn_held_words, Zs.se_held_done, Zs.sn_held_done, Zs.se_next_held, Zs.sn_next_held, Zs.se_next_time, Zs.sn_next_time, Zs.se_next_cells, Zs.sn_next_cells, Zs.se_next_step, Zs.sn_next_step, Zs.se_next_words, Zs.sn_next_words, Zs.se_next_done, Zs.sn_next_done, Zs.se_time_held, Zs.sn_time_held, Zs.se_time_next, Zs.sn_time_next, Zs.se_time_cells, Zs.sn_time_cells, Zs.se_time_step, Zs.sn_time_step, Zs.se_time_words, Zs.sn_time_words, Zs.se_time_done, Zs.sn_time_done, Zs.se_cells_held, Zs.sn_cells_held, Zs.se_cells_next, Zs.sn_cells_next, Zs.se_cells_time, Zs.sn_cells_time, Zs.se_cells_step, Zs.sn_cells_step, Zs.se_cells_words, Zs.sn_cells_words, Zs.se_cells_done, Zs.sn_cells_done, Zs.se_step_held, Zs.sn_step_held, Zs.se_step_next, Zs.sn_step_next, Zs.se_step_time, Zs.sn_step_time, Zs.se_step_cells, Zs.sn_step_cells, Zs.se_step_words, Zs.sn_step_words, Zs.se_step_done, Zs.sn_step_done, Zs.se_words_held, Zs.sn_words_held, Zs.se_words_next, Zs.sn_words_next, Zs.se_words_time, Zs.sn_words_time, Zs.se_words_cells, Zs.sn_words_cells, Zs.se_words_step, Zs.sn_words_step, Zs.se_words_done, Zs.sn_words_done, Zs.se_done_held, Zs.sn_done_held, Zs.se_done_next, Zs.sn_done_next, Zs.se_done_time, Zs.sn_done_time, Zs.se_done_cells, Zs.sn_done_cells, Zs.se_done_step, Zs.sn_done_step, Zs.se_done_words, Zs.sn_done_words, val_kv, hx, dCell, e, et, Int.add_zero, Option.isSome_some, Option.isSome_none, and_self, and_true, true_and, List.take_length, eq_self]
theorem step_save (hx : lk c x = some (.o "save" [a, b])) (ha : a ∈ c.map (·.1)) (hl : c.length ≤ 1000) : F_Machine_step [.box R.length, .d (.int r), .d (.int wd)] (R ++ [mBox c h (.str x) t]) = .val (.d .none) (R ++ [mBox (setC c a (.w h)) h (.str b) (wd + 1)]) := by
  have e := done_save (R := R) (h := h) (nx := .str x) (t := t) (b := b) ha hl
  unfold mBox at e
  refine OkE.val (ok_def rfl ?_)
  unfold z_Machine_step mBox
  simp (disch := omega) only [wipeZ, forget, okE_val, okE_exc, okE_bind, okS_st, okS_seq, okS_nx, okS_rt, okS_bk, okS_ct, okS_ex, okE_ofOpt, zseq, zdrop, zapp, zset, zsetF, zifS, ztru, ztst, zop, zcb, zcf, zacons, zanil, zc, zv, znil, zret, zcall, zfz, znew, zneg, zos, zon, zsl, zslF, ztup, zlst, zand, zor, znot, zif, zpar, zpar3, zasg, gN, gT2, gT3, zdnew, zdput, zmt1, zcnt1, zandV, zorV, znotV, zchain, zfrz, zbrk, zcnt, zopF, zpop0, zlput, zdget, zdin, zdnin, zdget2, zisi, ziA, ziQ, itemsQ, ziL, ziT, itemsL, itemsT, rng1_ok, rng2_ok, izs_len, izr_len, zipOf, enumOf, ofOpt, bind_val, bind_exc, st_val, st_exc, seq_nx, seq_rt, seq_ex, seq_bk, seq_ct, List.map_cons, List.map_nil, List.cons_append, List.nil_append, List.replicate, List.length_cons, List.length_nil, List.length_append, List.length_map, List.length_set, List.getElem?_cons_zero, List.getElem?_cons_succ, List.getElem?_nil, List.set_cons_zero, List.set_cons_succ, lstAt, res, resD, truS, truth, app2, on1, on2, lstOnly, lenS, allD_nil, allD_cons, Option.map_some, Option.map_none, Option.bind_some, Option.bind_none, dAdd, dSub, dMul_ok, dMod_ok, dDiv_ok, dLt, dLe, dGt, dGe, dEq_i, dEq_s, dEq_b, dNe_i, dNe_s, dNe_b, dEq_ti, dNe_ti, dEq_li, dNe_li, dIs, dIsNot, nonD, dIn, dNotIn, dIx, atI_0, atI_1, atI_2, dTup, dInt, dMin, dMax, dSum, dAll, dAny, intsOf_map, bolsOf_map, intsOf_nil, intsOf_cons, dMin2, dMax2, dAbs, keySl, Z.keyOf, putS, lim, retN_d, getLast0, setLast0, takeLast0, takeLast1, List.take_succ_cons, List.take_zero, List.take_length, List.take_nil, decide_eq_true_eq, beq_iff_eq, if_true, if_false, Bool.not_true, Bool.not_false, Bool.not_eq_true', Bool.false_eq_true, Bool.true_eq_false, reduceIte, if_pos, if_neg, Nat.add_eq, List.isEmpty_cons, List.isEmpty_nil, Option.some.injEq, decide_true, decide_false, decide_eq_true, decide_eq_false, beq_self_eq_true, BEq.rfl, beq_eq_false_iff_ne, Nat.zero_add, Nat.reduceAdd, Int.toNat_natCast, Bool.not_eq_true, decide_eq_false_iff_not, bne_iff_ne, ne_eq, not_true_eq_false, not_false_eq_true, insAt, putA, List.lookup_cons, List.lookup_nil, zattr, zaset, zmeth, zmake, zpr, zpr1, zasgP, zlset, zlrg, zkin, zkget, zact, lamOf, zlamcall, noExc, zraise, znil, Zc.t_BEATS, Zc.o_BEATS, retN_d, Zs.se_put_add, Zs.sn_put_add, Zs.se_put_sub, Zs.sn_put_sub, Zs.se_put_save, Zs.sn_put_save, Zs.se_put_less, Zs.sn_put_less, Zs.se_put_stop, Zs.sn_put_stop, Zs.se_add_put, Zs.sn_add_put, Zs.se_add_sub, Zs.sn_add_sub, Zs.se_add_save, Zs.sn_add_save, Zs.se_add_less, Zs.sn_add_less, Zs.se_add_stop, Zs.sn_add_stop, Zs.se_sub_put, Zs.sn_sub_put, Zs.se_sub_add, Zs.sn_sub_add, Zs.se_sub_save, Zs.sn_sub_save, Zs.se_sub_less, Zs.sn_sub_less, Zs.se_sub_stop, Zs.sn_sub_stop, Zs.se_save_put, Zs.sn_save_put, Zs.se_save_add, Zs.sn_save_add, Zs.se_save_sub, Zs.sn_save_sub, Zs.se_save_less, Zs.sn_save_less, Zs.se_save_stop, Zs.sn_save_stop, Zs.se_less_put, Zs.sn_less_put, Zs.se_less_add, Zs.sn_less_add, Zs.se_less_sub, Zs.sn_less_sub, Zs.se_less_save, Zs.sn_less_save, Zs.se_less_stop, Zs.sn_less_stop, Zs.se_stop_put, Zs.sn_stop_put, Zs.se_stop_add, Zs.sn_stop_add, Zs.se_stop_sub, Zs.sn_stop_sub, Zs.se_stop_save, Zs.sn_stop_save, Zs.se_stop_less, Zs.sn_stop_less, Zs.se_held_next, Zs.sn_held_next, Zs.se_held_time, Zs.sn_held_time, Zs.se_held_cells, Zs.sn_held_cells, Zs.se_held_step, Zs.sn_held_step, Zs.se_held_words, Zs.sn_held_words, Zs.se_held_done, Zs.sn_held_done, Zs.se_next_held, Zs.sn_next_held, Zs.se_next_time, Zs.sn_next_time, Zs.se_next_cells, Zs.sn_next_cells, Zs.se_next_step, Zs.sn_next_step, Zs.se_next_words, Zs.sn_next_words, Zs.se_next_done, Zs.sn_next_done, Zs.se_time_held, Zs.sn_time_held, Zs.se_time_next, Zs.sn_time_next, Zs.se_time_cells, Zs.sn_time_cells, Zs.se_time_step, Zs.sn_time_step, Zs.se_time_words, Zs.sn_time_words, Zs.se_time_done, Zs.sn_time_done, Zs.se_cells_held, Zs.sn_cells_held, Zs.se_cells_next, Zs.sn_cells_next, Zs.se_cells_time, Zs.sn_cells_time, Zs.se_cells_step, Zs.sn_cells_step, Zs.se_cells_words, Zs.sn_cells_words, Zs.se_cells_done, Zs.sn_cells_done, Zs.se_step_held, Zs.sn_step_held, Zs.se_step_next, Zs.sn_step_next, Zs.se_step_time, Zs.sn_step_time, Zs.se_step_cells, Zs.sn_step_cells, Zs.se_step_words, Zs.sn_step_words, Zs.se_step_done, Zs.sn_step_done, Zs.se_words_held, Zs.sn_words_held, Zs.se_words_next, Zs.sn_words_next, Zs.se_words_time, Zs.sn_words_time, Zs.se_words_cells, Zs.sn_words_cells, Zs.se_words_step, Zs.sn_words_step, Zs.se_words_done, Zs.sn_words_done, Zs.se_done_held, Zs.sn_done_held, Zs.se_done_next, Zs.sn_done_next, Zs.se_done_time, Zs.sn_done_time, Zs.se_done_cells, Zs.sn_done_cells, Zs.se_done_step, Zs.sn_done_step, Zs.se_done_words, Zs.sn_done_words, val_kv, hx, dCell, e, Int.add_zero, Option.isSome_some, Option.isSome_none, and_self, and_true, true_and, List.take_length, eq_self]
end
end Zc
end
section
set_option Elab.async false
set_option linter.all false
set_option maxRecDepth 100000
set_option autoImplicit false
set_option maxHeartbeats 4000000
namespace Zc
open PySem Z
open L2 (atI)
/-! ### what orders do, whatever the beats -/
structure Ct where
  c : Prog
  h : Int
  nx : Option Str
structure Ev where
  x : Str
  w : Option Str
  e : Int
def wv (c : Prog) (a : Str) : Int := match lk c a with
  | some (.w v) => v
  | _ => 0
def cstep (s : Ct) (x : Str) : Ev × Ct := match lk s.c x with
  | some (.o k [a, b]) =>
    if k = "less" then (⟨x, none, 2⟩, ⟨s.c, s.h, some (if 0 ≤ s.h then b else a)⟩)
    else if k = "put" then (⟨x, some a, 1⟩, ⟨s.c, wv s.c a, some b⟩)
    else if k = "add" then (⟨x, some a, 2⟩, ⟨s.c, hold (s.h + wv s.c a), some b⟩)
    else if k = "sub" then (⟨x, some a, 2⟩, ⟨s.c, hold (s.h - wv s.c a), some b⟩)
    else (⟨x, some a, 1⟩, ⟨setC s.c a (.w s.h), s.h, some b⟩)
  | _ => (⟨x, none, 1⟩, ⟨s.c, s.h, none⟩)
def trace : Nat → Ct → List Ev × Ct
  | 0, s => ([], s)
  | n + 1, s => match s.nx with
    | none => ([], s)
    | some x => ((cstep s x).1 :: (trace n (cstep s x).2).1, (trace n (cstep s x).2).2)
abbrev Row := Str × Int × Option Int
def timed (wh : Str → Int → Int) : Int → List Ev → List Row × Int
  | t, [] => ([], t)
  | t, e :: es => ((e.x, wh e.x t, e.w.map fun a => wh a (wh e.x t + 1)) :: (timed wh (((e.w.map fun a => wh a (wh e.x t + 1)).getD (wh e.x t)) + e.e) es).1,
      (timed wh (((e.w.map fun a => wh a (wh e.x t + 1)).getD (wh e.x t)) + e.e) es).2)
/-! ### right programs -/
def isWk (k : Str) : Prop := k = "put" ∨ k = "add" ∨ k = "sub" ∨ k = "save"
inductive OkO (os ws : List Str) : Cell → Prop
  | w (n : Int) : OkO os ws (.w n)
  | stop : OkO os ws (.o "stop" [])
  | less (a b : Str) : a ∈ os → b ∈ os → OkO os ws (.o "less" [a, b])
  | wd (k a b : Str) : isWk k → a ∈ ws → b ∈ os → OkO os ws (.o k [a, b])
def slt (a b : Str) : Prop := a.cps.toList < b.cps.toList
structure WF (p : Prog) : Prop where
  ok : ∀ x ∈ p, OkO (ords p) (wrds p) x.2
  up : (p.map (·.1)).Pairwise slt
  len : p.length ≤ 60
theorem up_nd {l : List Str} (h : l.Pairwise slt) : l.Nodup := h.imp fun {a b} z e => by
  subst e
  exact List.lt_irrefl _ z
theorem WF.nd {p : Prog} (h : WF p) : (p.map (·.1)).Nodup := up_nd h.up
theorem ords_mem {p : Prog} {x : Str} : x ∈ ords p ↔ ∃ k as, (x, Cell.o k as) ∈ p := by
  unfold ords
  rw [List.mem_map]
  constructor
  · rintro ⟨⟨y, c⟩, h, rfl⟩
    rw [List.mem_filter] at h
    cases c with
    | w n => exact absurd h.2 (by simp [isO])
    | o k as => exact ⟨k, as, h.1⟩
  · rintro ⟨k, as, h⟩
    exact ⟨_, List.mem_filter.mpr ⟨h, rfl⟩, rfl⟩
theorem wrds_mem {p : Prog} {x : Str} : x ∈ wrds p ↔ ∃ n, (x, Cell.w n) ∈ p := by
  unfold wrds
  rw [List.mem_map]
  constructor
  · rintro ⟨⟨y, c⟩, h, rfl⟩
    rw [List.mem_filter] at h
    cases c with
    | o k as => exact absurd h.2 (by simp [isW])
    | w n => exact ⟨n, h.1⟩
  · rintro ⟨n, h⟩
    exact ⟨_, List.mem_filter.mpr ⟨h, rfl⟩, rfl⟩
theorem WF.ordL {p : Prog} (h : WF p) {x : Str} (hx : x ∈ ords p) : ∃ k as, lk p x = some (.o k as) ∧ OkO (ords p) (wrds p) (.o k as) := by
  obtain ⟨k, as, m⟩ := ords_mem.mp hx
  exact ⟨k, as, lk_of_mem h.nd m, h.ok _ m⟩
theorem WF.wrdL {p : Prog} (h : WF p) {x : Str} (hx : x ∈ wrds p) : ∃ n, lk p x = some (.w n) := by
  obtain ⟨n, m⟩ := wrds_mem.mp hx
  exact ⟨n, lk_of_mem h.nd m⟩
theorem ords_nm {p : Prog} {x : Str} (hx : x ∈ ords p) : x ∈ p.map (·.1) := by
  obtain ⟨k, as, m⟩ := ords_mem.mp hx
  exact List.mem_map.mpr ⟨_, m, rfl⟩
theorem wrds_nm {p : Prog} {x : Str} (hx : x ∈ wrds p) : x ∈ p.map (·.1) := by
  obtain ⟨k, m⟩ := wrds_mem.mp hx
  exact List.mem_map.mpr ⟨_, m, rfl⟩
theorem setC_ords {p : Prog} {a : Str} {n : Int} (h : WF p) (ha : a ∈ wrds p) : ords (setC p a (.w n)) = ords p := by
  obtain ⟨v, hv⟩ := h.wrdL ha
  unfold ords setC
  rw [List.filter_map, List.map_map]
  have e : (p.filter ((fun c => isO c.2) ∘ fun c => if c.1 = a then (c.1, Cell.w n) else c)) = p.filter fun c => isO c.2 := by
    refine List.filter_congr fun c hc => ?_
    show isO (if c.1 = a then (c.1, Cell.w n) else c).2 = isO c.2
    split
    · rename_i q
      have := lk_of_mem h.nd (show (c.1, c.2) ∈ p from hc)
      rw [q, hv] at this
      rw [← Option.some.inj this]
      rfl
    · rfl
  rw [e]
  refine List.map_congr_left fun c _ => ?_
  show (if c.1 = a then (c.1, Cell.w n) else c).1 = c.1
  split <;> rfl
theorem setC_wrds {p : Prog} {a : Str} {n : Int} (h : WF p) (ha : a ∈ wrds p) : wrds (setC p a (.w n)) = wrds p := by
  obtain ⟨v, hv⟩ := h.wrdL ha
  unfold wrds setC
  rw [List.filter_map, List.map_map]
  have e : (p.filter ((fun c => isW c.2) ∘ fun c => if c.1 = a then (c.1, Cell.w n) else c)) = p.filter fun c => isW c.2 := by
    refine List.filter_congr fun c hc => ?_
    show isW (if c.1 = a then (c.1, Cell.w n) else c).2 = isW c.2
    split
    · rename_i q
      have := lk_of_mem h.nd (show (c.1, c.2) ∈ p from hc)
      rw [q, hv] at this
      rw [← Option.some.inj this]
      rfl
    · rfl
  rw [e]
  refine List.map_congr_left fun c _ => ?_
  show (if c.1 = a then (c.1, Cell.w n) else c).1 = c.1
  split <;> rfl
theorem OkO.mono {p q : Prog} {c : Cell} (ho : ords q = ords p) (hw : wrds q = wrds p) (h : OkO (ords p) (wrds p) c) : OkO (ords q) (wrds q) c := by
  rw [ho, hw]
  exact h
theorem setC_WF {p : Prog} {a : Str} {n : Int} (h : WF p) (ha : a ∈ wrds p) : WF (setC p a (.w n)) := by
  refine ⟨fun x hx => ?_, by rw [setC_nms]; exact h.up, by unfold setC; rw [List.length_map]; exact h.len⟩
  obtain ⟨c, hc, rfl⟩ := List.mem_map.mp hx
  refine OkO.mono (setC_ords h ha) (setC_wrds h ha) ?_
  split
  · exact .w n
  · exact h.ok c hc
/-- a program that has been run so far -/
structure Sm (p c : Prog) : Prop where
  wf : WF c
  o : ords c = ords p
  w : wrds c = wrds p
  n : c.map (·.1) = p.map (·.1)
  l : ∀ x ∈ ords p, lk c x = lk p x
theorem Sm.refl {p : Prog} (h : WF p) : Sm p p := ⟨h, rfl, rfl, rfl, fun _ _ => rfl⟩
theorem ow_ne {p : Prog} (h : WF p) {x a : Str} (hx : x ∈ ords p) (ha : a ∈ wrds p) : x ≠ a := by
  rintro rfl
  obtain ⟨k, as, e, _⟩ := h.ordL hx
  obtain ⟨n, e2⟩ := h.wrdL ha
  rw [e] at e2
  cases e2
theorem Sm.set {p c : Prog} {a : Str} {n : Int} (h : Sm p c) (ha : a ∈ wrds p) : Sm p (setC c a (.w n)) :=
  have ha' : a ∈ wrds c := h.w ▸ ha
  ⟨setC_WF h.wf ha', (setC_ords h.wf ha').trans h.o, (setC_wrds h.wf ha').trans h.w, setC_nms.trans h.n, fun x hx => by
    rw [lk_setC, if_neg (ow_ne h.wf (h.o ▸ hx) ha'), h.l x hx]⟩
def OkN (p : Prog) : Option Str → Prop
  | none => True
  | some x => x ∈ ords p
structure OkC (p : Prog) (s : Ct) : Prop where
  sm : Sm p s.c
  nx : OkN p s.nx
theorem cstep_ok {p : Prog} {s : Ct} {x : Str} (h : Sm p s.c) (hx : x ∈ ords p) : OkC p (cstep s x).2 := by
  obtain ⟨k, as, e, o⟩ := h.wf.ordL (h.o.symm ▸ hx)
  unfold cstep
  rw [e]
  cases o with
  | stop => exact ⟨h, trivial⟩
  | less a b h1 h2 =>
    dsimp only
    rw [if_pos rfl]
    refine ⟨h, ?_⟩
    show (if 0 ≤ s.h then b else a) ∈ ords p
    rw [h.o] at h1 h2
    split <;> assumption
  | wd k a b h0 h1 h2 =>
    rw [h.o] at h2
    rw [h.w] at h1
    dsimp only
    split
    · refine ⟨h, ?_⟩
      rename_i z
      exact absurd h0 (by rw [z]; unfold isWk; decide)
    · split
      · exact ⟨h, h2⟩
      · split
        · exact ⟨h, h2⟩
        · split
          · exact ⟨h, h2⟩
          · exact ⟨h.set h1, h2⟩
end Zc
end
section
set_option Elab.async false
set_option linter.all false
set_option maxRecDepth 100000
set_option maxHeartbeats 0
namespace Q_drumwords_k32_whole_bounds_of_sums
open PySem L2 Z Zc

def excs : List Str := ["DrumError", "NoName", "BadLaying"]
def z__law_held : ZS := zret (zcb (on2 dMax2) (zacons (zneg (zc (.int 9999))) (zacons (zcb (on2 dMin2) (zacons (zc (.int 9999)) (zacons (zv 0) (zanil)))) (zanil))))
def F__law_held : Fn := zdef 1 0 z__law_held
def b1_law : ZS := zseq (zifS (ztst (zop dEq (zv 13) (zc (.str "a")))) (zset 11 (zv 12)) (zifS (ztst (zop dIn (zv 13) (zc (.str "bc")))) (zset 11 (zcall F__law_held (zacons (zop dAdd (zv 11) (zif (ztru (zv 4)) (zv 7) (zop dSub (zc (.int 0)) (zv 7)))) (zanil)))) (zifS (ztst (zop dEq (zv 13) (zc (.str "d")))) (zset 12 (zv 11)) (zifS (ztst (zop dEq (zv 13) (zc (.str "e")))) (zset 11 (zcall F__law_held (zacons (zop dAdd (zv 11) (zif (ztru (zv 4)) (zv 12) (zop dSub (zc (.int 0)) (zv 12)))) (zanil)))) (zset 11 (zcall F__law_held (zacons (zop dSub (zv 11) (zif (ztru (zv 4)) (zv 7) (zop dSub (zc (.int 0)) (zv 7)))) (zanil)))))))) (zset 13 (zdget (znew (zdis [("a", .str "b"), ("b", .str "c"), ("c", .str "d"), ("d", .str "e"), ("e", .str "f"), ("f", .str "b")])) (zv 13)))
def b2_law : ZS := zseq (zasg (gT3 (gN 11) (gN 12) (gN 13)) (ztup (zacons (zc (.int 0)) (zacons (zc (.int 0)) (zacons (zc (.str "a")) (zanil)))))) (zseq (zfor (ziA rng1 (zacons (zv 10) (zanil))) (gN 14) (b1_law)) (zseq (zset 15 (zcall F_run (zacons (zv 2) (zacons (zv 8) (zacons (zv 9) (zacons (zc (.str "a")) (zacons (zc (.int 0)) (zacons (zv 10) (zanil))))))))) (zifS (zor (ztst (zop dNe (zop dIx (zv 15) (zc (.int 3))) (zv 11))) (ztst (zop dNe (zop dIx (zv 15) (zc (.int 4))) (ztup (zacons (ztup (zacons (zc (.str "y")) (zacons (zv 7) (zanil)))) (zacons (ztup (zacons (zc (.str "z")) (zacons (zv 12) (zanil)))) (zanil))))))) (zret (zc (.bool false))) (znil))))
def b3_law : ZS := zseq (zset 4 (zop dEq (zcall F__law_draw (zacons (zv 0) (zacons (zv 1) (zacons (zc (.int 2)) (zanil))))) (zc (.int 0)))) (zseq (zasg (gT2 (gN 5) (gN 6)) (zif (ztru (zv 4)) (ztup (zacons (zc (.str "add")) (zacons (zc (.str "sub")) (zanil)))) (ztup (zacons (zc (.str "sub")) (zacons (zc (.str "add")) (zanil)))))) (zseq (zset 7 (zop dSub (zc (.int 99)) (zcall F__law_draw (zacons (zv 0) (zacons (zv 1) (zacons (zc (.int 9)) (zanil))))))) (zseq (zset 8 (ztup (zacons (ztup (zacons (zc (.str "a")) (zacons (ztup (zacons (zc (.str "put")) (zacons (zc (.str "z")) (zacons (zc (.str "b")) (zanil))))) (zanil)))) (zacons (ztup (zacons (zc (.str "b")) (zacons (ztup (zacons (zv 5) (zacons (zc (.str "y")) (zacons (zc (.str "c")) (zanil))))) (zanil)))) (zacons (ztup (zacons (zc (.str "c")) (zacons (ztup (zacons (zv 5) (zacons (zc (.str "y")) (zacons (zc (.str "d")) (zanil))))) (zanil)))) (zanil)))))) (zseq (zset 8 (zop dAdd (zv 8) (ztup (zacons (ztup (zacons (zc (.str "d")) (zacons (ztup (zacons (zc (.str "save")) (zacons (zc (.str "z")) (zacons (zc (.str "e")) (zanil))))) (zanil)))) (zacons (ztup (zacons (zc (.str "e")) (zacons (ztup (zacons (zv 5) (zacons (zc (.str "z")) (zacons (zc (.str "f")) (zanil))))) (zanil)))) (zacons (ztup (zacons (zc (.str "f")) (zacons (ztup (zacons (zv 6) (zacons (zc (.str "y")) (zacons (zc (.str "b")) (zanil))))) (zanil)))) (zanil))))))) (zseq (zset 8 (zop dAdd (zv 8) (ztup (zacons (ztup (zacons (zc (.str "y")) (zacons (zv 7) (zanil)))) (zacons (ztup (zacons (zc (.str "z")) (zacons (zc (.int 0)) (zanil)))) (zanil)))))) (zseq (zset 9 (zcb (on1 dTup) (zacons (zfz (zlc (ziA enumOf (zacons (zv 8) (zanil))) (gT2 (gN 18) (gN 19)) (ztrue) (ztup (zacons (zop dIx (zv 19) (zc (.int 0))) (zacons (zv 18) (zanil)))) [18, 19])) (zanil)))) (zfor (ziQ (ztup (zacons (zc (.int 1)) (zacons (zc (.int 2)) (zacons (zc (.int 3)) (zacons (zc (.int 6)) (zacons (zc (.int 31)) (zacons (zc (.int 60)) (zacons (zc (.int 121)) (zacons (zc (.int 200)) (zanil))))))))))) (gN 10) (b2_law))))))))
def b4_law : ZS := zifS (ztst (zop dNe (zop dIx (zcall F_run (zacons (ztup (zacons (zc (.int 4)) (zacons (ztup (zacons (zc (.int 0)) (zanil))) (zanil)))) (zacons (zv 16) (zacons (ztup (zacons (ztup (zacons (zc (.str "a")) (zacons (zc (.int 0)) (zanil)))) (zacons (ztup (zacons (zc (.str "y")) (zacons (zc (.int 1)) (zanil)))) (zanil)))) (zacons (zc (.str "a")) (zacons (zc (.int 0)) (zacons (zv 10) (zanil)))))))) (zc (.int 3))) (zcb (on2 dMin2) (zacons (zc (.int 9999)) (zacons (zop dMul (zc (.int 99)) (zv 10)) (zanil)))))) (zret (zc (.bool false))) (znil)
def b5_law : ZS := zifS (ztst (zop dNe (zop dIx (zcall F_run (zacons (ztup (zacons (zc (.int 4)) (zacons (ztup (zacons (zc (.int 0)) (zanil))) (zanil)))) (zacons (zv 17) (zacons (ztup (zacons (ztup (zacons (zc (.str "a")) (zacons (zc (.int 0)) (zanil)))) (zacons (ztup (zacons (zc (.str "y")) (zacons (zc (.int 1)) (zanil)))) (zanil)))) (zacons (zc (.str "a")) (zacons (zc (.int 0)) (zacons (zv 10) (zanil)))))))) (zc (.int 3))) (zcb (on2 dMax2) (zacons (zneg (zc (.int 9999))) (zacons (zop dMul (zneg (zc (.int 99))) (zv 10)) (zanil)))))) (zret (zc (.bool false))) (znil)
def z_law : ZS := zseq (zsetF 1 (zlst (zanil))) (zseq (zset 2 (ztup (zacons (zc (.int 10)) (zacons (ztup (zacons (zc (.int 0)) (zacons (zc (.int 3)) (zacons (zc (.int 6)) (zanil))))) (zanil))))) (zseq (zfor (ziA rng1 (zacons (zc (.int 6)) (zanil))) (gN 3) (b3_law)) (zseq (zset 16 (ztup (zacons (ztup (zacons (zc (.str "a")) (zacons (ztup (zacons (zc (.str "add")) (zacons (zc (.str "y")) (zacons (zc (.str "a")) (zanil))))) (zanil)))) (zacons (ztup (zacons (zc (.str "y")) (zacons (zc (.int 99)) (zanil)))) (zanil))))) (zseq (zfor (ziQ (ztup (zacons (zc (.int 100)) (zacons (zc (.int 101)) (zacons (zc (.int 102)) (zacons (zc (.int 200)) (zanil))))))) (gN 10) (b4_law)) (zseq (zset 17 (ztup (zacons (ztup (zacons (zc (.str "a")) (zacons (ztup (zacons (zc (.str "sub")) (zacons (zc (.str "y")) (zacons (zc (.str "a")) (zanil))))) (zanil)))) (zacons (ztup (zacons (zc (.str "y")) (zacons (zc (.int 99)) (zanil)))) (zanil))))) (zseq (zfor (ziQ (ztup (zacons (zc (.int 100)) (zacons (zc (.int 101)) (zacons (zc (.int 102)) (zacons (zc (.int 200)) (zanil))))))) (gN 10) (b5_law)) (zret (zc (.bool true)))))))))
def F_law : Fn := zdef 1 19 z_law
end Q_drumwords_k32_whole_bounds_of_sums
end
section
set_option Elab.async false
set_option linter.all false
set_option maxRecDepth 100000
set_option maxHeartbeats 0
namespace Q_drumwords_k32_whole_bounds_of_sums
open PySem L2 Z Zc
def top (i : Nat) : Stmt := PySem.Challenge.pw_drumwords_k32_whole_bounds_of_sums.main.body.getD i (.Pass ⟨0, 0, 0, 0⟩)
def topM (i j : Nat) : Stmt := (clsBody (top i)).getD j (.Pass ⟨0, 0, 0, 0⟩)
abbrev s_read_time : Stmt := top 1
abbrev s_names : Stmt := top 8
abbrev s_orders : Stmt := top 9
abbrev s_need_order : Stmt := top 10
abbrev s_is_laying : Stmt := top 13
abbrev s_held : Stmt := top 14
abbrev s_Machine___init__ : Stmt := topM 15 0
abbrev s_Machine_done : Stmt := topM 15 1
abbrev s_Machine_step : Stmt := topM 15 2
abbrev s_Machine_words : Stmt := topM 15 3
abbrev s_steps_of : Stmt := top 16
abbrev s_run : Stmt := top 17
abbrev s__law_draw : Stmt := top 19
abbrev s__law_pick : Stmt := top 20
abbrev s__law_held : Stmt := top 21
abbrev s_law : Stmt := top 22
structure Fx (K : PySem.W.Frag) (w : World) (mg : Str → Option Value) : Prop where
  z_ : True
  m_bool : mg "bool" = none
  m_dict : mg "dict" = none
  m_enumerate : mg "enumerate" = none
  m_int : mg "int" = none
  m_isinstance : mg "isinstance" = none
  m_len : mg "len" = none
  m_max : mg "max" = none
  m_min : mg "min" = none
  m_range : mg "range" = none
  m_set : mg "set" = none
  m_sorted : mg "sorted" = none
  m_str : mg "str" = none
  m_tuple : mg "tuple" = none
  m_zip : mg "zip" = none
  k_CAP : ∃ t, mg "CAP" = some (.int 9999 t)
  g_DrumError : mg "DrumError" = some (.ref (He.ga K "DrumError"))
  e_DrumError : ExO K mg "DrumError"
  g_NoName : mg "NoName" = some (.ref (He.ga K "NoName"))
  e_NoName : ExO K mg "NoName"
  g_BadLaying : mg "BadLaying" = some (.ref (He.ga K "BadLaying"))
  e_BadLaying : ExO K mg "BadLaying"
  xm : ∀ c ∈ excs, ∀ x ∈ excs, PySem.W.exmOne K (.ref (He.ga K c)) (.ref (He.ga K x)) = some (isSub c x)
  c_Machine : ClsOk K "Machine" ["cells", "held", "next", "time"]
  t_BEATS : KTab K w mg "BEATS" t_BEATS o_BEATS
  l_run : (("run", none) : Str × Option Str) ∈ tfOf K
section
variable {P : Program} {w : World} {K : PySem.W.Frag} {mg : Str → Option Value} {base : Heap}
abbrev FnP (K : PySem.W.Frag) (x q : Str) (st : Stmt) (f : Addr) (fd : FuncData) : Prop := FunD K x q (defArgs st) (defBody st) (defScope st) [] [] f fd
theorem sc_read_time : FnScope ["drum", "spot", "time", "head"] ["drum", "spot", "time"] (defScope s_read_time) := ⟨rfl, rfl, rfl, by decide +kernel, rfl, by decide +kernel, by decide +kernel⟩
theorem cal_read_time (T : Fx K w mg) {f : Addr} {fd : FuncData} (F : FnP K "read_time" "read_time" s_read_time f fd) (hm : mg "read_time" = some (.ref f))  : Cal P w K mg base "read_time" 1 F_read_time :=
  cal_mk (ps := ["drum", "spot", "time"]) (n := 1) (z := z_read_time) hm F.kp (F.bindsN fun _ _ _ _ _ _ us hl => match us, hl with | [_, _, _], _ => rfl)
    (fn_ok F sc_read_time rfl fun φ cdv A outer s H E hr => pzs_one (pzs_ret (pz_cb cz_min T.m_min bt_min (pza_cons (pz_f (pzf_lc (own := [("head", 3)]) (pzi_Q (pz_ix (pz_v 0) (pz_int))) sc_read_time.nd (blkOk_by (by kernel_rfl)) (fun _ _ _ _ _ => pzg_n 3 sc_read_time.nd) (fun _ _ _ _ _ => pzt_nil) (fun _ _ _ _ _ => pz_op opz_add (pz_v 2) (pz_op opz_mod (pz_op opz_sub (pz_op opz_sub (pz_v 1) (pz_v 3)) (pz_v 2)) (pz_ix (pz_v 0) (pz_int)))))) (pza_nil)))))
theorem sc_names : FnScope ["program", "name", "content"] ["program"] (defScope s_names) := ⟨rfl, rfl, rfl, by decide +kernel, rfl, by decide +kernel, by decide +kernel⟩
theorem cal_names (T : Fx K w mg) {f : Addr} {fd : FuncData} (F : FnP K "names" "names" s_names f fd) (hm : mg "names" = some (.ref f))  : Cal P w K mg base "names" 1 F_names :=
  cal_mk (ps := ["program"]) (n := 2) (z := z_names) hm F.kp (F.bindsN fun _ _ _ _ _ _ us hl => match us, hl with | [_], _ => rfl)
    (fn_ok F sc_names rfl fun φ cdv A outer s H E hr => pzs_one (pzs_ret (pz_cty cz_tuple T.m_tuple bt_tuple (pza_cons (pz_f (pzf_lc (own := [("name", 1), ("content", 2)]) (pzi_Q (pz_v 0)) sc_names.nd (blkOk_by (by kernel_rfl)) (fun _ _ _ _ _ => pzg_t2 (pzg_n 1 sc_names.nd) (pzg_n 2 sc_names.nd)) (fun _ _ _ _ _ => pzt_nil) (fun _ _ _ _ _ => pz_v 1))) (pza_nil)))))
theorem sc_orders : FnScope ["program", "name", "content"] ["program"] (defScope s_orders) := ⟨rfl, rfl, rfl, by decide +kernel, rfl, by decide +kernel, by decide +kernel⟩
theorem cal_orders (T : Fx K w mg) {f : Addr} {fd : FuncData} (F : FnP K "orders" "orders" s_orders f fd) (hm : mg "orders" = some (.ref f))  : Cal P w K mg base "orders" 1 F_orders :=
  cal_mk (ps := ["program"]) (n := 2) (z := z_orders) hm F.kp (F.bindsN fun _ _ _ _ _ _ us hl => match us, hl with | [_], _ => rfl)
    (fn_ok F sc_orders rfl fun φ cdv A outer s H E hr => pzs_one (pzs_ret (pz_cty cz_tuple T.m_tuple bt_tuple (pza_cons (pz_f (pzf_lc (own := [("name", 1), ("content", 2)]) (pzi_Q (pz_v 0)) sc_orders.nd (blkOk_by (by kernel_rfl)) (fun _ _ _ _ _ => pzg_t2 (pzg_n 1 sc_orders.nd) (pzg_n 2 sc_orders.nd)) (fun _ _ _ _ _ => pzt_one (pzt_tru (pz_isi "tuple" (by simp) (pz_v 2) T.m_isinstance T.m_tuple bt_tuple))) (fun _ _ _ _ _ => pz_v 1))) (pza_nil)))))
theorem sc_need_order : FnScope ["program", "name"] ["program", "name"] (defScope s_need_order) := ⟨rfl, rfl, rfl, by decide +kernel, rfl, by decide +kernel, by decide +kernel⟩
theorem cal_need_order (T : Fx K w mg) {f : Addr} {fd : FuncData} (F : FnP K "need_order" "need_order" s_need_order f fd) (hm : mg "need_order" = some (.ref f)) (c_orders : Cal P w K mg base "orders" 1 F_orders) : Cal P w K mg base "need_order" 2 F_need_order :=
  cal_mk (ps := ["program", "name"]) (n := 0) (z := z_need_order) hm F.kp (F.bindsN fun _ _ _ _ _ _ us hl => match us, hl with | [_, _], _ => rfl)
    (fn_ok F sc_need_order rfl fun φ cdv A outer s H E hr => pzs_one (pzs_if (pzt_cmp (opz_notIn (hu65 hr)) (pz_v 1) (pz_call c_orders (hr.mono (by decide)) (pza_cons (pz_v 0) (pza_nil)))) (pzs_one (pzs_raise "NoName" T.e_NoName)) (pzs_nil)))
theorem sc_is_laying : FnScope ["drum", "program", "thing", "name", "one", "spots", "spot"] ["drum", "program", "thing"] (defScope s_is_laying) := ⟨rfl, rfl, rfl, by decide +kernel, rfl, by decide +kernel, by decide +kernel⟩
theorem cal_is_laying (T : Fx K w mg) {f : Addr} {fd : FuncData} (F : FnP K "is_laying" "is_laying" s_is_laying f fd) (hm : mg "is_laying" = some (.ref f)) (c_names : Cal P w K mg base "names" 1 F_names) : Cal P w K mg base "is_laying" 2 F_is_laying :=
  cal_mk (ps := ["drum", "program", "thing"]) (n := 4) (z := z_is_laying) hm F.kp (F.bindsN fun _ _ _ _ _ _ us hl => match us, hl with | [_, _, _], _ => rfl)
    (fn_ok F sc_is_laying rfl fun φ cdv A outer s H E hr => pzs_cons (pzs_if (pzt_w (pzw_or (pzt_not (pzt_tru (pz_isi "tuple" (by simp) (pz_v 2) T.m_isinstance T.m_tuple bt_tuple))) (pzw_or1 (pzt_cmp (opz_ne hr.units) (pz_cb cz_len T.m_len bt_len (pza_cons (pz_v 2) (pza_nil))) (pz_cb cz_len T.m_len bt_len (pza_cons (pz_call c_names (hr.mono (by decide)) (pza_cons (pz_v 1) (pza_nil))) (pza_nil))))))) (pzs_one (pzs_ret (pz_bl))) (pzs_nil)) (pzs_cons (pzs_for (pzi_Z (pza_cons (pz_call c_names (hr.mono (by decide)) (pza_cons (pz_v 1) (pza_nil))) (pza_cons (pz_v 2) (pza_nil))) T.m_zip) (pzg_t2 (pzg_n 3 sc_is_laying.nd) (pzg_n 4 sc_is_laying.nd)) (pzs_cons (pzs_if (pzt_w (pzw_or (pzt_not (pzt_tru (pz_isi "tuple" (by simp) (pz_v 4) T.m_isinstance T.m_tuple bt_tuple))) (pzw_or (pzt_cmp (opz_ne hr.units) (pz_cb cz_len T.m_len bt_len (pza_cons (pz_v 4) (pza_nil))) (pz_int)) (pzw_or (pzt_not (pzt_tru (pz_isi "str" (by simp) (pz_ix (pz_v 4) (pz_int)) T.m_isinstance T.m_str bt_str))) (pzw_or1 (pzt_cmp (opz_ne hr.units) (pz_ix (pz_v 4) (pz_int)) (pz_v 3))))))) (pzs_one (pzs_ret (pz_bl))) (pzs_nil)) (pzs_one (pzs_if (pzt_w (pzw_or (pzt_not (pzt_tru (pz_isi "int" (by simp) (pz_ix (pz_v 4) (pz_int)) T.m_isinstance T.m_int bt_int))) (pzw_or (pzt_tru (pz_isi "bool" (by simp) (pz_ix (pz_v 4) (pz_int)) T.m_isinstance T.m_bool bt_bool)) (pzw_or1 (pzt_not (pzt_chain opz_le (opz_lt hr.units) (pz_int) (pz_ix (pz_v 4) (pz_int)) (pz_ix (pz_v 0) (pz_int)))))))) (pzs_one (pzs_ret (pz_bl))) (pzs_nil))))) (pzs_cons (pzs_setLcD 5 (own := [("name", 3), ("spot", 6)]) (pzi_Q (pz_v 2)) sc_is_laying.nd (blkOk_by (by kernel_rfl)) (fun _ _ _ _ _ => pzg_t2 (pzg_n 3 sc_is_laying.nd) (pzg_n 6 sc_is_laying.nd)) (fun _ _ _ _ _ => pzt_nil) (fun _ _ _ _ _ => pz_v 6)) (pzs_one (pzs_ret (pz_cmp (opz_eq hr.units) (pz_lset T.m_len T.m_set (pz_v 5)) (pz_cb cz_len T.m_len bt_len (pza_cons (pz_v 5) (pza_nil)))))))))
theorem sc_held : FnScope ["number"] ["number"] (defScope s_held) := ⟨rfl, rfl, rfl, by decide +kernel, rfl, by decide +kernel, by decide +kernel⟩
theorem cal_held (T : Fx K w mg) {f : Addr} {fd : FuncData} (F : FnP K "held" "held" s_held f fd) (hm : mg "held" = some (.ref f))  : Cal P w K mg base "held" 1 F_held :=
  cal_mk (ps := ["number"]) (n := 0) (z := z_held) hm F.kp (F.bindsN fun _ _ _ _ _ _ us hl => match us, hl with | [_], _ => rfl)
    (fn_ok F sc_held rfl fun φ cdv A outer s H E hr => pzs_one (pzs_ret (pz_cb cz_max2 T.m_max bt_max (pza_cons (pz_op opz_sub (pz_int) (pz_glob rfl T.k_CAP)) (pza_cons (pz_cb cz_min2 T.m_min bt_min (pza_cons (pz_glob rfl T.k_CAP) (pza_cons (pz_v 0) (pza_nil)))) (pza_nil))))))
theorem sc_Machine___init__ : FnScope ["self", "program", "start", "time"] ["self", "program", "start", "time"] (defScope s_Machine___init__) := ⟨rfl, rfl, rfl, by decide +kernel, rfl, by decide +kernel, by decide +kernel⟩
theorem cal_Machine___init__ (T : Fx K w mg) {f : Addr} {fd : FuncData} (F : FnP K "__init__" "Machine.__init__" s_Machine___init__ f fd) (hg : mg "Machine" = some (.ref (He.ga K "Machine"))) (hM : Mk K (He.ga K "Machine") f) : CalI P w K mg base "Machine" "cells" 1 4 iniM :=
  ⟨f, fd, ["self", "program", "start", "time"], hg, hM, (F.bindsN fun _ _ _ _ _ _ us hl => match us, hl with | [_, _, _, _], _ => rfl), rfl, F.ok sc_Machine___init__ (fun vs H Q E h => h.1) fun cdv A outer s H vs Q E hr hsp => ⟨_, pss_cons (ps_fld (pe_var (i := 0) rfl (.inl rfl)) (pe_callTy (cr_dicF rfl) (by rfl) T.m_dict bt_dict (pa_cons (pe_var (i := 1) rfl (.inl rfl)) pa_nil)) rfl) (pss_cons (ps_fld (pe_var (i := 0) rfl (.inl rfl)) pe_int rfl) (pss_cons (ps_fld (pe_var (i := 0) rfl (.inl rfl)) (pe_var (i := 2) rfl (.inl rfl)) rfl) (pss_one (ps_fld (pe_var (i := 0) rfl (.inl rfl)) (pe_var (i := 3) rfl (.inl rfl)) rfl)))), ini_m rfl T.c_Machine hsp⟩⟩
theorem sc_Machine_done : FnScope ["self", "order"] ["self", "order"] (defScope s_Machine_done) := ⟨rfl, rfl, rfl, by decide +kernel, rfl, by decide +kernel, by decide +kernel⟩
theorem cal_Machine_done (T : Fx K w mg) {f : Addr} {fd : FuncData} (F : FnP K "done" "Machine.done" s_Machine_done f fd) (hm : Meth K (He.ga K "Machine") "done" f) (c_held : Cal P w K mg base "held" 1 F_held) : CalM P w K mg base "Machine" "done" 2 2 F_Machine_done :=
  calM_mk (ps := ["self", "order"]) (n := 0) (z := z_Machine_done) hm (F.bindsN fun _ _ _ _ _ _ us hl => match us, hl with | [_, _], _ => rfl)
    (fn_ok F sc_Machine_done rfl fun φ cdv A outer s H E hr => pzs_one (pzs_if (pzt_cmp (opz_eq hr.units) (pz_ix (pz_v 1) (pz_int)) (pz_str)) (pzs_one (pzs_aset T.c_Machine (by simp) (pz_v 0) (pz_dget (hu1 hr) (pz_attr T.c_Machine (by simp) (pz_v 0)) (pz_ix (pz_v 1) (pz_int))))) (pzs_one (pzs_if (pzt_cmp (opz_eq hr.units) (pz_ix (pz_v 1) (pz_int)) (pz_str)) (pzs_one (pzs_aset T.c_Machine (by simp) (pz_v 0) (pz_call c_held (hr.mono (by decide)) (pza_cons (pz_op opz_add (pz_attr T.c_Machine (by simp) (pz_v 0)) (pz_dget (hu1 hr) (pz_attr T.c_Machine (by simp) (pz_v 0)) (pz_ix (pz_v 1) (pz_int)))) (pza_nil))))) (pzs_one (pzs_if (pzt_cmp (opz_eq hr.units) (pz_ix (pz_v 1) (pz_int)) (pz_str)) (pzs_one (pzs_aset T.c_Machine (by simp) (pz_v 0) (pz_call c_held (hr.mono (by decide)) (pza_cons (pz_op opz_sub (pz_attr T.c_Machine (by simp) (pz_v 0)) (pz_dget (hu1 hr) (pz_attr T.c_Machine (by simp) (pz_v 0)) (pz_ix (pz_v 1) (pz_int)))) (pza_nil))))) (pzs_one (pzs_dput (hu1 hr) (pz_attr T.c_Machine (by simp) (pz_v 0)) (pz_ix (pz_v 1) (pz_int)) (pz_attr T.c_Machine (by simp) (pz_v 0))))))))))
theorem sc_Machine_step : FnScope ["self", "read", "word", "order"] ["self", "read", "word"] (defScope s_Machine_step) := ⟨rfl, rfl, rfl, by decide +kernel, rfl, by decide +kernel, by decide +kernel⟩
theorem cal_Machine_step (T : Fx K w mg) {f : Addr} {fd : FuncData} (F : FnP K "step" "Machine.step" s_Machine_step f fd) (hm : Meth K (He.ga K "Machine") "step" f) (c_Machine_done : CalM P w K mg base "Machine" "done" 2 2 F_Machine_done) : CalM P w K mg base "Machine" "step" 3 3 F_Machine_step :=
  calM_mk (ps := ["self", "read", "word"]) (n := 1) (z := z_Machine_step) hm (F.bindsN fun _ _ _ _ _ _ us hl => match us, hl with | [_, _, _], _ => rfl)
    (fn_ok F sc_Machine_step rfl fun φ cdv A outer s H E hr => pzs_cons (pzs_set 3 (pz_dget (hu1 hr) (pz_attr T.c_Machine (by simp) (pz_v 0)) (pz_attr T.c_Machine (by simp) (pz_v 0))) sc_Machine_step.nd) (pzs_one (pzs_if (pzt_cmp (opz_eq hr.units) (pz_ix (pz_v 3) (pz_int)) (pz_str)) (pzs_cons (pzs_aset T.c_Machine (by simp) (pz_v 0) (pz_op opz_add (pz_v 1) (pz_int))) (pzs_one (pzs_aset T.c_Machine (by simp) (pz_v 0) (pz_non)))) (pzs_one (pzs_if (pzt_cmp (opz_eq hr.units) (pz_ix (pz_v 3) (pz_int)) (pz_str)) (pzs_cons (pzs_aset T.c_Machine (by simp) (pz_v 0) (pz_op opz_add (pz_v 1) (pz_int))) (pzs_one (pzs_aset T.c_Machine (by simp) (pz_v 0) (pz_ix (pz_v 3) (pz_op opz_add (pz_int) (pz_cty cz_int T.m_int bt_int (pza_cons (pz_cmp opz_ge (pz_attr T.c_Machine (by simp) (pz_v 0)) (pz_int)) (pza_nil)))))))) (pzs_cons (pzs_expr (pz_meth T.c_Machine c_Machine_done (hr.mono (by decide)) (pz_v 0) (pza_cons (pz_v 3) (pza_nil)))) (pzs_cons (pzs_aset T.c_Machine (by simp) (pz_v 0) (pz_op opz_add (pz_op opz_add (pz_v 2) (pz_int)) (pz_kget T.t_BEATS (pz_ix (pz_v 3) (pz_int))))) (pzs_one (pzs_aset T.c_Machine (by simp) (pz_v 0) (pz_ix (pz_v 3) (pz_int)))))))))))
theorem sc_Machine_words : FnScope ["self", "name"] ["self"] (defScope s_Machine_words) := ⟨rfl, rfl, rfl, by decide +kernel, rfl, by decide +kernel, by decide +kernel⟩
theorem cal_Machine_words (T : Fx K w mg) {f : Addr} {fd : FuncData} (F : FnP K "words" "Machine.words" s_Machine_words f fd) (hm : Meth K (He.ga K "Machine") "words" f)  : CalM P w K mg base "Machine" "words" 1 1 F_Machine_words :=
  calM_mk (ps := ["self"]) (n := 1) (z := z_Machine_words) hm (F.bindsN fun _ _ _ _ _ _ us hl => match us, hl with | [_], _ => rfl)
    (fn_ok F sc_Machine_words rfl fun φ cdv A outer s H E hr => pzs_one (pzs_ret (pz_cty cz_tuple T.m_tuple bt_tuple (pza_cons (pz_f (pzf_lc (own := [("name", 1)]) (pzi_Q (pz_f (pzf_cb cz_sorted T.m_sorted bt_sorted (pza_cons (pz_attr T.c_Machine (by simp) (pz_v 0)) (pza_nil))))) sc_Machine_words.nd (blkOk_by (by kernel_rfl)) (fun _ _ _ _ _ => pzg_n 1 sc_Machine_words.nd) (fun _ _ _ _ _ => pzt_one (pzt_tru (pz_isi "int" (by simp) (pz_dget (hu1 hr) (pz_attr T.c_Machine (by simp) (pz_v 0)) (pz_v 1)) T.m_isinstance T.m_int bt_int))) (fun _ _ _ _ _ => pz_tup (pza_cons (pz_v 1) (pza_cons (pz_dget (hu1 hr) (pz_attr T.c_Machine (by simp) (pz_v 0)) (pz_v 1)) (pza_nil)))))) (pza_nil)))))
theorem sc_steps_of : FnScope ["program", "start", "time", "most", "when", "machine", "found", "name", "order", "read", "word"] ["program", "start", "time", "most", "when"] (defScope s_steps_of) := ⟨rfl, rfl, rfl, by decide +kernel, rfl, by decide +kernel, by decide +kernel⟩
theorem cal_steps_of (T : Fx K w mg) {f : Addr} {fd : FuncData} (F : FnP K "steps_of" "steps_of" s_steps_of f fd) (hm : mg "steps_of" = some (.ref f)) (c_Machine___init__ : CalI P w K mg base "Machine" "cells" 1 4 iniM) (c_Machine_step : CalM P w K mg base "Machine" "step" 3 3 F_Machine_step) : CalL P w K mg base "steps_of" 3 "when" 4 6 z_steps_of :=
  ⟨f, fd, ["program", "start", "time", "most", "when", "machine", "found", "name", "order", "read", "word"], ["program", "start", "time", "most", "when"], _, _, _, hm, F, (F.bindsN fun _ _ _ _ _ _ us hl => match us, hl with | [_, _, _, _, _], _ => rfl), sc_steps_of, rfl, rfl, rfl, .inl rfl, fun lam φ cdv A outer s H E hr act => pzs_cons (pzs_set 5 (pz_make c_Machine___init__ (hr.mono (by decide)) (pza_cons (pz_v 0) (pza_cons (pz_v 1) (pza_cons (pz_v 2) (pza_nil))))) sc_steps_of.nd) (pzs_cons (pzs_set 6 (pz_tup (pza_nil)) sc_steps_of.nd) (pzs_cons (pzs_while fuel (pzt_w (pzw_and (pzt_cmp opz_isNot (pz_attr T.c_Machine (by simp) (pz_v 5)) (pz_non)) (pzw_and1 (pzt_cmp (opz_lt hr.units) (pz_cb cz_len T.m_len bt_len (pza_cons (pz_v 6) (pza_nil))) (pz_v 3))))) (pzs_cons (pzs_set 7 (pz_attr T.c_Machine (by simp) (pz_v 5)) sc_steps_of.nd) (pzs_cons (pzs_set 8 (pz_dget (hu1 hr) (pz_attr T.c_Machine (by simp) (pz_v 5)) (pz_v 7)) sc_steps_of.nd) (pzs_cons (pzs_set 9 (act _ _ _ _ _ (pza_cons (pz_v 7) (pza_cons (pz_attr T.c_Machine (by simp) (pz_v 5)) (pza_nil))) rfl rfl) sc_steps_of.nd) (pzs_cons (pzs_set 10 (pz_non) sc_steps_of.nd) (pzs_cons (pzs_if (pzt_kin T.t_BEATS (pz_ix (pz_v 8) (pz_int))) (pzs_one (pzs_set 10 (act _ _ _ _ _ (pza_cons (pz_ix (pz_v 8) (pz_int)) (pza_cons (pz_op opz_add (pz_v 9) (pz_int)) (pza_nil))) rfl rfl) sc_steps_of.nd)) (pzs_nil)) (pzs_cons (pzs_expr (pz_meth T.c_Machine c_Machine_step (hr.mono (by decide)) (pz_v 5) (pza_cons (pz_v 9) (pza_cons (pz_v 10) (pza_nil))))) (pzs_one (pzs_set 6 (pz_op opz_add (pz_v 6) (pz_tup (pza_cons (pz_tup (pza_cons (pz_v 7) (pza_cons (pz_v 9) (pza_cons (pz_v 10) (pza_nil))))) (pza_nil)))) sc_steps_of.nd))))))))) (pzs_one (pzs_ret (pz_pr (pz_v 6) (pz_v 5))))))⟩
theorem sc_run : FnScope ["drum", "program", "laying", "start", "time", "most", "table", "found", "machine", "name", "at"] ["drum", "program", "laying", "start", "time", "most"] (defScope s_run) := ⟨rfl, rfl, rfl, by decide +kernel, rfl, by decide +kernel, by decide +kernel⟩
theorem cal_run (T : Fx K w mg) {fd : FuncData} (F : FnP K "run" "run" s_run (He.fAd K ("run", none)) fd) (hm : mg "run" = some (.ref (He.fAd K ("run", none)))) (hT : ∀ p ∈ tfOf K, LamX.TabB base mg (He.cT K p).1 (He.cT K p).2) (c_Machine_words : CalM P w K mg base "Machine" "words" 1 1 F_Machine_words) (c_is_laying : Cal P w K mg base "is_laying" 2 F_is_laying) (c_need_order : Cal P w K mg base "need_order" 2 F_need_order) (c_read_time : Cal P w K mg base "read_time" 1 F_read_time) (c_steps_of : CalL P w K mg base "steps_of" 3 "when" 4 6 z_steps_of) : Cal P w K mg base "run" 5 F_run :=
  cal_mk (ps := ["drum", "program", "laying", "start", "time", "most"]) (n := 5) (z := z_run) hm F.kp (F.bindsN fun _ _ _ _ _ _ us hl => match us, hl with | [_, _, _, _, _, _], _ => rfl)
    (fn_okC F sc_run rfl fun φ A outer s H E hr => pzs_cons (pzs_expr (pz_call c_need_order (hr.mono (by decide)) (pza_cons (pz_v 1) (pza_cons (pz_v 3) (pza_nil))))) (pzs_cons (pzs_if (pzt_not (pzt_tru (pz_call c_is_laying (hr.mono (by decide)) (pza_cons (pz_v 0) (pza_cons (pz_v 1) (pza_cons (pz_v 2) (pza_nil))))))) (pzs_one (pzs_raise "BadLaying" T.e_BadLaying)) (pzs_nil)) (pzs_cons (pzs_setF 6 (pzf_cty cz_dict T.m_dict bt_dict (pza_cons (pz_v 2) (pza_nil))) sc_run.nd) (pzs_cons (pzs_asgP 7 8 (pz_lamcall (k := 2) ("run", none) c_steps_of (hr.mono (by decide)) (T.l_run) (hT _ T.l_run) rfl rfl (lamP_by (by kernel_rfl)) sc_run.nd (pz_v 1) (pz_v 3) (pz_v 4) (pz_v 5) (fun _ _ _ _ _ _ _ hr => pz_call c_read_time (hr.mono (by decide)) (pza_cons (pz_v 0) (pza_cons (pz_dget (hu1 hr) (pz_v 6) (pz_v 9)) (pza_cons (pz_v 10) (pza_nil))))) (fun _ _ _ _ _ _ _ => rfl)) sc_run.nd) (pzs_one (pzs_ret (pz_tup (pza_cons (pz_v 7) (pza_cons (pz_cmp opz_is (pz_attr T.c_Machine (by simp) (pz_v 8)) (pz_non)) (pza_cons (pz_attr T.c_Machine (by simp) (pz_v 8)) (pza_cons (pz_attr T.c_Machine (by simp) (pz_v 8)) (pza_cons (pz_meth0 T.c_Machine c_Machine_words (hr.mono (by decide)) (pz_v 8)) (pza_nil)))))))))))))
theorem sc__law_draw : FnScope ["script", "town", "many", "k", "cell", "number", "more"] ["script", "town", "many"] (defScope s__law_draw) := ⟨rfl, rfl, rfl, by decide +kernel, rfl, by decide +kernel, by decide +kernel⟩
theorem cal__law_draw (T : Fx K w mg) {f : Addr} {fd : FuncData} (F : FnP K "_law_draw" "_law_draw" s__law_draw f fd) (hm : mg "_law_draw" = some (.ref f))  : Cal P w K mg base "_law_draw" 1 F__law_draw :=
  cal_mk (ps := ["script", "town", "many"]) (n := 4) (z := z__law_draw) hm F.kp (F.bindsN fun _ _ _ _ _ _ us hl => match us, hl with | [_, _, _], _ => rfl)
    (fn_ok F sc__law_draw rfl fun φ cdv A outer s H E hr => pzs_cons (pzs_expr (pz_app (pz_v 1) (pz_int))) (pzs_cons (pzs_set 3 (pz_cb cz_len T.m_len bt_len (pza_cons (pz_v 1) (pza_nil))) sc__law_draw.nd) (pzs_cons (pzs_set 4 (pz_int) sc__law_draw.nd) (pzs_cons (pzs_if (pzt_tru (pz_v 0)) (pzs_one (pzs_set 4 (pz_ix (pz_v 0) (pz_op opz_mod (pz_v 3) (pz_cb cz_len T.m_len bt_len (pza_cons (pz_v 0) (pza_nil))))) sc__law_draw.nd)) (pzs_nil)) (pzs_cons (pzs_set 5 (pz_op opz_mod (pz_op opz_add (pz_v 4) (pz_op opz_mul (pz_int) (pz_v 3))) (pz_int)) sc__law_draw.nd) (pzs_cons (pzs_set 5 (pz_op opz_mod (pz_op opz_mul (pz_op opz_mod (pz_op opz_mul (pz_v 5) (pz_v 5)) (pz_int)) (pz_int)) (pz_int)) sc__law_draw.nd) (pzs_cons (pzs_set 6 (pz_op opz_mod (pz_op opz_mul (pz_op opz_mod (pz_op opz_mul (pz_v 5) (pz_v 5)) (pz_int)) (pz_int)) (pz_int)) sc__law_draw.nd) (pzs_one (pzs_ret (pz_op opz_mod (pz_op opz_add (pz_op opz_mul (pz_op opz_div (pz_v 5) (pz_int)) (pz_int)) (pz_op opz_div (pz_v 6) (pz_int))) (pz_v 2)))))))))))
theorem sc__law_pick : FnScope ["script", "town", "some"] ["script", "town", "some"] (defScope s__law_pick) := ⟨rfl, rfl, rfl, by decide +kernel, rfl, by decide +kernel, by decide +kernel⟩
theorem cal__law_pick (T : Fx K w mg) {f : Addr} {fd : FuncData} (F : FnP K "_law_pick" "_law_pick" s__law_pick f fd) (hm : mg "_law_pick" = some (.ref f)) (c__law_draw : Cal P w K mg base "_law_draw" 1 F__law_draw) : Cal P w K mg base "_law_pick" 2 F__law_pick :=
  cal_mk (ps := ["script", "town", "some"]) (n := 0) (z := z__law_pick) hm F.kp (F.bindsN fun _ _ _ _ _ _ us hl => match us, hl with | [_, _, _], _ => rfl)
    (fn_ok F sc__law_pick rfl fun φ cdv A outer s H E hr => pzs_one (pzs_ret (pz_ix (pz_v 2) (pz_call c__law_draw (hr.mono (by decide)) (pza_cons (pz_v 0) (pza_cons (pz_v 1) (pza_cons (pz_cb cz_len T.m_len bt_len (pza_cons (pz_v 2) (pza_nil))) (pza_nil))))))))
theorem sc__law_held : FnScope ["number"] ["number"] (defScope s__law_held) := ⟨rfl, rfl, rfl, by decide +kernel, rfl, by decide +kernel, by decide +kernel⟩
theorem cal__law_held (T : Fx K w mg) {f : Addr} {fd : FuncData} (F : FnP K "_law_held" "_law_held" s__law_held f fd) (hm : mg "_law_held" = some (.ref f))  : Cal P w K mg base "_law_held" 1 F__law_held :=
  cal_mk (ps := ["number"]) (n := 0) (z := z__law_held) hm F.kp (F.bindsN fun _ _ _ _ _ _ us hl => match us, hl with | [_], _ => rfl)
    (fn_ok F sc__law_held rfl fun φ cdv A outer s H E hr => pzs_one (pzs_ret (pz_cb cz_max2 T.m_max bt_max (pza_cons (pz_neg (pz_int)) (pza_cons (pz_cb cz_min2 T.m_min bt_min (pza_cons (pz_int) (pza_cons (pz_v 0) (pza_nil)))) (pza_nil))))))
theorem sc_law : FnScope ["script", "town", "spots", "k", "up", "first", "more", "number", "program", "laying", "most", "total", "saved", "here", "turn", "told", "simple", "less", "at", "cell"] ["script"] (defScope s_law) := ⟨rfl, rfl, rfl, by decide +kernel, rfl, by decide +kernel, by decide +kernel⟩
theorem ok_law (T : Fx K w mg) {f : Addr} {fd : FuncData} (F : FnP K "law" "law" s_law f fd) (c__law_draw : Cal P w K mg base "_law_draw" 1 F__law_draw) (c__law_held : Cal P w K mg base "_law_held" 1 F__law_held) (c_run : Cal P w K mg base "run" 5 F_run) : FnOk P w K mg base (L2.CX P w) 6 f fd ["script"] (spOf K 1 F_law) :=
  fn_ok F sc_law rfl fun φ cdv A outer s H E hr => pzs_cons (pzs_setF 1 (pzf_lst (pza_nil)) sc_law.nd) (pzs_cons (pzs_set 2 (pz_tup (pza_cons (pz_int) (pza_cons (pz_tup (pza_cons (pz_int) (pza_cons (pz_int) (pza_cons (pz_int) (pza_nil))))) (pza_nil)))) sc_law.nd) (pzs_cons (pzs_for (pzi_R1 (pza_cons (pz_int) (pza_nil)) T.m_range) (pzg_n 3 sc_law.nd) (pzs_cons (pzs_set 4 (pz_cmp (opz_eq hr.units) (pz_call c__law_draw (hr.mono (by decide)) (pza_cons (pz_v 0) (pza_cons (pz_v 1) (pza_cons (pz_int) (pza_nil))))) (pz_int)) sc_law.nd) (pzs_cons (pzs_asg (pz_if (pzt_tru (pz_v 4)) (pz_tup (pza_cons (pz_str) (pza_cons (pz_str) (pza_nil)))) (pz_tup (pza_cons (pz_str) (pza_cons (pz_str) (pza_nil))))) (pzg_t2 (pzg_n 5 sc_law.nd) (pzg_n 6 sc_law.nd))) (pzs_cons (pzs_set 7 (pz_op opz_sub (pz_int) (pz_call c__law_draw (hr.mono (by decide)) (pza_cons (pz_v 0) (pza_cons (pz_v 1) (pza_cons (pz_int) (pza_nil)))))) sc_law.nd) (pzs_cons (pzs_set 8 (pz_tup (pza_cons (pz_tup (pza_cons (pz_str) (pza_cons (pz_tup (pza_cons (pz_str) (pza_cons (pz_str) (pza_cons (pz_str) (pza_nil))))) (pza_nil)))) (pza_cons (pz_tup (pza_cons (pz_str) (pza_cons (pz_tup (pza_cons (pz_v 5) (pza_cons (pz_str) (pza_cons (pz_str) (pza_nil))))) (pza_nil)))) (pza_cons (pz_tup (pza_cons (pz_str) (pza_cons (pz_tup (pza_cons (pz_v 5) (pza_cons (pz_str) (pza_cons (pz_str) (pza_nil))))) (pza_nil)))) (pza_nil))))) sc_law.nd) (pzs_cons (pzs_set 8 (pz_op opz_add (pz_v 8) (pz_tup (pza_cons (pz_tup (pza_cons (pz_str) (pza_cons (pz_tup (pza_cons (pz_str) (pza_cons (pz_str) (pza_cons (pz_str) (pza_nil))))) (pza_nil)))) (pza_cons (pz_tup (pza_cons (pz_str) (pza_cons (pz_tup (pza_cons (pz_v 5) (pza_cons (pz_str) (pza_cons (pz_str) (pza_nil))))) (pza_nil)))) (pza_cons (pz_tup (pza_cons (pz_str) (pza_cons (pz_tup (pza_cons (pz_v 6) (pza_cons (pz_str) (pza_cons (pz_str) (pza_nil))))) (pza_nil)))) (pza_nil)))))) sc_law.nd) (pzs_cons (pzs_set 8 (pz_op opz_add (pz_v 8) (pz_tup (pza_cons (pz_tup (pza_cons (pz_str) (pza_cons (pz_v 7) (pza_nil)))) (pza_cons (pz_tup (pza_cons (pz_str) (pza_cons (pz_int) (pza_nil)))) (pza_nil))))) sc_law.nd) (pzs_cons (pzs_set 9 (pz_cty cz_tuple T.m_tuple bt_tuple (pza_cons (pz_f (pzf_lc (own := [("at", 18), ("cell", 19)]) (pzi_E (pza_cons (pz_v 8) (pza_nil)) T.m_enumerate) sc_law.nd (blkOk_by (by kernel_rfl)) (fun _ _ _ _ _ => pzg_t2 (pzg_n 18 sc_law.nd) (pzg_n 19 sc_law.nd)) (fun _ _ _ _ _ => pzt_nil) (fun _ _ _ _ _ => pz_tup (pza_cons (pz_ix (pz_v 19) (pz_int)) (pza_cons (pz_v 18) (pza_nil)))))) (pza_nil))) sc_law.nd) (pzs_one (pzs_for (pzi_Q (pz_tup (pza_cons (pz_int) (pza_cons (pz_int) (pza_cons (pz_int) (pza_cons (pz_int) (pza_cons (pz_int) (pza_cons (pz_int) (pza_cons (pz_int) (pza_cons (pz_int) (pza_nil))))))))))) (pzg_n 10 sc_law.nd) (pzs_cons (pzs_asg (pz_tup (pza_cons (pz_int) (pza_cons (pz_int) (pza_cons (pz_str) (pza_nil))))) (pzg_t3 (pzg_n 11 sc_law.nd) (pzg_n 12 sc_law.nd) (pzg_n 13 sc_law.nd))) (pzs_cons (pzs_for (pzi_R1 (pza_cons (pz_v 10) (pza_nil)) T.m_range) (pzg_n 14 sc_law.nd) (pzs_cons (pzs_if (pzt_cmp (opz_eq hr.units) (pz_v 13) (pz_str)) (pzs_one (pzs_set 11 (pz_v 12) sc_law.nd)) (pzs_one (pzs_if (pzt_cmp (opz_in (hu65 hr)) (pz_v 13) (pz_str)) (pzs_one (pzs_set 11 (pz_call c__law_held (hr.mono (by decide)) (pza_cons (pz_op opz_add (pz_v 11) (pz_if (pzt_tru (pz_v 4)) (pz_v 7) (pz_op opz_sub (pz_int) (pz_v 7)))) (pza_nil))) sc_law.nd)) (pzs_one (pzs_if (pzt_cmp (opz_eq hr.units) (pz_v 13) (pz_str)) (pzs_one (pzs_set 12 (pz_v 11) sc_law.nd)) (pzs_one (pzs_if (pzt_cmp (opz_eq hr.units) (pz_v 13) (pz_str)) (pzs_one (pzs_set 11 (pz_call c__law_held (hr.mono (by decide)) (pza_cons (pz_op opz_add (pz_v 11) (pz_if (pzt_tru (pz_v 4)) (pz_v 12) (pz_op opz_sub (pz_int) (pz_v 12)))) (pza_nil))) sc_law.nd)) (pzs_one (pzs_set 11 (pz_call c__law_held (hr.mono (by decide)) (pza_cons (pz_op opz_sub (pz_v 11) (pz_if (pzt_tru (pz_v 4)) (pz_v 7) (pz_op opz_sub (pz_int) (pz_v 7)))) (pza_nil))) sc_law.nd))))))))) (pzs_one (pzs_set 13 (pz_dget (hu1 hr) (pz_new (pzf_dis (pzd_str (pzd_str (pzd_str (pzd_str (pzd_str (pzd_str (pzd_nil))))))))) (pz_v 13)) sc_law.nd)))) (pzs_cons (pzs_set 15 (pz_call c_run (hr.mono (by decide)) (pza_cons (pz_v 2) (pza_cons (pz_v 8) (pza_cons (pz_v 9) (pza_cons (pz_str) (pza_cons (pz_int) (pza_cons (pz_v 10) (pza_nil)))))))) sc_law.nd) (pzs_one (pzs_if (pzt_w (pzw_or (pzt_cmp (opz_ne hr.units) (pz_ix (pz_v 15) (pz_int)) (pz_v 11)) (pzw_or1 (pzt_cmp (opz_ne hr.units) (pz_ix (pz_v 15) (pz_int)) (pz_tup (pza_cons (pz_tup (pza_cons (pz_str) (pza_cons (pz_v 7) (pza_nil)))) (pza_cons (pz_tup (pza_cons (pz_str) (pza_cons (pz_v 12) (pza_nil)))) (pza_nil)))))))) (pzs_one (pzs_ret (pz_bl))) (pzs_nil)))))))))))))))) (pzs_cons (pzs_set 16 (pz_tup (pza_cons (pz_tup (pza_cons (pz_str) (pza_cons (pz_tup (pza_cons (pz_str) (pza_cons (pz_str) (pza_cons (pz_str) (pza_nil))))) (pza_nil)))) (pza_cons (pz_tup (pza_cons (pz_str) (pza_cons (pz_int) (pza_nil)))) (pza_nil)))) sc_law.nd) (pzs_cons (pzs_for (pzi_Q (pz_tup (pza_cons (pz_int) (pza_cons (pz_int) (pza_cons (pz_int) (pza_cons (pz_int) (pza_nil))))))) (pzg_n 10 sc_law.nd) (pzs_one (pzs_if (pzt_cmp (opz_ne hr.units) (pz_ix (pz_call c_run (hr.mono (by decide)) (pza_cons (pz_tup (pza_cons (pz_int) (pza_cons (pz_tup (pza_cons (pz_int) (pza_nil))) (pza_nil)))) (pza_cons (pz_v 16) (pza_cons (pz_tup (pza_cons (pz_tup (pza_cons (pz_str) (pza_cons (pz_int) (pza_nil)))) (pza_cons (pz_tup (pza_cons (pz_str) (pza_cons (pz_int) (pza_nil)))) (pza_nil)))) (pza_cons (pz_str) (pza_cons (pz_int) (pza_cons (pz_v 10) (pza_nil)))))))) (pz_int)) (pz_cb cz_min2 T.m_min bt_min (pza_cons (pz_int) (pza_cons (pz_op opz_mul (pz_int) (pz_v 10)) (pza_nil))))) (pzs_one (pzs_ret (pz_bl))) (pzs_nil)))) (pzs_cons (pzs_set 17 (pz_tup (pza_cons (pz_tup (pza_cons (pz_str) (pza_cons (pz_tup (pza_cons (pz_str) (pza_cons (pz_str) (pza_cons (pz_str) (pza_nil))))) (pza_nil)))) (pza_cons (pz_tup (pza_cons (pz_str) (pza_cons (pz_int) (pza_nil)))) (pza_nil)))) sc_law.nd) (pzs_cons (pzs_for (pzi_Q (pz_tup (pza_cons (pz_int) (pza_cons (pz_int) (pza_cons (pz_int) (pza_cons (pz_int) (pza_nil))))))) (pzg_n 10 sc_law.nd) (pzs_one (pzs_if (pzt_cmp (opz_ne hr.units) (pz_ix (pz_call c_run (hr.mono (by decide)) (pza_cons (pz_tup (pza_cons (pz_int) (pza_cons (pz_tup (pza_cons (pz_int) (pza_nil))) (pza_nil)))) (pza_cons (pz_v 17) (pza_cons (pz_tup (pza_cons (pz_tup (pza_cons (pz_str) (pza_cons (pz_int) (pza_nil)))) (pza_cons (pz_tup (pza_cons (pz_str) (pza_cons (pz_int) (pza_nil)))) (pza_nil)))) (pza_cons (pz_str) (pza_cons (pz_int) (pza_cons (pz_v 10) (pza_nil)))))))) (pz_int)) (pz_cb cz_max2 T.m_max bt_max (pza_cons (pz_neg (pz_int)) (pza_cons (pz_op opz_mul (pz_neg (pz_int)) (pz_v 10)) (pza_nil))))) (pzs_one (pzs_ret (pz_bl))) (pzs_nil)))) (pzs_one (pzs_ret (pz_bl)))))))))
end
end Q_drumwords_k32_whole_bounds_of_sums
end
section
set_option Elab.async false
set_option linter.all false
set_option maxRecDepth 100000
set_option autoImplicit false
namespace Z
open PySem L2
theorem zseq_ap {z z' : ZS} {Γ : Env1} {S : Sto} : zseq z z' Γ S = ((z Γ S).seq z') := (rfl)
theorem zdrop_ap {z : ZE} {Γ : Env1} {S : Sto} : zdrop z Γ S = ((z Γ S).st Γ fun _ S1 => .nx Γ S1) := (rfl)
theorem zset_ap {i : Nat} {z : ZE} {Γ : Env1} {S : Sto} : zset i z Γ S = ((z Γ S).st Γ fun x S1 => .nx (Γ.set i (some x)) S1) := (rfl)
theorem zsetF_ap {i : Nat} {z : ZF} {Γ : Env1} {S : Sto} : zsetF i z Γ S = ((z Γ S).st Γ fun b S1 => .nx (Γ.set i (some (.box S1.length))) (S1 ++ [b])) := (rfl)
theorem zifS_ap {zt : ZT} {z z' : ZS} {Γ : Env1} {S : Sto} : zifS zt z z' Γ S = ((zt Γ S).st Γ fun k S1 => if k = true then z Γ S1 else z' Γ S1) := (rfl)
theorem ztru_ap {z : ZE} {Γ : Env1} {S : Sto} : ztru z Γ S = ((z Γ S).bind fun x S1 => ofOpt (truS S1 x) S1) := (rfl)
theorem zop_ap {r : PyData → PyData → Option PyData} {za zb : ZE} {Γ : Env1} {S : Sto} : zop r za zb Γ S = ((za Γ S).bind fun x S1 => (zb Γ S1).bind fun y S2 => app2 r S2 x y) := (rfl)
theorem zcb_ap {r : Sto → List Sl → Option PyData} {za : ZA} {Γ : Env1} {S : Sto} : zcb r za Γ S = ((za Γ S).bind fun xs S1 => match r S1 xs with
  | some c => .val (.d c) S1
  | none => .bad) := (rfl)
theorem zcf_ap {r : Sto → List Sl → Option Box} {za : ZA} {Γ : Env1} {S : Sto} : zcf r za Γ S = ((za Γ S).bind fun xs S1 => match r S1 xs with
  | some c => .val c S1
  | none => .bad) := (rfl)
theorem zacons_ap {za : ZE} {zr : ZA} {Γ : Env1} {S : Sto} : zacons za zr Γ S = ((za Γ S).bind fun x S1 => (zr Γ S1).bind fun xs S2 => .val (x :: xs) S2) := (rfl)
theorem zanil_ap {Γ0 : Env1} {S : Sto} : zanil  Γ0 S = (.val [] S) := (rfl)
theorem zc_ap {x : PyData} {Γ0 : Env1} {S : Sto} : zc x Γ0 S = (.val (.d x) S) := (rfl)
theorem zv_ap {i : Nat} {Γ : Env1} {S : Sto} : zv i Γ S = (match Γ[i]? with
  | some (some x) => .val x S
  | _ => .bad) := (rfl)
theorem znil_ap {Γ : Env1} {S : Sto} : znil  Γ S = (.nx Γ S) := (rfl)
theorem zret_ap {z : ZE} {Γ : Env1} {S : Sto} : zret z Γ S = ((z Γ S).st Γ fun x S1 => .rt x S1) := (rfl)
theorem zcall_ap {F : Fn} {za : ZA} {Γ : Env1} {S : Sto} : zcall F za Γ S = ((za Γ S).bind fun xs S1 => F xs S1) := (rfl)
theorem zfz_ap {z : ZF} {Γ : Env1} {S : Sto} : zfz z Γ S = ((z Γ S).bind fun b S1 => match b with
  | .lst ds => .val (.d (.list ds)) S1
  | _ => .bad) := (rfl)
theorem znew_ap {z : ZF} {Γ : Env1} {S : Sto} : znew z Γ S = ((z Γ S).bind fun b S1 => .val (.box S1.length) (S1 ++ [b])) := (rfl)
theorem zneg_ap {za : ZE} {Γ : Env1} {S : Sto} : zneg za Γ S = ((za Γ S).bind fun x S1 => match x with
  | .d (.int i) => .val (.d (.int (-i))) S1
  | _ => .bad) := (rfl)
theorem zos_ap {z : ZE} {Γ : Env1} {S : Sto} : zos z Γ S = ((z Γ S).bind fun x S1 => match x with
  | .d (.int i) => .val (some i) S1
  | _ => .bad) := (rfl)
theorem zon_ap {Γ0 : Env1} {S : Sto} : zon  Γ0 S = (.val none S) := (rfl)
theorem zsl_ap {za : ZE} {zl zh : ZO} {Γ : Env1} {S : Sto} : zsl za zl zh Γ S = ((za Γ S).bind fun x S1 => (zl Γ S1).bind fun l S2 => (zh Γ S2).bind fun h S3 => match res S3 x with
  | some d => (match dSl d l h with
    | some c => .val (.d c) S3
    | none => .bad)
  | none => .bad) := (rfl)
theorem zslF_ap {za : ZE} {zl zh : ZO} {Γ : Env1} {S : Sto} : zslF za zl zh Γ S = ((za Γ S).bind fun x S1 => (zl Γ S1).bind fun l S2 => (zh Γ S2).bind fun h S3 => match res S3 x with
  | some (.list ds) => .val (.lst (cutL ds l h)) S3
  | _ => .bad) := (rfl)
theorem ztup_ap {za : ZA} {Γ : Env1} {S : Sto} : ztup za Γ S = ((za Γ S).bind fun xs S1 => match allD xs with
  | some ds => if ds.length ≤ lim then .val (.d (.tuple ds)) S1 else .bad
  | none => .bad) := (rfl)
theorem zlst_ap {za : ZA} {Γ : Env1} {S : Sto} : zlst za Γ S = ((za Γ S).bind fun xs S1 => match allD xs with
  | some ds => if ds.length ≤ lim then .val (.lst ds) S1 else .bad
  | none => .bad) := (rfl)
theorem zand_ap {za zb : ZT} {Γ : Env1} {S : Sto} : zand za zb Γ S = ((za Γ S).bind fun k S1 => if k = true then zb Γ S1 else .val false S1) := (rfl)
theorem zor_ap {za zb : ZT} {Γ : Env1} {S : Sto} : zor za zb Γ S = ((za Γ S).bind fun k S1 => if k = true then .val true S1 else zb Γ S1) := (rfl)
theorem znot_ap {za : ZT} {Γ : Env1} {S : Sto} : znot za Γ S = ((za Γ S).bind fun k S1 => .val (!k) S1) := (rfl)
theorem zif_ap {zt : ZT} {za zb : ZE} {Γ : Env1} {S : Sto} : zif zt za zb Γ S = ((zt Γ S).bind fun k S1 => if k = true then za Γ S1 else zb Γ S1) := (rfl)
theorem zpar_ap {i j : Nat} {za : ZA} {Γ : Env1} {S : Sto} : zpar i j za Γ S = ((za Γ S).st Γ fun xs S1 => match xs with
  | [x, y] => .nx ((Γ.set i (some x)).set j (some y)) S1
  | _ => .bad) := (rfl)
theorem zpar3_ap {i j l : Nat} {za : ZA} {Γ : Env1} {S : Sto} : zpar3 i j l za Γ S = ((za Γ S).st Γ fun xs S1 => match xs with
  | [x, y, w] => .nx (((Γ.set i (some x)).set j (some y)).set l (some w)) S1
  | _ => .bad) := (rfl)
theorem zasg_ap {g : ZG} {z : ZE} {Γ : Env1} {S : Sto} : zasg g z Γ S = ((z Γ S).st Γ fun x S1 => match x with
  | .d d => (match g d Γ with
    | some Γ' => .nx Γ' S1
    | none => .bad)
  | _ => .bad) := (rfl)
theorem zdnew_ap {Γ0 : Env1} {S : Sto} : zdnew  Γ0 S = (.val (.dic []) S) := (rfl)
theorem znotV_ap {za : ZT} {Γ : Env1} {S : Sto} : znotV za Γ S = ((za Γ S).bind fun k S1 => .val (.d (.bool !k)) S1) := (rfl)
theorem zbrk_ap {Γ : Env1} {S : Sto} : zbrk  Γ S = (.bk Γ S) := (rfl)
theorem zcnt_ap {Γ : Env1} {S : Sto} : zcnt  Γ S = (.ct Γ S) := (rfl)
theorem zopF_ap {f : PyData → PyData → Option Box} {za zb : ZE} {Γ : Env1} {S : Sto} : zopF f za zb Γ S = ((za Γ S).bind fun x S1 => (zb Γ S1).bind fun y S2 => match x, y with
  | .d a, .d b => ofOpt (f a b) S2
  | _, _ => .bad) := (rfl)
theorem zpop0_ap {zo : ZE} {Γ : Env1} {S : Sto} : zpop0 zo Γ S = ((zo Γ S).bind fun x S1 => match lstAt S1 x with
  | some (n, ds) => (match ds[ds.length - 1]? with
    | some y => .val (.d y) (S1.set n (.lst ds.dropLast))
    | none => .bad)
  | none => .bad) := (rfl)
theorem zdget_ap {zd zk : ZE} {Γ : Env1} {S : Sto} : zdget zd zk Γ S = ((zd Γ S).bind fun x S1 => (zk Γ S1).bind fun y S2 => match resD S2 x, keySl y with
  | some kvs, some k => (match valD kvs k with
    | some c => .val (.d c) S2
    | none => .bad)
  | _, _ => .bad) := (rfl)
theorem zdin_ap {zk zd : ZE} {Γ : Env1} {S : Sto} : zdin zk zd Γ S = ((zk Γ S).bind fun y S1 => (zd Γ S1).bind fun x S2 => match resD S2 x, keySl y with
  | some kvs, some k => .val (.d (.bool (valD kvs k).isSome)) S2
  | _, _ => .bad) := (rfl)
theorem zdnin_ap {zk zd : ZE} {Γ : Env1} {S : Sto} : zdnin zk zd Γ S = ((zk Γ S).bind fun y S1 => (zd Γ S1).bind fun x S2 => match resD S2 x, keySl y with
  | some kvs, some k => .val (.d (.bool !(valD kvs k).isSome)) S2
  | _, _ => .bad) := (rfl)
theorem zisi_ap {T : String} {za : ZE} {Γ : Env1} {S : Sto} : zisi T za Γ S = ((za Γ S).bind fun x S1 => match res S1 x with
  | some d => (match tyN d with
    | some t => .val (.d (.bool (isOf T t))) S1
    | none => .bad)
  | none => .bad) := (rfl)
theorem ziA_ap {f : List Sl → Option (List PyData)} {za : ZA} {Γ : Env1} {S : Sto} : ziA f za Γ S = ((za Γ S).bind fun xs S1 => ofOpt (f xs) S1) := (rfl)
theorem ziQ_ap {z : ZE} {Γ : Env1} {S : Sto} : ziQ z Γ S = ((z Γ S).bind fun x S1 => ofOpt (itemsQ x) S1) := (rfl)
theorem ziL_ap {z : ZE} {Γ : Env1} {S : Sto} : ziL z Γ S = ((z Γ S).bind fun x S1 => ofOpt (itemsL x) S1) := (rfl)
theorem ziT_ap {z : ZE} {Γ : Env1} {S : Sto} : ziT z Γ S = ((z Γ S).bind fun x S1 => ofOpt (itemsT x) S1) := (rfl)
theorem zattr_ap {C f : Str} {z : ZE} {Γ : Env1} {S : Sto} : zattr C f z Γ S = ((z Γ S).bind fun x S1 => match insAt S1 C x with
  | some (n, fs, g, _) => if f = g then .val (.sub n) S1 else (match fs.lookup f with
    | some d => .val (.d d) S1
    | none => .bad)
  | none => .bad) := (rfl)
theorem zaset_ap {C f : Str} {zo zv : ZE} {Γ : Env1} {S : Sto} : zaset C f zo zv Γ S = ((zv Γ S).st Γ fun y S1 => (zo Γ S1).st Γ fun x S2 => match y, insAt S2 C x with
  | .d d, some (n, fs, g, kvs) => if f ≠ g ∧ (fs.lookup f).isSome = true then .nx Γ (S2.set n (.ins C (putA f d fs) g kvs)) else .bad
  | _, _ => .bad) := (rfl)
theorem zmake_ap {C g : Str} {n : Nat} {ini : Ini} {za : ZA} {Γ : Env1} {S : Sto} : zmake C g n ini za Γ S = ((za Γ S).bind fun xs S1 => if xs.length + 1 = n then (match ini xs with
  | some (fs, kvs) => .val (.box S1.length) (S1 ++ [.ins C fs g kvs])
  | none => .bad) else .bad) := (rfl)
theorem zpr_ap {z1 z2 : ZE} {Γ : Env1} {S : Sto} : zpr z1 z2 Γ S = ((z1 Γ S).bind fun x S1 => (z2 Γ S1).bind fun y S2 => match x, y with
  | .d d, .box n => .val (.pr d n) S2
  | _, _ => .bad) := (rfl)
theorem zpr1_ap {z : ZE} {Γ : Env1} {S : Sto} : zpr1 z Γ S = ((z Γ S).bind fun x S1 => match x with
  | .pr _ n => .val (.box n) S1
  | _ => .bad) := (rfl)
theorem zasgP_ap {i j : Nat} {z : ZE} {Γ : Env1} {S : Sto} : zasgP i j z Γ S = ((z Γ S).st Γ fun x S1 => match x with
  | .pr d n => .nx ((Γ.set i (some (.d d))).set j (some (.box n))) S1
  | _ => .bad) := (rfl)
theorem zlset_ap {z : ZE} {Γ : Env1} {S : Sto} : zlset z Γ S = ((z Γ S).bind fun x S1 => match res S1 x with
  | some (.list ds) => (match intsOf ds with
    | some ns => if ns.length ≤ 4000 then .val (.d (.int ((ddup ns).length : Nat))) S1 else .bad
    | none => .bad)
  | _ => .bad) := (rfl)
theorem zlrg_ap {z : ZE} {Γ : Env1} {S : Sto} : zlrg z Γ S = ((z Γ S).bind fun x S1 => match x with
  | .d (.int n) => if n.natAbs < 100000 then .val (.lst (rngL 0 n.toNat)) S1 else .bad
  | _ => .bad) := (rfl)
theorem zkin_ap {kvs : List (Str × Int)} {no : List Str} {z : ZE} {Γ : Env1} {S : Sto} : zkin kvs no z Γ S = ((z Γ S).bind fun x S1 => match x with
  | .d (.str k) => (match kvs.lookup k with
    | some _ => .val (.d (.bool true)) S1
    | none => if no.contains k = true then .val (.d (.bool false)) S1 else .bad)
  | _ => .bad) := (rfl)
theorem zkget_ap {kvs : List (Str × Int)} {z : ZE} {Γ : Env1} {S : Sto} : zkget kvs z Γ S = ((z Γ S).bind fun x S1 => match x with
  | .d (.str k) => (match kvs.lookup k with
    | some i => .val (.d (.int i)) S1
    | none => .bad)
  | _ => .bad) := (rfl)
theorem zraise_ap {c : Str} {Γ : Env1} {S : Sto} : zraise c Γ S = (.ex c Γ S) := (rfl)
theorem ztry_ap {cs : List Str} {zb : ZS} {hs : List (Str × ZS)} {Γ : Env1} {S : Sto} : ztry cs zb hs Γ S = (match zb Γ S with
  | .ex c Γ' S' => if cs.contains c = true then zcatch c hs Γ' S' else .bad
  | o => o) := (rfl)
theorem zfor_ap {zi : ZI} {g : ZG} {body : ZS} {Γ : Env1} {S : Sto} : zfor zi g body Γ S = ((zi Γ S).st Γ fun ds S1 => forGo S1.length g body ds Γ S1) := (rfl)
theorem zwhile_ap {k : Nat} {zt : ZT} {body : ZS} {Γ : Env1} {S : Sto} : zwhile k zt body Γ S = (whGo S.length zt body k Γ S) := (rfl)
theorem gN_ap {i : Nat} {d : PyData} {Γ : Env1} : gN i d Γ = (some (Γ.set i (some (.d d)))) := (rfl)
theorem gT2_ap {g g' : ZG} {d : PyData} {Γ : Env1} : gT2 g g' d Γ = (match d with
  | .tuple [a, b] => (g a Γ).bind fun Γ1 => g' b Γ1
  | _ => none) := (rfl)
theorem gT3_ap {g g' g2 : ZG} {d : PyData} {Γ : Env1} : gT3 g g' g2 d Γ = (match d with
  | .tuple [a, b, c] => (g a Γ).bind fun Γ1 => (g' b Γ1).bind fun Γ2 => g2 c Γ2
  | _ => none) := (rfl)
theorem lamOf_ap {ze : ZE} {ix iy : Nat} {Γ : Env1} {xs : List Sl} {S : Sto} : lamOf ze ix iy Γ xs S = (match xs with
  | [.d a, .d b] => (ze ((Γ.set ix (some (.d a))).set iy (some (.d b))) S).bind fun r S2 => match r with
    | .d y => .val (.d y) S2
    | _ => .bad
  | _ => .bad) := (rfl)
theorem ztrue_ap {Γ0 : Env1} {S : Sto} : ztrue  Γ0 S = (.val true S) := (rfl)
theorem zorD_ap {za zb : ZE} {Γ : Env1} {S : Sto} : zorD za zb Γ S = ((za Γ S).bind fun x S1 => (ofOpt (truS S1 x) S1).bind fun k S1 => if k = true then .val x S1 else zb Γ S1) := (rfl)
theorem zparA_ap {is : List Nat} {za : ZA} {Γ : Env1} {S : Sto} : zparA is za Γ S = ((za Γ S).st Γ fun xs S1 => if xs.length = is.length ∧ xs.length ≤ lim then .nx (setAll Γ is xs) S1 else .bad) := (rfl)
theorem zdis_ap {kvs : List (Str × PyData)} {Γ0 : Env1} {S : Sto} : zdis kvs Γ0 S = (.val (.dic (mergeD [] (kvs.map fun u => (Sum.inr u.1, u.2)))) S) := (rfl)
def bolOf : Sl → Option Bool
  | .d (.bool b) => some b
  | _ => none
def datOf : Sl → Option PyData
  | .d x => some x
  | _ => none
def fnOf : Option (Option Sl) → Option Unit
  | some (some .fn) => some ()
  | _ => none
def scrOf : Option Box → Option Unit
  | some (.scr _) => some ()
  | _ => none
def lsOf : Option PyData → Option (List PyData)
  | some (.list ds) => some ds
  | _ => none
theorem ztst_ap {z : ZE} {Γ : Env1} {S : Sto} : ztst z Γ S = (z Γ S).bind fun x S1 => ofOpt (bolOf x) S1 := by
  unfold ztst
  cases z Γ S with
  | val x S1 => cases x with
    | d y => cases y <;> rfl
    | _ => rfl
  | _ => rfl
theorem zandV_ap {za zb : ZE} {Γ : Env1} {S : Sto} : zandV za zb Γ S = (za Γ S).bind fun x S1 => (ofOpt (bolOf x) S1).bind fun b S1 => if b = true then zb Γ S1 else .val (.d (.bool false)) S1 := by
  unfold zandV
  cases za Γ S with
  | val x S1 => cases x with
    | d y => cases y with
      | bool b => cases b <;> rfl
      | _ => rfl
    | _ => rfl
  | _ => rfl
theorem zorV_ap {za zb : ZE} {Γ : Env1} {S : Sto} : zorV za zb Γ S = (za Γ S).bind fun x S1 => (ofOpt (bolOf x) S1).bind fun b S1 => if b = true then .val (.d (.bool true)) S1 else zb Γ S1 := by
  unfold zorV
  cases za Γ S with
  | val x S1 => cases x with
    | d y => cases y with
      | bool b => cases b <;> rfl
      | _ => rfl
    | _ => rfl
  | _ => rfl
theorem zchain_ap {r r' : PyData → PyData → Option PyData} {za zb zd : ZE} {Γ : Env1} {S : Sto} : zchain r r' za zb zd Γ S = (za Γ S).bind fun x S1 => (zb Γ S1).bind fun y S2 => (app2 r S2 x y).bind fun k S3 => (ofOpt (bolOf k) S3).bind fun b S3 => if b = true then (zd Γ S3).bind fun w S4 => app2 r' S4 y w else .val (.d (.bool false)) S3 := by
  unfold zchain
  cases za Γ S with
  | val x S1 =>
    dsimp only [Out.bind]
    cases zb Γ S1 with
    | val y S2 =>
      dsimp only [Out.bind]
      cases app2 r S2 x y with
      | val k S3 => cases k with
        | d y => cases y with
          | bool b => cases b <;> rfl
          | _ => rfl
        | _ => rfl
      | _ => rfl
    | _ => rfl
  | _ => rfl
theorem zapp_ap {zo za : ZE} {Γ : Env1} {S : Sto} : zapp zo za Γ S = (zo Γ S).bind fun x S1 => (ofOpt (lstAt S1 x) S1).bind fun _ S1 => (za Γ S1).bind fun y S2 => (ofOpt (datOf y) S2).bind fun d S2 => (ofOpt (lstAt S2 x) S2).bind fun q S2 => if q.2.length < lim then .val (.d .none) (S2.set q.1 (.lst (q.2 ++ [d]))) else .bad := by
  unfold zapp
  cases zo Γ S with
  | val x S1 =>
    dsimp only [Out.bind]
    cases lstAt S1 x with
    | some q =>
      dsimp only [ofOpt]
      cases za Γ S1 with
      | val y S2 => cases y with
        | d y =>
          dsimp only [ofOpt, datOf]
          cases lstAt S2 x <;> rfl
        | _ => rfl
      | _ => rfl
    | none => rfl
  | _ => rfl
theorem zmt1_ap {f : List PyData → PyData → Option (PyData × List PyData)} {zo za : ZE} {Γ : Env1} {S : Sto} : zmt1 f zo za Γ S = (zo Γ S).bind fun x S1 => (ofOpt (lstAt S1 x) S1).bind fun _ S1 => (za Γ S1).bind fun y S2 => (ofOpt (datOf y) S2).bind fun d S2 => (ofOpt (lstAt S2 x) S2).bind fun q S2 => (ofOpt (f q.2 d) S2).bind fun c S2 => .val (.d c.1) (S2.set q.1 (.lst c.2)) := by
  unfold zmt1
  cases zo Γ S with
  | val x S1 =>
    dsimp only [Out.bind]
    cases lstAt S1 x with
    | some q =>
      dsimp only [ofOpt]
      cases za Γ S1 with
      | val y S2 => cases y with
        | d y =>
          dsimp only [ofOpt, datOf]
          cases lstAt S2 x with
          | none => rfl
          | some q =>
            dsimp only [ofOpt]
            cases f q.2 y <;> rfl
        | _ => rfl
      | _ => rfl
    | none => rfl
  | _ => rfl
def cntI (q : List PyData) (y : PyData) : Option PyData := match y with
  | .int k => (intsOf q).map fun ns => .int (ns.count k : Nat)
  | _ => none
theorem zcnt1_ap {zo za : ZE} {Γ : Env1} {S : Sto} : zcnt1 zo za Γ S = (zo Γ S).bind fun x S1 => (ofOpt (lsOf (res S1 x)) S1).bind fun _ S1 => (za Γ S1).bind fun y S2 => (ofOpt (datOf y) S2).bind fun y S2 => (ofOpt (lsOf (res S2 x)) S2).bind fun q S2 => (ofOpt (cntI q y) S2).bind fun c S2 => .val (.d c) S2 := by
  unfold zcnt1
  cases zo Γ S with
  | val x S1 =>
    dsimp only [Out.bind]
    cases res S1 x with
    | some q => cases q with
      | list q =>
        dsimp only [ofOpt, lsOf]
        cases za Γ S1 with
        | val y S2 =>
          dsimp only
          cases y with
          | d y =>
            dsimp only [datOf]
            cases res S2 x with
            | none => cases y <;> rfl
            | some z => cases z with
              | list z => cases y with
                | int k =>
                  dsimp only [ofOpt, lsOf, cntI]
                  cases intsOf z <;> rfl
                | _ => rfl
              | _ => cases y <;> rfl
          | _ => cases res S2 x with
            | none => rfl
            | some z => cases z <;> rfl
        | _ => rfl
      | _ => rfl
    | none => rfl
  | _ => rfl
theorem zmeth_ap {C m : Str} {n : Nat} {F : Fn} {zo : ZE} {za : ZA} {Γ : Env1} {S : Sto} : zmeth C m n F zo za Γ S = (zo Γ S).bind fun x S1 => (ofOpt (insAt S1 C x) S1).bind fun q S1 => if m ≠ q.2.2.1 ∧ q.2.1.lookup m = none then (za Γ S1).bind fun xs S2 => if xs.length + 1 = n then noExc (F (x :: xs) S2) else .bad else .bad := by
  unfold zmeth
  cases zo Γ S with
  | val x S1 =>
    dsimp only [Out.bind]
    cases insAt S1 C x <;> rfl
  | _ => rfl
theorem zdget2_ap {zd zk zo : ZE} {Γ : Env1} {S : Sto} : zdget2 zd zk zo Γ S = (zd Γ S).bind fun x S1 => (ofOpt (resD S1 x) S1).bind fun _ S1 => (zk Γ S1).bind fun y S2 => (zo Γ S2).bind fun o S3 => (ofOpt (resD S3 x) S3).bind fun kvs S3 => (ofOpt (keySl y) S3).bind fun k S3 => (ofOpt (datOf o) S3).bind fun d S3 => .val (.d ((valD kvs k).getD d)) S3 := by
  unfold zdget2
  cases zd Γ S with
  | val x S1 =>
    dsimp only [Out.bind]
    cases resD S1 x with
    | none => rfl
    | some q =>
      dsimp only [ofOpt]
      cases zk Γ S1 with
      | val y S2 =>
        dsimp only
        cases zo Γ S2 with
        | val o S3 =>
          dsimp only
          cases resD S3 x with
          | none => rfl
          | some kvs =>
            dsimp only [ofOpt]
            cases keySl y with
            | none => rfl
            | some k => cases o <;> rfl
        | _ => rfl
      | _ => rfl
  | _ => rfl
theorem zact_ap {i : Nat} {lam : Fn} {za : ZA} {Γ : Env1} {S : Sto} : zact i lam za Γ S = (ofOpt (fnOf Γ[i]?) S).bind fun _ S => (za Γ S).bind fun xs S1 => lam xs S1 := by
  unfold zact
  cases Γ[i]? with
  | none => rfl
  | some o => cases o with
    | none => rfl
    | some o => cases o <;> rfl
theorem zlamcall_ap {z : Fn → ZS} {n : Nat} {ze : ZE} {ix iy : Nat} {z1 z2 z3 z4 : ZE} {Γ : Env1} {S : Sto} : zlamcall z n ze ix iy z1 z2 z3 z4 Γ S = (z1 Γ S).bind fun x1 S1 => (z2 Γ S1).bind fun x2 S2 => (z3 Γ S2).bind fun x3 S3 => (z4 Γ S3).bind fun x4 S4 =>
    (ofOpt (scrOf S4[0]?) S4).bind fun _ S4 => (ofOpt (allD [x1, x2, x3, x4]) S4).bind fun ds S4 => zdef 5 n (z (lamOf ze ix iy Γ)) (ds.map Sl.d ++ [.fn]) S4 := by
  unfold zlamcall
  cases z1 Γ S with
  | val x1 S1 =>
    dsimp only [Out.bind]
    cases z2 Γ S1 with
    | val x2 S2 =>
      dsimp only
      cases z3 Γ S2 with
      | val x3 S3 =>
        dsimp only
        cases z4 Γ S3 with
        | val x4 S4 =>
          dsimp only
          cases S4[0]? with
          | none => rfl
          | some b => cases b with
            | scr ns =>
              dsimp only [scrOf, ofOpt]
              cases x1 with
              | d a1 => cases x2 with
                | d a2 => cases x3 with
                  | d a3 => cases x4 <;> rfl
                  | _ => rfl
                | _ => rfl
              | _ => rfl
            | _ => rfl
        | _ => rfl
      | _ => rfl
    | _ => rfl
  | _ => rfl
def frzOf (S : Sto) (i : Nat) (Γ : Env1) : Option (Env1 × Sto) := match Γ[i]? with
  | some (some (.box n)) => (match S[n]? with
    | some (.lst ds) => some (Γ.set i (some (.d (.list ds))), S.set n .dead)
    | _ => none)
  | some (some (.d _)) => some (Γ, S)
  | _ => none
theorem zfrz_ap {i : Nat} {z : ZS} {Γ : Env1} {S : Sto} : zfrz i z Γ S = (ofOpt (frzOf S i Γ) S).st Γ fun q _ => z q.1 q.2 := by
  unfold zfrz frzOf
  cases Γ[i]? with
  | none => rfl
  | some o => cases o with
    | none => rfl
    | some o => cases o with
      | box n =>
        dsimp only
        cases S[n]? with
        | none => rfl
        | some b => cases b <;> rfl
      | _ => rfl
theorem zdput_ap {zd zk zv : ZE} {Γ : Env1} {S : Sto} : zdput zd zk zv Γ S = (zv Γ S).st Γ fun v S1 => (zd Γ S1).st Γ fun x S2 => (zk Γ S2).st Γ fun y S3 => (ofOpt (datOf v) S3).st Γ fun d S3 => (ofOpt (keySl y) S3).st Γ fun k S3 => (ofOpt (putS S3 x k d) S3).st Γ fun S4 _ => .nx Γ S4 := by
  unfold zdput
  cases zv Γ S with
  | val v S1 =>
    dsimp only [Out.st]
    cases zd Γ S1 with
    | val x S2 =>
      dsimp only
      cases zk Γ S2 with
      | val y S3 =>
        dsimp only
        cases v with
        | d d =>
          dsimp only [datOf, ofOpt]
          cases keySl y with
          | none => rfl
          | some k =>
            dsimp only
            cases putS S3 x k d <;> rfl
        | _ => rfl
      | _ => rfl
    | _ => rfl
  | _ => rfl
def lputOf (S : Sto) (v y x : Sl) : Option Sto := match v, y, lstAt S x with
  | .d d, .d (.int k), some (n, ds) => (match ixN ds.length k with
    | some j => some (S.set n (.lst (ds.set j d)))
    | none => none)
  | _, _, _ => none
theorem zlput_ap {zo zi zv : ZE} {Γ : Env1} {S : Sto} : zlput zo zi zv Γ S = (zv Γ S).st Γ fun v S1 => (zo Γ S1).st Γ fun x S2 => (zi Γ S2).st Γ fun y S3 => (ofOpt (lputOf S3 v y x) S3).st Γ fun S4 _ => .nx Γ S4 := by
  unfold zlput lputOf
  cases zv Γ S with
  | val v S1 =>
    dsimp only [Out.st]
    cases zo Γ S1 with
    | val x S2 =>
      dsimp only
      cases zi Γ S2 with
      | val y S3 =>
        dsimp only
        cases v with
        | d d => cases y with
          | d y => cases y with
            | int k =>
              cases lstAt S3 x with
              | none => rfl
              | some q =>
                dsimp only
                cases ixN q.2.length k <;> rfl
            | _ => rfl
          | _ => rfl
        | _ => rfl
      | _ => rfl
    | _ => rfl
  | _ => rfl
theorem dAdd_e1 {i j : Int} : dAdd (.int i) (.int j) = some (.int (i + j)) := (rfl)
theorem dAdd_e2 {a b : Str} : dAdd (.str a) (.str b) = if a.length + b.length ≤ lim then some (.str (a ++ b)) else none := (rfl)
theorem dAdd_e3 {a b : List PyData} : dAdd (.tuple a) (.tuple b) = if a.length + b.length ≤ lim then some (.tuple (a ++ b)) else none := (rfl)
theorem dSub_e1 {i j : Int} : dSub (.int i) (.int j) = some (.int (i - j)) := (rfl)
theorem dLt_e1 {i j : Int} : dLt (.int i) (.int j) = some (.bool (decide (i < j))) := (rfl)
theorem dLt_e2 {a b : Str} : dLt (.str a) (.str b) = some (.bool (decide (a.cps.toList < b.cps.toList))) := (rfl)
theorem dLt_e3 {a b : List PyData} : dLt (.tuple a) (.tuple b) = if PySem.W.alikeAll a b = true ∧ (PyData.tuple a).depth ≤ 64 then some (.bool (PySem.W.dataLt (.tuple a) (.tuple b))) else none := (rfl)
theorem dLe_e1 {i j : Int} : dLe (.int i) (.int j) = some (.bool (decide (i ≤ j))) := (rfl)
theorem dGt_e1 {i j : Int} : dGt (.int i) (.int j) = some (.bool (decide (j < i))) := (rfl)
theorem dGe_e1 {i j : Int} : dGe (.int i) (.int j) = some (.bool (decide (j ≤ i))) := (rfl)
theorem dIs_e1 {a : PyData} : dIs a .none = some (.bool (nonD a)) := (rfl)
theorem dIs_e2 {a b : Bool} : dIs (.bool a) (.bool b) = some (.bool (decide (a = b))) := (rfl)
theorem dIsNot_e1 {a : PyData} : dIsNot a .none = some (.bool (!nonD a)) := (rfl)
theorem dIsNot_e2 {a b : Bool} : dIsNot (.bool a) (.bool b) = some (.bool (!decide (a = b))) := (rfl)
theorem dIx_e1 {ds : List PyData} {i : Int} : dIx (.tuple ds) (.int i) = atI ds i := (rfl)
theorem dIx_e2 {ds : List PyData} {i : Int} : dIx (.list ds) (.int i) = atI ds i := (rfl)
theorem dIx_e3 {z : Str} {i : Int} : dIx (.str z) (.int i) = if z.length ≤ lim then (atI z.cps.toList i).map fun c => .str ⟨#[c]⟩ else none := (rfl)
theorem dTup_e1 {ds : List PyData} : dTup (.list ds) = some (.tuple ds) := (rfl)
theorem dTup_e2 {ds : List PyData} : dTup (.tuple ds) = some (.tuple ds) := (rfl)
theorem dInt_e1 {i : Int} : dInt (.int i) = some (.int i) := (rfl)
theorem dInt_e2 {k : Bool} : dInt (.bool k) = some (.int (if k then 1 else 0)) := (rfl)
theorem dMin2_e1 {i j : Int} : dMin2 (.int i) (.int j) = some (.int (if j < i then j else i)) := (rfl)
theorem dMax2_e1 {i j : Int} : dMax2 (.int i) (.int j) = some (.int (if j > i then j else i)) := (rfl)
theorem dAbs_e1 {i : Int} : dAbs (.int i) = some (.int (if i < 0 then -i else i)) := (rfl)
theorem truth_e1  : truth .none = some false := (rfl)
theorem truth_e2 {b : Bool} : truth (.bool b) = some b := (rfl)
theorem truth_e3 {i : Int} : truth (.int i) = some (i != 0) := (rfl)
theorem truth_e4 {y : Str} : truth (.str y) = if y.length ≤ lim then some ((y.length : Int) != 0) else none := (rfl)
theorem truth_e5 {ds : List PyData} : truth (.list ds) = some !ds.isEmpty := (rfl)
theorem truth_e6 {ds : List PyData} : truth (.tuple ds) = some !ds.isEmpty := (rfl)
theorem truS_e1 {S : Sto} {y : PyData} : truS S (.d y) = truth y := (rfl)
theorem truS_e2 {S : Sto} {n : Nat} : truS S (.box n) = (match S[n]? with | some (.lst ds) => some !ds.isEmpty | some (.dic kvs) => some !kvs.isEmpty | some (.scr ns) => some !ns.isEmpty | _ => none) := (rfl)
theorem res_e1 {S : Sto} {y : PyData} : res S (.d y) = some y := (rfl)
theorem res_e2 {S : Sto} {n : Nat} : res S (.box n) = (match S[n]? with | some (.lst ds) => some (.list ds) | some (.scr ns) => some (.list (ns.map .int)) | _ => none) := (rfl)
theorem resD_e1 {S : Sto} {y : PyData} : resD S (.d y) = none := (rfl)
theorem resD_e2 {S : Sto} {n : Nat} : resD S (.box n) = (match S[n]? with | some (.dic kvs) => some kvs | _ => none) := (rfl)
theorem resD_e3 {S : Sto} {n : Nat} : resD S (.sub n) = (match S[n]? with | some (.ins _ _ _ kvs) => some kvs | _ => none) := (rfl)
theorem lenS_e1 {S : Sto} {ds : List PyData} : lenS S [.d (.tuple ds)] = some (.int ds.length) := (rfl)
theorem lenS_e2 {S : Sto} {ds : List PyData} : lenS S [.d (.list ds)] = some (.int ds.length) := (rfl)
theorem lenS_e3 {S : Sto} {z : Str} : lenS S [.d (.str z)] = if z.length ≤ lim then some (.int z.length) else none := (rfl)
theorem lenS_e4 {S : Sto} {n : Nat} : lenS S [.box n] = (match resD S (.box n) with | some kvs => some (.int kvs.length) | none => (match res S (.box n) with | some (.list ds) => some (.int ds.length) | some (.tuple ds) => some (.int ds.length) | some (.str z) => if z.length ≤ lim then some (.int z.length) else none | _ => none)) := (rfl)
theorem lenS_e5 {S : Sto} {n : Nat} : lenS S [.sub n] = (match resD S (.sub n) with | some kvs => some (.int kvs.length) | none => (match res S (.sub n) with | some (.list ds) => some (.int ds.length) | some (.tuple ds) => some (.int ds.length) | some (.str z) => if z.length ≤ lim then some (.int z.length) else none | _ => none)) := (rfl)
theorem itemsQ_e1 {ds : List PyData} : itemsQ (.d (.list ds)) = some ds := (rfl)
theorem itemsQ_e2 {ds : List PyData} : itemsQ (.d (.tuple ds)) = some ds := (rfl)
theorem itemsL_e1 {ds : List PyData} : itemsL (.d (.list ds)) = some ds := (rfl)
theorem itemsT_e1 {ds : List PyData} : itemsT (.d (.tuple ds)) = some ds := (rfl)
theorem bLst_e1 {ds : List PyData} : bLst (.list ds) = some (.lst ds) := (rfl)
theorem bLst_e2 {ds : List PyData} : bLst (.tuple ds) = some (.lst ds) := (rfl)
theorem dSl_e1 {ds : List PyData} {lo hi : Option Int} : dSl (.tuple ds) lo hi = some (.tuple (cutL ds lo hi)) := (rfl)
theorem dSl_e2 {z : Str} {lo hi : Option Int} : dSl (.str z) lo hi = if z.length ≤ lim then some (.str (cutS z lo hi)) else none := (rfl)
theorem zipOf_e1 {a b : List PyData} : zipOf [.d (.list a), .d (.list b)] = some (zipD a b) := (rfl)
theorem zipOf_e2 {a b : List PyData} : zipOf [.d (.tuple a), .d (.tuple b)] = some (zipD a b) := (rfl)
theorem enumOf_e1 {a : List PyData} : enumOf [.d (.list a)] = some (enumD a) := (rfl)
theorem enumOf_e2 {a : List PyData} : enumOf [.d (.tuple a)] = some (enumD a) := (rfl)
theorem keySl_e1 {y : PyData} : keySl (.d y) = Z.keyOf y := (rfl)
theorem keyOf_e1 {i : Int} : Z.keyOf (.int i) = some (.inl i) := (rfl)
theorem keyOf_e2 {i : Str} : Z.keyOf (.str i) = some (.inr i) := (rfl)
theorem setAll_e1 {Γ : Env1} {xs : List Sl} : setAll Γ [] xs = Γ := (rfl)
theorem setAll_e2 {Γ : Env1} {i : Nat} {is : List Nat} {x : Sl} {xs : List Sl} : setAll Γ (i :: is) (x :: xs) = setAll (Γ.set i (some x)) is xs := (rfl)
theorem gNs_e1 {is : List Nat} {ds : List PyData} {Γ : Env1} : gNs is (.tuple ds) Γ = if ds.length = is.length then some (setAll Γ is (ds.map .d)) else none := (rfl)
theorem bolOf_e1 {b : Bool} : bolOf (.d (.bool b)) = some b := (rfl)
theorem datOf_e1 {y : PyData} : datOf (.d y) = some y := (rfl)
theorem lsOf_e1 {ds : List PyData} : lsOf (some (.list ds)) = some ds := (rfl)
theorem fCat_e1 {a b : List PyData} : fCat (.list a) (.list b) = if a.length + b.length ≤ lim then some (.lst (a ++ b)) else none := (rfl)
theorem fRep_e1 {a : List PyData} {k : Int} : fRep (.list a) (.int k) = if k.natAbs < 1000000 ∧ a.length * k.toNat ≤ lim then some (.lst (List.replicate k.toNat a).flatten) else none := (rfl)
theorem fExt_e1 {ds es : List PyData} : fExt ds (.list es) = if ds.length + es.length ≤ lim then some (.none, ds ++ es) else none := (rfl)
theorem okE_of {α : Type} {o o' : Out α} {X : XP} {P : α → Sto → Prop} (h : o = o') : OkE o X P = OkE o' X P := by rw [h]
theorem okS_of {o o' : FS} {D : Po} (h : o = o') : OkS o D = OkS o' D := by rw [h]
section
variable {α β : Type} {o : Out α} {f : α → Sto → Out β} {Γ : Env1} {S : Sto} {h : α → Sto → FS} {k : ZS} {p : FS} {X : XP} {P : β → Sto → Prop} {D : Po} {c : Str} {x : Sl} {a : α}
def kB (f : α → Sto → Out β) (X : XP) (P : β → Sto → Prop) : α → Sto → Prop := fun a S => OkE (f a S) X P
theorem kB_ap : kB f X P a S = OkE (f a S) X P := (rfl)
def kS (h : α → Sto → FS) (D : Po) : α → Sto → Prop := fun a S => OkS (h a S) D
theorem kS_ap : kS h D a S = OkS (h a S) D := (rfl)
def xD (D : Po) (Γ : Env1) : XP := fun c S => D.ex c Γ S
theorem xD_ap : xD D Γ c S = D.ex c Γ S := (rfl)
def dSeq (k : ZS) (D : Po) : Po := { D with nx := fun Γ S => OkS (k Γ S) D }
theorem dSeq_nx : (dSeq k D).nx Γ S = OkS (k Γ S) D := (rfl)
theorem dSeq_rt : (dSeq k D).rt x S = D.rt x S := (rfl)
theorem dSeq_bk : (dSeq k D).bk Γ S = D.bk Γ S := (rfl)
theorem dSeq_ct : (dSeq k D).ct Γ S = D.ct Γ S := (rfl)
theorem dSeq_ex : (dSeq k D).ex c Γ S = D.ex c Γ S := (rfl)
theorem okE_bd : OkE (o.bind f) X P = OkE o X (kB f X P) := okE_bind
theorem okS_so : OkS (o.st Γ h) D = OkE o (xD D Γ) (kS h D) := okS_st
theorem okS_sq : OkS (p.seq k) D = OkS p (dSeq k D) := okS_seq
def dTry (cs : List Str) (hs : List (Str × ZS)) (D : Po) : Po := { D with ex := fun c Γ S => if cs.contains c = true then OkS (zcatch c hs Γ S) D else False }
theorem dTry_nx {cs : List Str} {hs : List (Str × ZS)} : (dTry cs hs D).nx Γ S = D.nx Γ S := (rfl)
theorem dTry_rt {cs : List Str} {hs : List (Str × ZS)} : (dTry cs hs D).rt x S = D.rt x S := (rfl)
theorem dTry_bk {cs : List Str} {hs : List (Str × ZS)} : (dTry cs hs D).bk Γ S = D.bk Γ S := (rfl)
theorem dTry_ct {cs : List Str} {hs : List (Str × ZS)} : (dTry cs hs D).ct Γ S = D.ct Γ S := (rfl)
theorem dTry_ex {cs : List Str} {hs : List (Str × ZS)} : (dTry cs hs D).ex c Γ S = (if cs.contains c = true then OkS (zcatch c hs Γ S) D else False) := (rfl)
theorem ztry_ok {cs : List Str} {z : ZS} {hs : List (Str × ZS)} : OkS (ztry cs z hs Γ S) D = OkS (z Γ S) (dTry cs hs D) := by
  unfold ztry
  cases z Γ S with
  | ex c Γ' S' =>
    show OkS (if cs.contains c = true then zcatch c hs Γ' S' else .bad) D = (if cs.contains c = true then OkS (zcatch c hs Γ' S') D else False)
    split <;> rfl
  | _ => rfl
theorem zcatch_nil : OkS (zcatch c [] Γ S) D = D.ex c Γ S := (rfl)
theorem zcatch_cons {y : Str} {z : ZS} {r : List (Str × ZS)} : OkS (zcatch c ((y, z) :: r) Γ S) D = if isSub c y = true then OkS (z Γ S) D else OkS (zcatch c r Γ S) D := by
  rw [zcatch]
  split <;> rfl
theorem app2_ok {r : PyData → PyData → Option PyData} {x y : Sl} {P : Sl → Sto → Prop} : OkE (app2 r S x y) X P = OkE ((ofOpt (res S x) S).bind fun a S => (ofOpt (res S y) S).bind fun b S => (ofOpt (r a b) S).bind fun c S => .val (.d c) S) X P := by
  unfold app2
  cases res S x with
  | none => rfl
  | some a =>
    dsimp only [ofOpt, Out.bind]
    cases res S y with
    | none => rfl
    | some b =>
      dsimp only [ofOpt, Out.bind]
      cases r a b <;> rfl
end
theorem zseq_ok {z z' : ZS} {Γ : Env1} {S : Sto} {D : Po} : OkS (zseq z z' Γ S) D = OkS (((z Γ S).seq z')) D := okS_of zseq_ap
theorem zdrop_ok {z : ZE} {Γ : Env1} {S : Sto} {D : Po} : OkS (zdrop z Γ S) D = OkS (((z Γ S).st Γ fun _ S1 => .nx Γ S1)) D := okS_of zdrop_ap
theorem zset_ok {i : Nat} {z : ZE} {Γ : Env1} {S : Sto} {D : Po} : OkS (zset i z Γ S) D = OkS (((z Γ S).st Γ fun x S1 => .nx (Γ.set i (some x)) S1)) D := okS_of zset_ap
theorem zsetF_ok {i : Nat} {z : ZF} {Γ : Env1} {S : Sto} {D : Po} : OkS (zsetF i z Γ S) D = OkS (((z Γ S).st Γ fun b S1 => .nx (Γ.set i (some (.box S1.length))) (S1 ++ [b]))) D := okS_of zsetF_ap
theorem zifS_ok {zt : ZT} {z z' : ZS} {Γ : Env1} {S : Sto} {D : Po} : OkS (zifS zt z z' Γ S) D = OkS (((zt Γ S).st Γ fun k S1 => if k = true then z Γ S1 else z' Γ S1)) D := okS_of zifS_ap
theorem ztru_ok {z : ZE} {Γ : Env1} {S : Sto} {X : XP} {P : _ → Sto → Prop} : OkE (ztru z Γ S) X P = OkE (((z Γ S).bind fun x S1 => ofOpt (truS S1 x) S1)) X P := okE_of ztru_ap
theorem zop_ok {r : PyData → PyData → Option PyData} {za zb : ZE} {Γ : Env1} {S : Sto} {X : XP} {P : _ → Sto → Prop} : OkE (zop r za zb Γ S) X P = OkE (((za Γ S).bind fun x S1 => (zb Γ S1).bind fun y S2 => app2 r S2 x y)) X P := okE_of zop_ap
theorem zcb_ok {r : Sto → List Sl → Option PyData} {za : ZA} {Γ : Env1} {S : Sto} {X : XP} {P : _ → Sto → Prop} : OkE (zcb r za Γ S) X P = OkE (((za Γ S).bind fun xs S1 => match r S1 xs with
  | some c => .val (.d c) S1
  | none => .bad)) X P := okE_of zcb_ap
theorem zcf_ok {r : Sto → List Sl → Option Box} {za : ZA} {Γ : Env1} {S : Sto} {X : XP} {P : _ → Sto → Prop} : OkE (zcf r za Γ S) X P = OkE (((za Γ S).bind fun xs S1 => match r S1 xs with
  | some c => .val c S1
  | none => .bad)) X P := okE_of zcf_ap
theorem zacons_ok {za : ZE} {zr : ZA} {Γ : Env1} {S : Sto} {X : XP} {P : _ → Sto → Prop} : OkE (zacons za zr Γ S) X P = OkE (((za Γ S).bind fun x S1 => (zr Γ S1).bind fun xs S2 => .val (x :: xs) S2)) X P := okE_of zacons_ap
theorem zanil_ok {Γ0 : Env1} {S : Sto} {X : XP} {P : _ → Sto → Prop} : OkE (zanil  Γ0 S) X P = OkE ((.val [] S)) X P := okE_of zanil_ap
theorem zc_ok {x : PyData} {Γ0 : Env1} {S : Sto} {X : XP} {P : _ → Sto → Prop} : OkE (zc x Γ0 S) X P = OkE ((.val (.d x) S)) X P := okE_of zc_ap
theorem zv_ok {i : Nat} {Γ : Env1} {S : Sto} {X : XP} {P : _ → Sto → Prop} : OkE (zv i Γ S) X P = OkE ((match Γ[i]? with
  | some (some x) => .val x S
  | _ => .bad)) X P := okE_of zv_ap
theorem znil_ok {Γ : Env1} {S : Sto} {D : Po} : OkS (znil  Γ S) D = OkS ((.nx Γ S)) D := okS_of znil_ap
theorem zret_ok {z : ZE} {Γ : Env1} {S : Sto} {D : Po} : OkS (zret z Γ S) D = OkS (((z Γ S).st Γ fun x S1 => .rt x S1)) D := okS_of zret_ap
theorem zcall_ok {F : Fn} {za : ZA} {Γ : Env1} {S : Sto} {X : XP} {P : _ → Sto → Prop} : OkE (zcall F za Γ S) X P = OkE (((za Γ S).bind fun xs S1 => F xs S1)) X P := okE_of zcall_ap
theorem zfz_ok {z : ZF} {Γ : Env1} {S : Sto} {X : XP} {P : _ → Sto → Prop} : OkE (zfz z Γ S) X P = OkE (((z Γ S).bind fun b S1 => match b with
  | .lst ds => .val (.d (.list ds)) S1
  | _ => .bad)) X P := okE_of zfz_ap
theorem znew_ok {z : ZF} {Γ : Env1} {S : Sto} {X : XP} {P : _ → Sto → Prop} : OkE (znew z Γ S) X P = OkE (((z Γ S).bind fun b S1 => .val (.box S1.length) (S1 ++ [b]))) X P := okE_of znew_ap
theorem zneg_ok {za : ZE} {Γ : Env1} {S : Sto} {X : XP} {P : _ → Sto → Prop} : OkE (zneg za Γ S) X P = OkE (((za Γ S).bind fun x S1 => match x with
  | .d (.int i) => .val (.d (.int (-i))) S1
  | _ => .bad)) X P := okE_of zneg_ap
theorem zos_ok {z : ZE} {Γ : Env1} {S : Sto} {X : XP} {P : _ → Sto → Prop} : OkE (zos z Γ S) X P = OkE (((z Γ S).bind fun x S1 => match x with
  | .d (.int i) => .val (some i) S1
  | _ => .bad)) X P := okE_of zos_ap
theorem zon_ok {Γ0 : Env1} {S : Sto} {X : XP} {P : _ → Sto → Prop} : OkE (zon  Γ0 S) X P = OkE ((.val none S)) X P := okE_of zon_ap
theorem zsl_ok {za : ZE} {zl zh : ZO} {Γ : Env1} {S : Sto} {X : XP} {P : _ → Sto → Prop} : OkE (zsl za zl zh Γ S) X P = OkE (((za Γ S).bind fun x S1 => (zl Γ S1).bind fun l S2 => (zh Γ S2).bind fun h S3 => match res S3 x with
  | some d => (match dSl d l h with
    | some c => .val (.d c) S3
    | none => .bad)
  | none => .bad)) X P := okE_of zsl_ap
theorem zslF_ok {za : ZE} {zl zh : ZO} {Γ : Env1} {S : Sto} {X : XP} {P : _ → Sto → Prop} : OkE (zslF za zl zh Γ S) X P = OkE (((za Γ S).bind fun x S1 => (zl Γ S1).bind fun l S2 => (zh Γ S2).bind fun h S3 => match res S3 x with
  | some (.list ds) => .val (.lst (cutL ds l h)) S3
  | _ => .bad)) X P := okE_of zslF_ap
theorem ztup_ok {za : ZA} {Γ : Env1} {S : Sto} {X : XP} {P : _ → Sto → Prop} : OkE (ztup za Γ S) X P = OkE (((za Γ S).bind fun xs S1 => match allD xs with
  | some ds => if ds.length ≤ lim then .val (.d (.tuple ds)) S1 else .bad
  | none => .bad)) X P := okE_of ztup_ap
theorem zlst_ok {za : ZA} {Γ : Env1} {S : Sto} {X : XP} {P : _ → Sto → Prop} : OkE (zlst za Γ S) X P = OkE (((za Γ S).bind fun xs S1 => match allD xs with
  | some ds => if ds.length ≤ lim then .val (.lst ds) S1 else .bad
  | none => .bad)) X P := okE_of zlst_ap
theorem zand_ok {za zb : ZT} {Γ : Env1} {S : Sto} {X : XP} {P : _ → Sto → Prop} : OkE (zand za zb Γ S) X P = OkE (((za Γ S).bind fun k S1 => if k = true then zb Γ S1 else .val false S1)) X P := okE_of zand_ap
theorem zor_ok {za zb : ZT} {Γ : Env1} {S : Sto} {X : XP} {P : _ → Sto → Prop} : OkE (zor za zb Γ S) X P = OkE (((za Γ S).bind fun k S1 => if k = true then .val true S1 else zb Γ S1)) X P := okE_of zor_ap
theorem znot_ok {za : ZT} {Γ : Env1} {S : Sto} {X : XP} {P : _ → Sto → Prop} : OkE (znot za Γ S) X P = OkE (((za Γ S).bind fun k S1 => .val (!k) S1)) X P := okE_of znot_ap
theorem zif_ok {zt : ZT} {za zb : ZE} {Γ : Env1} {S : Sto} {X : XP} {P : _ → Sto → Prop} : OkE (zif zt za zb Γ S) X P = OkE (((zt Γ S).bind fun k S1 => if k = true then za Γ S1 else zb Γ S1)) X P := okE_of zif_ap
theorem zpar_ok {i j : Nat} {za : ZA} {Γ : Env1} {S : Sto} {D : Po} : OkS (zpar i j za Γ S) D = OkS (((za Γ S).st Γ fun xs S1 => match xs with
  | [x, y] => .nx ((Γ.set i (some x)).set j (some y)) S1
  | _ => .bad)) D := okS_of zpar_ap
theorem zpar3_ok {i j l : Nat} {za : ZA} {Γ : Env1} {S : Sto} {D : Po} : OkS (zpar3 i j l za Γ S) D = OkS (((za Γ S).st Γ fun xs S1 => match xs with
  | [x, y, w] => .nx (((Γ.set i (some x)).set j (some y)).set l (some w)) S1
  | _ => .bad)) D := okS_of zpar3_ap
theorem zasg_ok {g : ZG} {z : ZE} {Γ : Env1} {S : Sto} {D : Po} : OkS (zasg g z Γ S) D = OkS (((z Γ S).st Γ fun x S1 => match x with
  | .d d => (match g d Γ with
    | some Γ' => .nx Γ' S1
    | none => .bad)
  | _ => .bad)) D := okS_of zasg_ap
theorem zdnew_ok {Γ0 : Env1} {S : Sto} {X : XP} {P : _ → Sto → Prop} : OkE (zdnew  Γ0 S) X P = OkE ((.val (.dic []) S)) X P := okE_of zdnew_ap
theorem znotV_ok {za : ZT} {Γ : Env1} {S : Sto} {X : XP} {P : _ → Sto → Prop} : OkE (znotV za Γ S) X P = OkE (((za Γ S).bind fun k S1 => .val (.d (.bool !k)) S1)) X P := okE_of znotV_ap
theorem zbrk_ok {Γ : Env1} {S : Sto} {D : Po} : OkS (zbrk  Γ S) D = OkS ((.bk Γ S)) D := okS_of zbrk_ap
theorem zcnt_ok {Γ : Env1} {S : Sto} {D : Po} : OkS (zcnt  Γ S) D = OkS ((.ct Γ S)) D := okS_of zcnt_ap
theorem zopF_ok {f : PyData → PyData → Option Box} {za zb : ZE} {Γ : Env1} {S : Sto} {X : XP} {P : _ → Sto → Prop} : OkE (zopF f za zb Γ S) X P = OkE (((za Γ S).bind fun x S1 => (zb Γ S1).bind fun y S2 => match x, y with
  | .d a, .d b => ofOpt (f a b) S2
  | _, _ => .bad)) X P := okE_of zopF_ap
theorem zpop0_ok {zo : ZE} {Γ : Env1} {S : Sto} {X : XP} {P : _ → Sto → Prop} : OkE (zpop0 zo Γ S) X P = OkE (((zo Γ S).bind fun x S1 => match lstAt S1 x with
  | some (n, ds) => (match ds[ds.length - 1]? with
    | some y => .val (.d y) (S1.set n (.lst ds.dropLast))
    | none => .bad)
  | none => .bad)) X P := okE_of zpop0_ap
theorem zdget_ok {zd zk : ZE} {Γ : Env1} {S : Sto} {X : XP} {P : _ → Sto → Prop} : OkE (zdget zd zk Γ S) X P = OkE (((zd Γ S).bind fun x S1 => (zk Γ S1).bind fun y S2 => match resD S2 x, keySl y with
  | some kvs, some k => (match valD kvs k with
    | some c => .val (.d c) S2
    | none => .bad)
  | _, _ => .bad)) X P := okE_of zdget_ap
theorem zdin_ok {zk zd : ZE} {Γ : Env1} {S : Sto} {X : XP} {P : _ → Sto → Prop} : OkE (zdin zk zd Γ S) X P = OkE (((zk Γ S).bind fun y S1 => (zd Γ S1).bind fun x S2 => match resD S2 x, keySl y with
  | some kvs, some k => .val (.d (.bool (valD kvs k).isSome)) S2
  | _, _ => .bad)) X P := okE_of zdin_ap
theorem zdnin_ok {zk zd : ZE} {Γ : Env1} {S : Sto} {X : XP} {P : _ → Sto → Prop} : OkE (zdnin zk zd Γ S) X P = OkE (((zk Γ S).bind fun y S1 => (zd Γ S1).bind fun x S2 => match resD S2 x, keySl y with
  | some kvs, some k => .val (.d (.bool !(valD kvs k).isSome)) S2
  | _, _ => .bad)) X P := okE_of zdnin_ap
theorem zisi_ok {T : String} {za : ZE} {Γ : Env1} {S : Sto} {X : XP} {P : _ → Sto → Prop} : OkE (zisi T za Γ S) X P = OkE (((za Γ S).bind fun x S1 => match res S1 x with
  | some d => (match tyN d with
    | some t => .val (.d (.bool (isOf T t))) S1
    | none => .bad)
  | none => .bad)) X P := okE_of zisi_ap
theorem ziA_ok {f : List Sl → Option (List PyData)} {za : ZA} {Γ : Env1} {S : Sto} {X : XP} {P : _ → Sto → Prop} : OkE (ziA f za Γ S) X P = OkE (((za Γ S).bind fun xs S1 => ofOpt (f xs) S1)) X P := okE_of ziA_ap
theorem ziQ_ok {z : ZE} {Γ : Env1} {S : Sto} {X : XP} {P : _ → Sto → Prop} : OkE (ziQ z Γ S) X P = OkE (((z Γ S).bind fun x S1 => ofOpt (itemsQ x) S1)) X P := okE_of ziQ_ap
theorem ziL_ok {z : ZE} {Γ : Env1} {S : Sto} {X : XP} {P : _ → Sto → Prop} : OkE (ziL z Γ S) X P = OkE (((z Γ S).bind fun x S1 => ofOpt (itemsL x) S1)) X P := okE_of ziL_ap
theorem ziT_ok {z : ZE} {Γ : Env1} {S : Sto} {X : XP} {P : _ → Sto → Prop} : OkE (ziT z Γ S) X P = OkE (((z Γ S).bind fun x S1 => ofOpt (itemsT x) S1)) X P := okE_of ziT_ap
theorem zattr_ok {C f : Str} {z : ZE} {Γ : Env1} {S : Sto} {X : XP} {P : _ → Sto → Prop} : OkE (zattr C f z Γ S) X P = OkE (((z Γ S).bind fun x S1 => match insAt S1 C x with
  | some (n, fs, g, _) => if f = g then .val (.sub n) S1 else (match fs.lookup f with
    | some d => .val (.d d) S1
    | none => .bad)
  | none => .bad)) X P := okE_of zattr_ap
theorem zaset_ok {C f : Str} {zo zv : ZE} {Γ : Env1} {S : Sto} {D : Po} : OkS (zaset C f zo zv Γ S) D = OkS (((zv Γ S).st Γ fun y S1 => (zo Γ S1).st Γ fun x S2 => match y, insAt S2 C x with
  | .d d, some (n, fs, g, kvs) => if f ≠ g ∧ (fs.lookup f).isSome = true then .nx Γ (S2.set n (.ins C (putA f d fs) g kvs)) else .bad
  | _, _ => .bad)) D := okS_of zaset_ap
theorem zmake_ok {C g : Str} {n : Nat} {ini : Ini} {za : ZA} {Γ : Env1} {S : Sto} {X : XP} {P : _ → Sto → Prop} : OkE (zmake C g n ini za Γ S) X P = OkE (((za Γ S).bind fun xs S1 => if xs.length + 1 = n then (match ini xs with
  | some (fs, kvs) => .val (.box S1.length) (S1 ++ [.ins C fs g kvs])
  | none => .bad) else .bad)) X P := okE_of zmake_ap
theorem zpr_ok {z1 z2 : ZE} {Γ : Env1} {S : Sto} {X : XP} {P : _ → Sto → Prop} : OkE (zpr z1 z2 Γ S) X P = OkE (((z1 Γ S).bind fun x S1 => (z2 Γ S1).bind fun y S2 => match x, y with
  | .d d, .box n => .val (.pr d n) S2
  | _, _ => .bad)) X P := okE_of zpr_ap
theorem zpr1_ok {z : ZE} {Γ : Env1} {S : Sto} {X : XP} {P : _ → Sto → Prop} : OkE (zpr1 z Γ S) X P = OkE (((z Γ S).bind fun x S1 => match x with
  | .pr _ n => .val (.box n) S1
  | _ => .bad)) X P := okE_of zpr1_ap
theorem zasgP_ok {i j : Nat} {z : ZE} {Γ : Env1} {S : Sto} {D : Po} : OkS (zasgP i j z Γ S) D = OkS (((z Γ S).st Γ fun x S1 => match x with
  | .pr d n => .nx ((Γ.set i (some (.d d))).set j (some (.box n))) S1
  | _ => .bad)) D := okS_of zasgP_ap
theorem zlset_ok {z : ZE} {Γ : Env1} {S : Sto} {X : XP} {P : _ → Sto → Prop} : OkE (zlset z Γ S) X P = OkE (((z Γ S).bind fun x S1 => match res S1 x with
  | some (.list ds) => (match intsOf ds with
    | some ns => if ns.length ≤ 4000 then .val (.d (.int ((ddup ns).length : Nat))) S1 else .bad
    | none => .bad)
  | _ => .bad)) X P := okE_of zlset_ap
theorem zlrg_ok {z : ZE} {Γ : Env1} {S : Sto} {X : XP} {P : _ → Sto → Prop} : OkE (zlrg z Γ S) X P = OkE (((z Γ S).bind fun x S1 => match x with
  | .d (.int n) => if n.natAbs < 100000 then .val (.lst (rngL 0 n.toNat)) S1 else .bad
  | _ => .bad)) X P := okE_of zlrg_ap
theorem zkin_ok {kvs : List (Str × Int)} {no : List Str} {z : ZE} {Γ : Env1} {S : Sto} {X : XP} {P : _ → Sto → Prop} : OkE (zkin kvs no z Γ S) X P = OkE (((z Γ S).bind fun x S1 => match x with
  | .d (.str k) => (match kvs.lookup k with
    | some _ => .val (.d (.bool true)) S1
    | none => if no.contains k = true then .val (.d (.bool false)) S1 else .bad)
  | _ => .bad)) X P := okE_of zkin_ap
theorem zkget_ok {kvs : List (Str × Int)} {z : ZE} {Γ : Env1} {S : Sto} {X : XP} {P : _ → Sto → Prop} : OkE (zkget kvs z Γ S) X P = OkE (((z Γ S).bind fun x S1 => match x with
  | .d (.str k) => (match kvs.lookup k with
    | some i => .val (.d (.int i)) S1
    | none => .bad)
  | _ => .bad)) X P := okE_of zkget_ap
theorem zraise_ok {c : Str} {Γ : Env1} {S : Sto} {D : Po} : OkS (zraise c Γ S) D = OkS ((.ex c Γ S)) D := okS_of zraise_ap
theorem zfor_ok {zi : ZI} {g : ZG} {body : ZS} {Γ : Env1} {S : Sto} {D : Po} : OkS (zfor zi g body Γ S) D = OkS (((zi Γ S).st Γ fun ds S1 => forGo S1.length g body ds Γ S1)) D := okS_of zfor_ap
theorem zwhile_ok {k : Nat} {zt : ZT} {body : ZS} {Γ : Env1} {S : Sto} {D : Po} : OkS (zwhile k zt body Γ S) D = OkS ((whGo S.length zt body k Γ S)) D := okS_of zwhile_ap
theorem lamOf_ok {ze : ZE} {ix iy : Nat} {Γ : Env1} {xs : List Sl} {S : Sto} {X : XP} {P : _ → Sto → Prop} : OkE (lamOf ze ix iy Γ xs S) X P = OkE ((match xs with
  | [.d a, .d b] => (ze ((Γ.set ix (some (.d a))).set iy (some (.d b))) S).bind fun r S2 => match r with
    | .d y => .val (.d y) S2
    | _ => .bad
  | _ => .bad)) X P := okE_of lamOf_ap
theorem ztrue_ok {Γ0 : Env1} {S : Sto} {X : XP} {P : _ → Sto → Prop} : OkE (ztrue  Γ0 S) X P = OkE ((.val true S)) X P := okE_of ztrue_ap
theorem zorD_ok {za zb : ZE} {Γ : Env1} {S : Sto} {X : XP} {P : _ → Sto → Prop} : OkE (zorD za zb Γ S) X P = OkE (((za Γ S).bind fun x S1 => (ofOpt (truS S1 x) S1).bind fun k S1 => if k = true then .val x S1 else zb Γ S1)) X P := okE_of zorD_ap
theorem zparA_ok {is : List Nat} {za : ZA} {Γ : Env1} {S : Sto} {D : Po} : OkS (zparA is za Γ S) D = OkS (((za Γ S).st Γ fun xs S1 => if xs.length = is.length ∧ xs.length ≤ lim then .nx (setAll Γ is xs) S1 else .bad)) D := okS_of zparA_ap
theorem zdis_ok {kvs : List (Str × PyData)} {Γ0 : Env1} {S : Sto} {X : XP} {P : _ → Sto → Prop} : OkE (zdis kvs Γ0 S) X P = OkE ((.val (.dic (mergeD [] (kvs.map fun u => (Sum.inr u.1, u.2)))) S)) X P := okE_of zdis_ap
theorem ztst_ok {z : ZE} {Γ : Env1} {S : Sto} {X : XP} {P : _ → Sto → Prop} : OkE (ztst z Γ S) X P = OkE ((z Γ S).bind fun x S1 => ofOpt (bolOf x) S1) X P := okE_of ztst_ap
theorem zandV_ok {za zb : ZE} {Γ : Env1} {S : Sto} {X : XP} {P : _ → Sto → Prop} : OkE (zandV za zb Γ S) X P = OkE ((za Γ S).bind fun x S1 => (ofOpt (bolOf x) S1).bind fun b S1 => if b = true then zb Γ S1 else .val (.d (.bool false)) S1) X P := okE_of zandV_ap
theorem zorV_ok {za zb : ZE} {Γ : Env1} {S : Sto} {X : XP} {P : _ → Sto → Prop} : OkE (zorV za zb Γ S) X P = OkE ((za Γ S).bind fun x S1 => (ofOpt (bolOf x) S1).bind fun b S1 => if b = true then .val (.d (.bool true)) S1 else zb Γ S1) X P := okE_of zorV_ap
theorem zchain_ok {r r' : PyData → PyData → Option PyData} {za zb zd : ZE} {Γ : Env1} {S : Sto} {X : XP} {P : _ → Sto → Prop} : OkE (zchain r r' za zb zd Γ S) X P = OkE ((za Γ S).bind fun x S1 => (zb Γ S1).bind fun y S2 => (app2 r S2 x y).bind fun k S3 => (ofOpt (bolOf k) S3).bind fun b S3 => if b = true then (zd Γ S3).bind fun w S4 => app2 r' S4 y w else .val (.d (.bool false)) S3) X P := okE_of zchain_ap
theorem zapp_ok {zo za : ZE} {Γ : Env1} {S : Sto} {X : XP} {P : _ → Sto → Prop} : OkE (zapp zo za Γ S) X P = OkE ((zo Γ S).bind fun x S1 => (ofOpt (lstAt S1 x) S1).bind fun _ S1 => (za Γ S1).bind fun y S2 => (ofOpt (datOf y) S2).bind fun d S2 => (ofOpt (lstAt S2 x) S2).bind fun q S2 => if q.2.length < lim then .val (.d .none) (S2.set q.1 (.lst (q.2 ++ [d]))) else .bad) X P := okE_of zapp_ap
theorem zmt1_ok {f : List PyData → PyData → Option (PyData × List PyData)} {zo za : ZE} {Γ : Env1} {S : Sto} {X : XP} {P : _ → Sto → Prop} : OkE (zmt1 f zo za Γ S) X P = OkE ((zo Γ S).bind fun x S1 => (ofOpt (lstAt S1 x) S1).bind fun _ S1 => (za Γ S1).bind fun y S2 => (ofOpt (datOf y) S2).bind fun d S2 => (ofOpt (lstAt S2 x) S2).bind fun q S2 => (ofOpt (f q.2 d) S2).bind fun c S2 => .val (.d c.1) (S2.set q.1 (.lst c.2))) X P := okE_of zmt1_ap
theorem zcnt1_ok {zo za : ZE} {Γ : Env1} {S : Sto} {X : XP} {P : _ → Sto → Prop} : OkE (zcnt1 zo za Γ S) X P = OkE ((zo Γ S).bind fun x S1 => (ofOpt (lsOf (res S1 x)) S1).bind fun _ S1 => (za Γ S1).bind fun y S2 => (ofOpt (datOf y) S2).bind fun y S2 => (ofOpt (lsOf (res S2 x)) S2).bind fun q S2 => (ofOpt (cntI q y) S2).bind fun c S2 => .val (.d c) S2) X P := okE_of zcnt1_ap
theorem zmeth_ok {C m : Str} {n : Nat} {F : Fn} {zo : ZE} {za : ZA} {Γ : Env1} {S : Sto} {X : XP} {P : _ → Sto → Prop} : OkE (zmeth C m n F zo za Γ S) X P = OkE ((zo Γ S).bind fun x S1 => (ofOpt (insAt S1 C x) S1).bind fun q S1 => if m ≠ q.2.2.1 ∧ q.2.1.lookup m = none then (za Γ S1).bind fun xs S2 => if xs.length + 1 = n then noExc (F (x :: xs) S2) else .bad else .bad) X P := okE_of zmeth_ap
theorem zdget2_ok {zd zk zo : ZE} {Γ : Env1} {S : Sto} {X : XP} {P : _ → Sto → Prop} : OkE (zdget2 zd zk zo Γ S) X P = OkE ((zd Γ S).bind fun x S1 => (ofOpt (resD S1 x) S1).bind fun _ S1 => (zk Γ S1).bind fun y S2 => (zo Γ S2).bind fun o S3 => (ofOpt (resD S3 x) S3).bind fun kvs S3 => (ofOpt (keySl y) S3).bind fun k S3 => (ofOpt (datOf o) S3).bind fun d S3 => .val (.d ((valD kvs k).getD d)) S3) X P := okE_of zdget2_ap
theorem zact_ok {i : Nat} {lam : Fn} {za : ZA} {Γ : Env1} {S : Sto} {X : XP} {P : _ → Sto → Prop} : OkE (zact i lam za Γ S) X P = OkE ((ofOpt (fnOf Γ[i]?) S).bind fun _ S => (za Γ S).bind fun xs S1 => lam xs S1) X P := okE_of zact_ap
theorem zlamcall_ok {z : Fn → ZS} {n : Nat} {ze : ZE} {ix iy : Nat} {z1 z2 z3 z4 : ZE} {Γ : Env1} {S : Sto} {X : XP} {P : _ → Sto → Prop} : OkE (zlamcall z n ze ix iy z1 z2 z3 z4 Γ S) X P = OkE ((z1 Γ S).bind fun x1 S1 => (z2 Γ S1).bind fun x2 S2 => (z3 Γ S2).bind fun x3 S3 => (z4 Γ S3).bind fun x4 S4 =>
    (ofOpt (scrOf S4[0]?) S4).bind fun _ S4 => (ofOpt (allD [x1, x2, x3, x4]) S4).bind fun ds S4 => zdef 5 n (z (lamOf ze ix iy Γ)) (ds.map Sl.d ++ [.fn]) S4) X P := okE_of zlamcall_ap
theorem zfrz_ok {i : Nat} {z : ZS} {Γ : Env1} {S : Sto} {D : Po} : OkS (zfrz i z Γ S) D = OkS ((ofOpt (frzOf S i Γ) S).st Γ fun q _ => z q.1 q.2) D := okS_of zfrz_ap
theorem zdput_ok {zd zk zv : ZE} {Γ : Env1} {S : Sto} {D : Po} : OkS (zdput zd zk zv Γ S) D = OkS ((zv Γ S).st Γ fun v S1 => (zd Γ S1).st Γ fun x S2 => (zk Γ S2).st Γ fun y S3 => (ofOpt (datOf v) S3).st Γ fun d S3 => (ofOpt (keySl y) S3).st Γ fun k S3 => (ofOpt (putS S3 x k d) S3).st Γ fun S4 _ => .nx Γ S4) D := okS_of zdput_ap
theorem zlput_ok {zo zi zv : ZE} {Γ : Env1} {S : Sto} {D : Po} : OkS (zlput zo zi zv Γ S) D = OkS ((zv Γ S).st Γ fun v S1 => (zo Γ S1).st Γ fun x S2 => (zi Γ S2).st Γ fun y S3 => (ofOpt (lputOf S3 v y x) S3).st Γ fun S4 _ => .nx Γ S4) D := okS_of zlput_ap
section
theorem okE_val' {α : Type} {o : Out α} {x : α} {S' : Sto} (h : OkE o noX fun a S => a = x ∧ S = S') : o = .val x S' := OkE.val h
theorem lc_M {α : Type} {zi : ZI} {g : ZG} {ze : ZE} {vs : List Nat} {Γ : Env1} {S : Sto} {X : XP} {P : Box → Sto → Prop} (xs : List α) (j f : α → PyData) (hz : OkE (zi Γ S) noX fun a S' => a = xs.map j ∧ S' = S) (hl : xs.length ≤ 1000000)
    (h : ∀ x ∈ xs, ∃ Γ1, g (j x) (wipeZ Γ vs) = some Γ1 ∧ OkE (ze Γ1 S) noX fun a S' => a = .d (f x) ∧ S' = S) (hp : P (.lst (xs.map f)) S) : OkE (zlc zi g ztrue ze vs Γ S) X P :=
  ok_zlcM xs j f hz.val hl (fun x hx => let ⟨Γ1, a, b⟩ := h x hx; ⟨Γ1, a, b.val⟩) hp
def fg (n : Nat) (o : Option Sl) : Option Sl := match o with
  | some (.d x) => some (.d x)
  | some (.box m) => if m < n then some (.box m) else none
  | some (.sub m) => if m < n then some (.sub m) else none
  | some .fn => some .fn
  | _ => none
theorem forget_cons {n : Nat} {a : Option Sl} {Γ : Env1} : forget n (a :: Γ) = fg n a :: forget n Γ := by
  unfold forget
  rw [List.map_cons]
  congr 1
theorem getLast1 {α : Type} {l : List α} {a b : α} : (l ++ [a] ++ [b])[l.length + 1]? = some b := by simp
theorem getLast1' {α : Type} {l : List α} {a b : α} : (l ++ [a] ++ [b])[l.length]? = some a := by simp
theorem setLast1 {α : Type} {l : List α} {a b c : α} : (l ++ [a] ++ [b]).set (l.length + 1) c = l ++ [a] ++ [c] := by
  have := setLast0 (l := l ++ [a]) (a := b) (b := c)
  rwa [List.length_append, List.length_singleton] at this
theorem setLast1' {α : Type} {l : List α} {a b c : α} : (l ++ [a] ++ [b]).set l.length c = l ++ [c] ++ [b] := by
  rw [List.append_assoc, List.set_append_right _ _ (Nat.le_refl _)]
  simp
theorem takeLast2 {α : Type} {l a b : List α} : (l ++ a ++ b).take l.length = l := by simp
theorem nonD_n : nonD .none = true := (rfl)
theorem nonD_i {i : Int} : nonD (.int i) = false := (rfl)
theorem nonD_s {i : Str} : nonD (.str i) = false := (rfl)
theorem nonD_b {i : Bool} : nonD (.bool i) = false := (rfl)
theorem nonD_t {i : List PyData} : nonD (.tuple i) = false := (rfl)
theorem nonD_l {i : List PyData} : nonD (.list i) = false := (rfl)
theorem forget_nil {n : Nat} : forget n [] = [] := (rfl)
theorem fg_d {n : Nat} {x : PyData} : fg n (some (.d x)) = some (.d x) := (rfl)
theorem fg_fn {n : Nat} : fg n (some .fn) = some .fn := (rfl)
theorem fg_none {n : Nat} : fg n none = none := (rfl)
theorem fg_box {n m : Nat} (h : m < n) : fg n (some (.box m)) = some (.box m) := if_pos h
theorem fg_box' {n m : Nat} (h : n ≤ m) : fg n (some (.box m)) = none := if_neg (Nat.not_lt.mpr h)
end
end Z
end
section
set_option Elab.async false
set_option linter.all false
set_option maxRecDepth 100000
set_option autoImplicit false
namespace Z
theorem lc_G {α : Type} {zi : ZI} {g : ZG} {zt : ZT} {ze : ZE} {vs : List Nat} {Γ : Env1} {S : Sto} {X : XP} {P : Box → Sto → Prop} (xs : List α) (j : α → PySem.PyData) (p : α → Bool) (f : α → PySem.PyData) (hz : OkE (zi Γ S) noX fun a S' => a = xs.map j ∧ S' = S) (hl : xs.length ≤ 1000000)
    (h : ∀ x ∈ xs, ∃ Γ1, g (j x) (wipeZ Γ vs) = some Γ1 ∧ (OkE (zt Γ1 S) noX fun a S' => a = p x ∧ S' = S) ∧ (p x = true → OkE (ze Γ1 S) noX fun a S' => a = .d (f x) ∧ S' = S)) (hp : P (.lst ((xs.filter p).map f)) S) : OkE (zlc zi g zt ze vs Γ S) X P := by
  rw [zlc_eq xs j p f hz.val hl fun x hx => let ⟨Γ1, a, b, c⟩ := h x hx; ⟨Γ1, a, b.val, fun q => (c q).val⟩]
  exact hp
end Z
end
section
set_option Elab.async false
set_option linter.all false
set_option maxRecDepth 100000
set_option autoImplicit false
set_option maxHeartbeats 4000000
namespace Zc
open PySem Z
open L2 (atI)
local macro_rules
  | `(tactic| simp_arith [$ls,*]) => `(tactic| simp -implicitDefEqProofs (disch := omega) only [kB_ap, kS_ap, xD_ap, dSeq_nx, dSeq_rt, dSeq_bk, dSeq_ct, dSeq_ex, dTry_nx, dTry_rt, dTry_bk, dTry_ct, dTry_ex, okE_bd, okS_so, okS_sq, nonD_n, nonD_i, nonD_s, nonD_b, nonD_t, nonD_l, getLast1, getLast1', setLast1, setLast1', takeLast2, zseq_ok, zdrop_ok, zset_ok, zsetF_ok, zifS_ok, ztru_ok, zop_ok, zcb_ok, zcf_ok, zacons_ok, zanil_ok, zc_ok, zv_ok, znil_ok, zret_ok, zcall_ok, zfz_ok, znew_ok, zneg_ok, zos_ok, zon_ok, zsl_ok, zslF_ok, ztup_ok, zlst_ok, zand_ok, zor_ok, znot_ok, zif_ok, zpar_ok, zpar3_ok, zasg_ok, zdnew_ok, znotV_ok, zbrk_ok, zcnt_ok, zopF_ok, zpop0_ok, zdget_ok, zdin_ok, zdnin_ok, zisi_ok, ziA_ok, ziQ_ok, ziL_ok, ziT_ok, zattr_ok, zaset_ok, zmake_ok, zpr_ok, zpr1_ok, zasgP_ok, zlset_ok, zlrg_ok, zkin_ok, zkget_ok, zraise_ok, zfor_ok, zwhile_ok, lamOf_ok, ztrue_ok, zorD_ok, zparA_ok, zdis_ok, ztst_ok, zandV_ok, zorV_ok, zchain_ok, zapp_ok, zmt1_ok, zcnt1_ok, zmeth_ok, zdget2_ok, zact_ok, zlamcall_ok, zfrz_ok, zdput_ok, zlput_ok, ztry_ok, zcatch_nil, zcatch_cons, app2_ok, gN_ap, gT2_ap, gT3_ap, wipeZ, okE_val, okE_exc, okS_nx, okS_rt, okS_bk, okS_ct, okS_ex, okE_ofOpt, rng1_ok, rng2_ok, izs_len, izr_len, List.map_cons, List.map_nil, List.cons_append, List.nil_append, List.replicate, List.length_cons, List.length_nil, List.length_append, List.length_map, List.length_set, List.getElem?_cons_zero, List.getElem?_cons_succ, List.getElem?_nil, List.set_cons_zero, List.set_cons_succ, lstAt, on1, on2, lstOnly, allD_nil, allD_cons, Option.map_some, Option.map_none, Option.bind_some, Option.bind_none, dMul_ok, dMod_ok, dDiv_ok, dEq_i, dEq_s, dEq_b, dNe_i, dNe_s, dNe_b, dEq_ti, dNe_ti, dEq_li, dNe_li, dIn, dNotIn, atI_0, atI_1, atI_2, dMin, dMax, dSum, dAll, dAny, intsOf_map, bolsOf_map, intsOf_nil, intsOf_cons, putS, lim, retN_d, getLast0, setLast0, takeLast0, takeLast1, List.take_succ_cons, List.take_zero, List.take_length, List.take_nil, decide_eq_true_eq, beq_iff_eq, if_true, if_false, Bool.not_true, Bool.not_false, Bool.not_eq_true', Bool.false_eq_true, Bool.true_eq_false, reduceIte, if_pos, if_neg, Nat.add_eq, List.isEmpty_cons, List.isEmpty_nil, Option.some.injEq, decide_true, decide_false, decide_eq_true, decide_eq_false, beq_self_eq_true, BEq.rfl, beq_eq_false_iff_ne, Nat.zero_add, Nat.reduceAdd, Int.toNat_natCast, Bool.not_eq_true, decide_eq_false_iff_not, bne_iff_ne, ne_eq, not_true_eq_false, not_false_eq_true, dAdd_e1, dAdd_e2, dAdd_e3, dSub_e1, dLt_e1, dLt_e2, dLt_e3, dLe_e1, dGt_e1, dGe_e1, dIs_e1, dIs_e2, dIsNot_e1, dIsNot_e2, dIx_e1, dIx_e2, dIx_e3, dTup_e1, dTup_e2, dInt_e1, dInt_e2, dMin2_e1, dMax2_e1, dAbs_e1, truth_e1, truth_e2, truth_e3, truth_e4, truth_e5, truth_e6, truS_e1, truS_e2, res_e1, res_e2, resD_e1, resD_e2, resD_e3, lenS_e1, lenS_e2, lenS_e3, lenS_e4, lenS_e5, itemsQ_e1, itemsQ_e2, itemsL_e1, itemsT_e1, bLst_e1, bLst_e2, dSl_e1, dSl_e2, zipOf_e1, zipOf_e2, enumOf_e1, enumOf_e2, keySl_e1, keyOf_e1, keyOf_e2, setAll_e1, setAll_e2, gNs_e1, bolOf_e1, datOf_e1, lsOf_e1, fCat_e1, fRep_e1, fExt_e1, forget_cons, forget_nil, fg_d, fg_fn, fg_none, fg_box, fg_box', insAt, putA, List.lookup_cons, List.lookup_nil, noExc, Option.isSome_some, Option.isSome_none, and_self, and_true, true_and, eq_self, Int.add_zero, fnOf, scrOf, cntI, frzOf, lputOf, $ls,*])
  | `(tactic| simp_arith [$ls,*] $l:location) => `(tactic| simp -implicitDefEqProofs (disch := omega) only [kB_ap, kS_ap, xD_ap, dSeq_nx, dSeq_rt, dSeq_bk, dSeq_ct, dSeq_ex, dTry_nx, dTry_rt, dTry_bk, dTry_ct, dTry_ex, okE_bd, okS_so, okS_sq, nonD_n, nonD_i, nonD_s, nonD_b, nonD_t, nonD_l, getLast1, getLast1', setLast1, setLast1', takeLast2, zseq_ok, zdrop_ok, zset_ok, zsetF_ok, zifS_ok, ztru_ok, zop_ok, zcb_ok, zcf_ok, zacons_ok, zanil_ok, zc_ok, zv_ok, znil_ok, zret_ok, zcall_ok, zfz_ok, znew_ok, zneg_ok, zos_ok, zon_ok, zsl_ok, zslF_ok, ztup_ok, zlst_ok, zand_ok, zor_ok, znot_ok, zif_ok, zpar_ok, zpar3_ok, zasg_ok, zdnew_ok, znotV_ok, zbrk_ok, zcnt_ok, zopF_ok, zpop0_ok, zdget_ok, zdin_ok, zdnin_ok, zisi_ok, ziA_ok, ziQ_ok, ziL_ok, ziT_ok, zattr_ok, zaset_ok, zmake_ok, zpr_ok, zpr1_ok, zasgP_ok, zlset_ok, zlrg_ok, zkin_ok, zkget_ok, zraise_ok, zfor_ok, zwhile_ok, lamOf_ok, ztrue_ok, zorD_ok, zparA_ok, zdis_ok, ztst_ok, zandV_ok, zorV_ok, zchain_ok, zapp_ok, zmt1_ok, zcnt1_ok, zmeth_ok, zdget2_ok, zact_ok, zlamcall_ok, zfrz_ok, zdput_ok, zlput_ok, ztry_ok, zcatch_nil, zcatch_cons, app2_ok, gN_ap, gT2_ap, gT3_ap, wipeZ, okE_val, okE_exc, okS_nx, okS_rt, okS_bk, okS_ct, okS_ex, okE_ofOpt, rng1_ok, rng2_ok, izs_len, izr_len, List.map_cons, List.map_nil, List.cons_append, List.nil_append, List.replicate, List.length_cons, List.length_nil, List.length_append, List.length_map, List.length_set, List.getElem?_cons_zero, List.getElem?_cons_succ, List.getElem?_nil, List.set_cons_zero, List.set_cons_succ, lstAt, on1, on2, lstOnly, allD_nil, allD_cons, Option.map_some, Option.map_none, Option.bind_some, Option.bind_none, dMul_ok, dMod_ok, dDiv_ok, dEq_i, dEq_s, dEq_b, dNe_i, dNe_s, dNe_b, dEq_ti, dNe_ti, dEq_li, dNe_li, dIn, dNotIn, atI_0, atI_1, atI_2, dMin, dMax, dSum, dAll, dAny, intsOf_map, bolsOf_map, intsOf_nil, intsOf_cons, putS, lim, retN_d, getLast0, setLast0, takeLast0, takeLast1, List.take_succ_cons, List.take_zero, List.take_length, List.take_nil, decide_eq_true_eq, beq_iff_eq, if_true, if_false, Bool.not_true, Bool.not_false, Bool.not_eq_true', Bool.false_eq_true, Bool.true_eq_false, reduceIte, if_pos, if_neg, Nat.add_eq, List.isEmpty_cons, List.isEmpty_nil, Option.some.injEq, decide_true, decide_false, decide_eq_true, decide_eq_false, beq_self_eq_true, BEq.rfl, beq_eq_false_iff_ne, Nat.zero_add, Nat.reduceAdd, Int.toNat_natCast, Bool.not_eq_true, decide_eq_false_iff_not, bne_iff_ne, ne_eq, not_true_eq_false, not_false_eq_true, dAdd_e1, dAdd_e2, dAdd_e3, dSub_e1, dLt_e1, dLt_e2, dLt_e3, dLe_e1, dGt_e1, dGe_e1, dIs_e1, dIs_e2, dIsNot_e1, dIsNot_e2, dIx_e1, dIx_e2, dIx_e3, dTup_e1, dTup_e2, dInt_e1, dInt_e2, dMin2_e1, dMax2_e1, dAbs_e1, truth_e1, truth_e2, truth_e3, truth_e4, truth_e5, truth_e6, truS_e1, truS_e2, res_e1, res_e2, resD_e1, resD_e2, resD_e3, lenS_e1, lenS_e2, lenS_e3, lenS_e4, lenS_e5, itemsQ_e1, itemsQ_e2, itemsL_e1, itemsT_e1, bLst_e1, bLst_e2, dSl_e1, dSl_e2, zipOf_e1, zipOf_e2, enumOf_e1, enumOf_e2, keySl_e1, keyOf_e1, keyOf_e2, setAll_e1, setAll_e2, gNs_e1, bolOf_e1, datOf_e1, lsOf_e1, fCat_e1, fRep_e1, fExt_e1, forget_cons, forget_nil, fg_d, fg_fn, fg_none, fg_box, fg_box', insAt, putA, List.lookup_cons, List.lookup_nil, noExc, Option.isSome_some, Option.isSome_none, and_self, and_true, true_and, eq_self, Int.add_zero, fnOf, scrOf, cntI, frzOf, lputOf, $ls,*] $l)
def dOI : Option Int → PyData
  | none => .none
  | some i => .int i
def dOS : Option Str → PyData
  | none => .none
  | some x => .str x
def dStep (r : Row) : PyData := .tuple [.str r.1, .int r.2.1, dOI r.2.2]
def dSteps (rs : List Row) : PyData := .tuple (rs.map dStep)
abbrev mB (s : Ct) (t : Int) : Box := mBox s.c s.h (dOS s.nx) t
theorem kin_wd {k : Str} (h : isWk k) : t_BEATS.lookup k = some (if k = "put" ∨ k = "save" then 0 else 1) := by
  rcases h with rfl | rfl | rfl | rfl <;> decide
theorem kin_less : t_BEATS.lookup ("less" : Str) = none := by decide
theorem kin_stop : t_BEATS.lookup ("stop" : Str) = none := by decide
theorem kno_less : o_BEATS.contains ("less" : Str) = true := by decide
theorem kno_stop : o_BEATS.contains ("stop" : Str) = true := by decide
theorem wv_eq {c : Prog} {a : Str} {n : Int} (h : lk c a = some (.w n)) : wv c a = n := by
  unfold wv
  rw [h]
theorem nolook {m : Str} (h1 : m ≠ "held") (h2 : m ≠ "next") (h3 : m ≠ "time") {a b c : PyData} : ([("held", a), ("next", b), ("time", c)] : List (Str × PyData)).lookup m = none := by
  have e1 : (m == "held") = false := beq_eq_false_iff_ne.mpr h1
  have e2 : (m == "next") = false := beq_eq_false_iff_ne.mpr h2
  have e3 : (m == "time") = false := beq_eq_false_iff_ne.mpr h3
  simp only [List.lookup_cons, List.lookup_nil, e1, e2, e3]
section
variable {R : Sto} {p : Prog} {s : Ct} {x : Str} {t r : Int}
/-- the body of the loop of steps_of, once -/
theorem steps_body {lam : Fn} {wh : Str → Int → Int} {most : Int} {acc : List PyData} {g0 g1 g2 g7 g8 g9 g10 : Option Sl} {D : Po}
    (hlam : ∀ x ∈ p.map (·.1), ∀ t m, lam [.d (.str x), .d (.int t)] (R ++ [m]) = .val (.d (.int (wh x t))) (R ++ [m]))
    (hs : Sm p s.c) (hn : s.nx = some x) (hx : x ∈ ords p) (hl : acc.length ≤ 10000)
    (hD : ∀ (g7 g8 g9 g10 : Option Sl), D.nx [g0, g1, g2, some (.d (.int most)), some .fn, some (.box R.length), some (.d (.tuple (acc ++ [dStep (x, wh x t, (cstep s x).1.w.map fun a => wh a (wh x t + 1))]))), g7, g8, g9, g10]
      (R ++ [mB (cstep s x).2 (((cstep s x).1.w.map fun a => wh a (wh x t + 1)).getD (wh x t) + (cstep s x).1.e)])) :
    OkS (b1_steps_of lam [g0, g1, g2, some (.d (.int most)), some .fn, some (.box R.length), some (.d (.tuple acc)), g7, g8, g9, g10] (R ++ [mB s t])) D := by
  obtain ⟨c, h, nx⟩ := s
  cases hn
  have hs : Sm p c := hs
  obtain ⟨k, as, e, o⟩ := hs.wf.ordL (hs.o.symm ▸ hx)
  have l1 := fun m => hlam x (ords_nm hx) t m
  unfold b1_steps_of
  cases o with
  | stop =>
    have st := step_stop (R := R) (c := c) (h := h) (t := t) (r := wh x t) (w := .none) e
    have cs : cstep ⟨c, h, some x⟩ x = (⟨x, none, 1⟩, ⟨c, h, none⟩) := by unfold cstep; rw [e]
    rw [cs] at hD
    unfold mB dOS mBox at *
    simp_arith [Zs.se_put_add, Zs.sn_put_add, Zs.se_put_sub, Zs.sn_put_sub, Zs.se_put_save, Zs.sn_put_save, Zs.se_put_less, Zs.sn_put_less, Zs.se_put_stop, Zs.sn_put_stop, Zs.se_add_put, Zs.sn_add_put, Zs.se_add_sub, Zs.sn_add_sub, Zs.se_add_save, Zs.sn_add_save, Zs.se_add_less, Zs.sn_add_less, Zs.se_add_stop, Zs.sn_add_stop, Zs.se_sub_put, Zs.sn_sub_put, Zs.se_sub_add, Zs.sn_sub_add, Zs.se_sub_save, Zs.sn_sub_save, Zs.se_sub_less, Zs.sn_sub_less, Zs.se_sub_stop, Zs.sn_sub_stop, Zs.se_save_put, Zs.sn_save_put, Zs.se_save_add, Zs.sn_save_add, Zs.se_save_sub, Zs.sn_save_sub, Zs.se_save_less, Zs.sn_save_less, Zs.se_save_stop, Zs.sn_save_stop, Zs.se_less_put, Zs.sn_less_put, Zs.se_less_add, Zs.sn_less_add, Zs.se_less_sub, Zs.sn_less_sub, Zs.se_less_save, Zs.sn_less_save, Zs.se_less_stop, Zs.sn_less_stop, Zs.se_stop_put, Zs.sn_stop_put, Zs.se_stop_add, Zs.sn_stop_add, Zs.se_stop_sub, Zs.sn_stop_sub, Zs.se_stop_save, Zs.sn_stop_save, Zs.se_stop_less, Zs.sn_stop_less, Zs.se_held_next, Zs.sn_held_next, Zs.se_held_time, Zs.sn_held_time, Zs.se_held_cells, Zs.sn_held_cells, Zs.se_held_step, Zs.sn_held_step, Zs.se_held_words, Zs.sn_held_words, Zs.se_held_done, Zs.sn_held_done, Zs.se_next_held, Zs.sn_next_held, Zs.se_next_time, Zs.sn_next_time, Zs.se_next_cells, Zs.sn_next_cells, Zs.se_next_step, Zs.sn_next_step, Zs.se_next_words, Zs.sn_next_words, Zs.se_next_done, Zs.sn_next_done, Zs.se_time_held, Zs.sn_time_held, Zs.se_time_next, Zs.sn_time_next, Zs.se_time_cells, Zs.sn_time_cells, Zs.se_time_step, Zs.sn_time_step, Zs.se_time_words, Zs.sn_time_words, Zs.se_time_done, Zs.sn_time_done, Zs.se_cells_held, Zs.sn_cells_held, Zs.se_cells_next, Zs.sn_cells_next, Zs.se_cells_time, Zs.sn_cells_time, Zs.se_cells_step, Zs.sn_cells_step, Zs.se_cells_words, Zs.sn_cells_words, Zs.se_cells_done, Zs.sn_cells_done, Zs.se_step_held, Zs.sn_step_held, Zs.se_step_next, Zs.sn_step_next, Zs.se_step_time, Zs.sn_step_time, Zs.se_step_cells, Zs.sn_step_cells, Zs.se_step_words, Zs.sn_step_words, Zs.se_step_done, Zs.sn_step_done, Zs.se_words_held, Zs.sn_words_held, Zs.se_words_next, Zs.sn_words_next, Zs.se_words_time, Zs.sn_words_time, Zs.se_words_cells, Zs.sn_words_cells, Zs.se_words_step, Zs.sn_words_step, Zs.se_words_done, Zs.sn_words_done, Zs.se_done_held, Zs.sn_done_held, Zs.se_done_next, Zs.sn_done_next, Zs.se_done_time, Zs.sn_done_time, Zs.se_done_cells, Zs.sn_done_cells, Zs.se_done_step, Zs.sn_done_step, Zs.se_done_words, Zs.sn_done_words, val_kv, e, dCell, dOI, dOS, l1, kin_stop, kno_stop, st, nolook, List.take_length]
    exact hD _ _ _ _
  | less a b h1 h2 =>
    have st := step_less (R := R) (c := c) (h := h) (t := t) (r := wh x t) (w := .none) e
    have cs : cstep ⟨c, h, some x⟩ x = (⟨x, none, 2⟩, ⟨c, h, some (if 0 ≤ h then b else a)⟩) := by unfold cstep; rw [e]; rfl
    rw [cs] at hD
    unfold mB dOS mBox at *
    simp_arith [Zs.se_put_add, Zs.sn_put_add, Zs.se_put_sub, Zs.sn_put_sub, Zs.se_put_save, Zs.sn_put_save, Zs.se_put_less, Zs.sn_put_less, Zs.se_put_stop, Zs.sn_put_stop, Zs.se_add_put, Zs.sn_add_put, Zs.se_add_sub, Zs.sn_add_sub, Zs.se_add_save, Zs.sn_add_save, Zs.se_add_less, Zs.sn_add_less, Zs.se_add_stop, Zs.sn_add_stop, Zs.se_sub_put, Zs.sn_sub_put, Zs.se_sub_add, Zs.sn_sub_add, Zs.se_sub_save, Zs.sn_sub_save, Zs.se_sub_less, Zs.sn_sub_less, Zs.se_sub_stop, Zs.sn_sub_stop, Zs.se_save_put, Zs.sn_save_put, Zs.se_save_add, Zs.sn_save_add, Zs.se_save_sub, Zs.sn_save_sub, Zs.se_save_less, Zs.sn_save_less, Zs.se_save_stop, Zs.sn_save_stop, Zs.se_less_put, Zs.sn_less_put, Zs.se_less_add, Zs.sn_less_add, Zs.se_less_sub, Zs.sn_less_sub, Zs.se_less_save, Zs.sn_less_save, Zs.se_less_stop, Zs.sn_less_stop, Zs.se_stop_put, Zs.sn_stop_put, Zs.se_stop_add, Zs.sn_stop_add, Zs.se_stop_sub, Zs.sn_stop_sub, Zs.se_stop_save, Zs.sn_stop_save, Zs.se_stop_less, Zs.sn_stop_less, Zs.se_held_next, Zs.sn_held_next, Zs.se_held_time, Zs.sn_held_time, Zs.se_held_cells, Zs.sn_held_cells, Zs.se_held_step, Zs.sn_held_step, Zs.se_held_words, Zs.sn_held_words, Zs.se_held_done, Zs.sn_held_done, Zs.se_next_held, Zs.sn_next_held, Zs.se_next_time, Zs.sn_next_time, Zs.se_next_cells, Zs.sn_next_cells, Zs.se_next_step, Zs.sn_next_step, Zs.se_next_words, Zs.sn_next_words, Zs.se_next_done, Zs.sn_next_done, Zs.se_time_held, Zs.sn_time_held, Zs.se_time_next, Zs.sn_time_next, Zs.se_time_cells, Zs.sn_time_cells, Zs.se_time_step, Zs.sn_time_step, Zs.se_time_words, Zs.sn_time_words, Zs.se_time_done, Zs.sn_time_done, Zs.se_cells_held, Zs.sn_cells_held, Zs.se_cells_next, Zs.sn_cells_next, Zs.se_cells_time, Zs.sn_cells_time, Zs.se_cells_step, Zs.sn_cells_step, Zs.se_cells_words, Zs.sn_cells_words, Zs.se_cells_done, Zs.sn_cells_done, Zs.se_step_held, Zs.sn_step_held, Zs.se_step_next, Zs.sn_step_next, Zs.se_step_time, Zs.sn_step_time, Zs.se_step_cells, Zs.sn_step_cells, Zs.se_step_words, Zs.sn_step_words, Zs.se_step_done, Zs.sn_step_done, Zs.se_words_held, Zs.sn_words_held, Zs.se_words_next, Zs.sn_words_next, Zs.se_words_time, Zs.sn_words_time, Zs.se_words_cells, Zs.sn_words_cells, Zs.se_words_step, Zs.sn_words_step, Zs.se_words_done, Zs.sn_words_done, Zs.se_done_held, Zs.sn_done_held, Zs.se_done_next, Zs.sn_done_next, Zs.se_done_time, Zs.sn_done_time, Zs.se_done_cells, Zs.sn_done_cells, Zs.se_done_step, Zs.sn_done_step, Zs.se_done_words, Zs.sn_done_words, val_kv, e, dCell, dOI, dOS, l1, kin_less, kno_less, st, nolook, List.take_length]
    exact hD _ _ _ _
  | wd k a b h0 h1 h2 =>
    obtain ⟨v, hv⟩ := hs.wf.wrdL h1
    have ha : a ∈ p.map (·.1) := hs.n ▸ wrds_nm h1
    have l2 := fun m => hlam a ha (wh x t + 1) m
    have bk := kin_wd h0
    rcases h0 with rfl | rfl | rfl | rfl
    · have st := step_put (R := R) (c := c) (h := h) (t := t) (r := wh x t) (wd := wh a (wh x t + 1)) e hv
      have cs : cstep ⟨c, h, some x⟩ x = (⟨x, some a, 1⟩, ⟨c, v, some b⟩) := by unfold cstep; rw [e]; dsimp only; rw [if_neg (by decide), if_pos rfl, wv_eq hv]
      rw [cs] at hD
      unfold mB dOS mBox at *
      simp_arith [Zs.se_put_add, Zs.sn_put_add, Zs.se_put_sub, Zs.sn_put_sub, Zs.se_put_save, Zs.sn_put_save, Zs.se_put_less, Zs.sn_put_less, Zs.se_put_stop, Zs.sn_put_stop, Zs.se_add_put, Zs.sn_add_put, Zs.se_add_sub, Zs.sn_add_sub, Zs.se_add_save, Zs.sn_add_save, Zs.se_add_less, Zs.sn_add_less, Zs.se_add_stop, Zs.sn_add_stop, Zs.se_sub_put, Zs.sn_sub_put, Zs.se_sub_add, Zs.sn_sub_add, Zs.se_sub_save, Zs.sn_sub_save, Zs.se_sub_less, Zs.sn_sub_less, Zs.se_sub_stop, Zs.sn_sub_stop, Zs.se_save_put, Zs.sn_save_put, Zs.se_save_add, Zs.sn_save_add, Zs.se_save_sub, Zs.sn_save_sub, Zs.se_save_less, Zs.sn_save_less, Zs.se_save_stop, Zs.sn_save_stop, Zs.se_less_put, Zs.sn_less_put, Zs.se_less_add, Zs.sn_less_add, Zs.se_less_sub, Zs.sn_less_sub, Zs.se_less_save, Zs.sn_less_save, Zs.se_less_stop, Zs.sn_less_stop, Zs.se_stop_put, Zs.sn_stop_put, Zs.se_stop_add, Zs.sn_stop_add, Zs.se_stop_sub, Zs.sn_stop_sub, Zs.se_stop_save, Zs.sn_stop_save, Zs.se_stop_less, Zs.sn_stop_less, Zs.se_held_next, Zs.sn_held_next, Zs.se_held_time, Zs.sn_held_time, Zs.se_held_cells, Zs.sn_held_cells, Zs.se_held_step, Zs.sn_held_step, Zs.se_held_words, Zs.sn_held_words, Zs.se_held_done, Zs.sn_held_done, Zs.se_next_held, Zs.sn_next_held, Zs.se_next_time, Zs.sn_next_time, Zs.se_next_cells, Zs.sn_next_cells, Zs.se_next_step, Zs.sn_next_step, Zs.se_next_words, Zs.sn_next_words, Zs.se_next_done, Zs.sn_next_done, Zs.se_time_held, Zs.sn_time_held, Zs.se_time_next, Zs.sn_time_next, Zs.se_time_cells, Zs.sn_time_cells, Zs.se_time_step, Zs.sn_time_step, Zs.se_time_words, Zs.sn_time_words, Zs.se_time_done, Zs.sn_time_done, Zs.se_cells_held, Zs.sn_cells_held, Zs.se_cells_next, Zs.sn_cells_next, Zs.se_cells_time, Zs.sn_cells_time, Zs.se_cells_step, Zs.sn_cells_step, Zs.se_cells_words, Zs.sn_cells_words, Zs.se_cells_done, Zs.sn_cells_done, Zs.se_step_held, Zs.sn_step_held, Zs.se_step_next, Zs.sn_step_next, Zs.se_step_time, Zs.sn_step_time, Zs.se_step_cells, Zs.sn_step_cells, Zs.se_step_words, Zs.sn_step_words, Zs.se_step_done, Zs.sn_step_done, Zs.se_words_held, Zs.sn_words_held, Zs.se_words_next, Zs.sn_words_next, Zs.se_words_time, Zs.sn_words_time, Zs.se_words_cells, Zs.sn_words_cells, Zs.se_words_step, Zs.sn_words_step, Zs.se_words_done, Zs.sn_words_done, Zs.se_done_held, Zs.sn_done_held, Zs.se_done_next, Zs.sn_done_next, Zs.se_done_time, Zs.sn_done_time, Zs.se_done_cells, Zs.sn_done_cells, Zs.se_done_step, Zs.sn_done_step, Zs.se_done_words, Zs.sn_done_words, val_kv, e, dCell, dOI, dOS, l1, l2, bk, st, nolook, List.take_length]
      exact hD _ _ _ _
    · have st := step_add (R := R) (c := c) (h := h) (t := t) (r := wh x t) (wd := wh a (wh x t + 1)) e hv
      have cs : cstep ⟨c, h, some x⟩ x = (⟨x, some a, 2⟩, ⟨c, hold (h + v), some b⟩) := by unfold cstep; rw [e]; dsimp only; rw [if_neg (by decide), if_neg (by decide), if_pos rfl, wv_eq hv]
      rw [cs] at hD
      unfold mB dOS mBox at *
      simp_arith [Zs.se_put_add, Zs.sn_put_add, Zs.se_put_sub, Zs.sn_put_sub, Zs.se_put_save, Zs.sn_put_save, Zs.se_put_less, Zs.sn_put_less, Zs.se_put_stop, Zs.sn_put_stop, Zs.se_add_put, Zs.sn_add_put, Zs.se_add_sub, Zs.sn_add_sub, Zs.se_add_save, Zs.sn_add_save, Zs.se_add_less, Zs.sn_add_less, Zs.se_add_stop, Zs.sn_add_stop, Zs.se_sub_put, Zs.sn_sub_put, Zs.se_sub_add, Zs.sn_sub_add, Zs.se_sub_save, Zs.sn_sub_save, Zs.se_sub_less, Zs.sn_sub_less, Zs.se_sub_stop, Zs.sn_sub_stop, Zs.se_save_put, Zs.sn_save_put, Zs.se_save_add, Zs.sn_save_add, Zs.se_save_sub, Zs.sn_save_sub, Zs.se_save_less, Zs.sn_save_less, Zs.se_save_stop, Zs.sn_save_stop, Zs.se_less_put, Zs.sn_less_put, Zs.se_less_add, Zs.sn_less_add, Zs.se_less_sub, Zs.sn_less_sub, Zs.se_less_save, Zs.sn_less_save, Zs.se_less_stop, Zs.sn_less_stop, Zs.se_stop_put, Zs.sn_stop_put, Zs.se_stop_add, Zs.sn_stop_add, Zs.se_stop_sub, Zs.sn_stop_sub, Zs.se_stop_save, Zs.sn_stop_save, Zs.se_stop_less, Zs.sn_stop_less, Zs.se_held_next, Zs.sn_held_next, Zs.se_held_time, Zs.sn_held_time, Zs.se_held_cells, Zs.sn_held_cells, Zs.se_held_step, Zs.sn_held_step, Zs.se_held_words, Zs.sn_held_words, Zs.se_held_done, Zs.sn_held_done, Zs.se_next_held, Zs.sn_next_held, Zs.se_next_time, Zs.sn_next_time, Zs.se_next_cells, Zs.sn_next_cells, Zs.se_next_step, Zs.sn_next_step, Zs.se_next_words, Zs.sn_next_words, Zs.se_next_done, Zs.sn_next_done, Zs.se_time_held, Zs.sn_time_held, Zs.se_time_next, Zs.sn_time_next, Zs.se_time_cells, Zs.sn_time_cells, Zs.se_time_step, Zs.sn_time_step, Zs.se_time_words, Zs.sn_time_words, Zs.se_time_done, Zs.sn_time_done, Zs.se_cells_held, Zs.sn_cells_held, Zs.se_cells_next, Zs.sn_cells_next, Zs.se_cells_time, Zs.sn_cells_time, Zs.se_cells_step, Zs.sn_cells_step, Zs.se_cells_words, Zs.sn_cells_words, Zs.se_cells_done, Zs.sn_cells_done, Zs.se_step_held, Zs.sn_step_held, Zs.se_step_next, Zs.sn_step_next, Zs.se_step_time, Zs.sn_step_time, Zs.se_step_cells, Zs.sn_step_cells, Zs.se_step_words, Zs.sn_step_words, Zs.se_step_done, Zs.sn_step_done, Zs.se_words_held, Zs.sn_words_held, Zs.se_words_next, Zs.sn_words_next, Zs.se_words_time, Zs.sn_words_time, Zs.se_words_cells, Zs.sn_words_cells, Zs.se_words_step, Zs.sn_words_step, Zs.se_words_done, Zs.sn_words_done, Zs.se_done_held, Zs.sn_done_held, Zs.se_done_next, Zs.sn_done_next, Zs.se_done_time, Zs.sn_done_time, Zs.se_done_cells, Zs.sn_done_cells, Zs.se_done_step, Zs.sn_done_step, Zs.se_done_words, Zs.sn_done_words, val_kv, e, dCell, dOI, dOS, l1, l2, bk, st, nolook, List.take_length]
      exact hD _ _ _ _
    · have st := step_sub (R := R) (c := c) (h := h) (t := t) (r := wh x t) (wd := wh a (wh x t + 1)) e hv
      have cs : cstep ⟨c, h, some x⟩ x = (⟨x, some a, 2⟩, ⟨c, hold (h - v), some b⟩) := by unfold cstep; rw [e]; dsimp only; rw [if_neg (by decide), if_neg (by decide), if_neg (by decide), if_pos rfl, wv_eq hv]
      rw [cs] at hD
      unfold mB dOS mBox at *
      simp_arith [Zs.se_put_add, Zs.sn_put_add, Zs.se_put_sub, Zs.sn_put_sub, Zs.se_put_save, Zs.sn_put_save, Zs.se_put_less, Zs.sn_put_less, Zs.se_put_stop, Zs.sn_put_stop, Zs.se_add_put, Zs.sn_add_put, Zs.se_add_sub, Zs.sn_add_sub, Zs.se_add_save, Zs.sn_add_save, Zs.se_add_less, Zs.sn_add_less, Zs.se_add_stop, Zs.sn_add_stop, Zs.se_sub_put, Zs.sn_sub_put, Zs.se_sub_add, Zs.sn_sub_add, Zs.se_sub_save, Zs.sn_sub_save, Zs.se_sub_less, Zs.sn_sub_less, Zs.se_sub_stop, Zs.sn_sub_stop, Zs.se_save_put, Zs.sn_save_put, Zs.se_save_add, Zs.sn_save_add, Zs.se_save_sub, Zs.sn_save_sub, Zs.se_save_less, Zs.sn_save_less, Zs.se_save_stop, Zs.sn_save_stop, Zs.se_less_put, Zs.sn_less_put, Zs.se_less_add, Zs.sn_less_add, Zs.se_less_sub, Zs.sn_less_sub, Zs.se_less_save, Zs.sn_less_save, Zs.se_less_stop, Zs.sn_less_stop, Zs.se_stop_put, Zs.sn_stop_put, Zs.se_stop_add, Zs.sn_stop_add, Zs.se_stop_sub, Zs.sn_stop_sub, Zs.se_stop_save, Zs.sn_stop_save, Zs.se_stop_less, Zs.sn_stop_less, Zs.se_held_next, Zs.sn_held_next, Zs.se_held_time, Zs.sn_held_time, Zs.se_held_cells, Zs.sn_held_cells, Zs.se_held_step, Zs.sn_held_step, Zs.se_held_words, Zs.sn_held_words, Zs.se_held_done, Zs.sn_held_done, Zs.se_next_held, Zs.sn_next_held, Zs.se_next_time, Zs.sn_next_time, Zs.se_next_cells, Zs.sn_next_cells, Zs.se_next_step, Zs.sn_next_step, Zs.se_next_words, Zs.sn_next_words, Zs.se_next_done, Zs.sn_next_done, Zs.se_time_held, Zs.sn_time_held, Zs.se_time_next, Zs.sn_time_next, Zs.se_time_cells, Zs.sn_time_cells, Zs.se_time_step, Zs.sn_time_step, Zs.se_time_words, Zs.sn_time_words, Zs.se_time_done, Zs.sn_time_done, Zs.se_cells_held, Zs.sn_cells_held, Zs.se_cells_next, Zs.sn_cells_next, Zs.se_cells_time, Zs.sn_cells_time, Zs.se_cells_step, Zs.sn_cells_step, Zs.se_cells_words, Zs.sn_cells_words, Zs.se_cells_done, Zs.sn_cells_done, Zs.se_step_held, Zs.sn_step_held, Zs.se_step_next, Zs.sn_step_next, Zs.se_step_time, Zs.sn_step_time, Zs.se_step_cells, Zs.sn_step_cells, Zs.se_step_words, Zs.sn_step_words, Zs.se_step_done, Zs.sn_step_done, Zs.se_words_held, Zs.sn_words_held, Zs.se_words_next, Zs.sn_words_next, Zs.se_words_time, Zs.sn_words_time, Zs.se_words_cells, Zs.sn_words_cells, Zs.se_words_step, Zs.sn_words_step, Zs.se_words_done, Zs.sn_words_done, Zs.se_done_held, Zs.sn_done_held, Zs.se_done_next, Zs.sn_done_next, Zs.se_done_time, Zs.sn_done_time, Zs.se_done_cells, Zs.sn_done_cells, Zs.se_done_step, Zs.sn_done_step, Zs.se_done_words, Zs.sn_done_words, val_kv, e, dCell, dOI, dOS, l1, l2, bk, st, nolook, List.take_length]
      exact hD _ _ _ _
    · have st := step_save (R := R) (c := c) (h := h) (t := t) (r := wh x t) (wd := wh a (wh x t + 1)) e (wrds_nm h1) (Nat.le_trans hs.wf.len (by omega))
      have cs : cstep ⟨c, h, some x⟩ x = (⟨x, some a, 1⟩, ⟨setC c a (.w h), h, some b⟩) := by unfold cstep; rw [e]; dsimp only; rw [if_neg (by decide), if_neg (by decide), if_neg (by decide), if_neg (by decide)]
      rw [cs] at hD
      unfold mB dOS mBox at *
      simp_arith [Zs.se_put_add, Zs.sn_put_add, Zs.se_put_sub, Zs.sn_put_sub, Zs.se_put_save, Zs.sn_put_save, Zs.se_put_less, Zs.sn_put_less, Zs.se_put_stop, Zs.sn_put_stop, Zs.se_add_put, Zs.sn_add_put, Zs.se_add_sub, Zs.sn_add_sub, Zs.se_add_save, Zs.sn_add_save, Zs.se_add_less, Zs.sn_add_less, Zs.se_add_stop, Zs.sn_add_stop, Zs.se_sub_put, Zs.sn_sub_put, Zs.se_sub_add, Zs.sn_sub_add, Zs.se_sub_save, Zs.sn_sub_save, Zs.se_sub_less, Zs.sn_sub_less, Zs.se_sub_stop, Zs.sn_sub_stop, Zs.se_save_put, Zs.sn_save_put, Zs.se_save_add, Zs.sn_save_add, Zs.se_save_sub, Zs.sn_save_sub, Zs.se_save_less, Zs.sn_save_less, Zs.se_save_stop, Zs.sn_save_stop, Zs.se_less_put, Zs.sn_less_put, Zs.se_less_add, Zs.sn_less_add, Zs.se_less_sub, Zs.sn_less_sub, Zs.se_less_save, Zs.sn_less_save, Zs.se_less_stop, Zs.sn_less_stop, Zs.se_stop_put, Zs.sn_stop_put, Zs.se_stop_add, Zs.sn_stop_add, Zs.se_stop_sub, Zs.sn_stop_sub, Zs.se_stop_save, Zs.sn_stop_save, Zs.se_stop_less, Zs.sn_stop_less, Zs.se_held_next, Zs.sn_held_next, Zs.se_held_time, Zs.sn_held_time, Zs.se_held_cells, Zs.sn_held_cells, Zs.se_held_step, Zs.sn_held_step, Zs.se_held_words, Zs.sn_held_words, Zs.se_held_done, Zs.sn_held_done, Zs.se_next_held, Zs.sn_next_held, Zs.se_next_time, Zs.sn_next_time, Zs.se_next_cells, Zs.sn_next_cells, Zs.se_next_step, Zs.sn_next_step, Zs.se_next_words, Zs.sn_next_words, Zs.se_next_done, Zs.sn_next_done, Zs.se_time_held, Zs.sn_time_held, Zs.se_time_next, Zs.sn_time_next, Zs.se_time_cells, Zs.sn_time_cells, Zs.se_time_step, Zs.sn_time_step, Zs.se_time_words, Zs.sn_time_words, Zs.se_time_done, Zs.sn_time_done, Zs.se_cells_held, Zs.sn_cells_held, Zs.se_cells_next, Zs.sn_cells_next, Zs.se_cells_time, Zs.sn_cells_time, Zs.se_cells_step, Zs.sn_cells_step, Zs.se_cells_words, Zs.sn_cells_words, Zs.se_cells_done, Zs.sn_cells_done, Zs.se_step_held, Zs.sn_step_held, Zs.se_step_next, Zs.sn_step_next, Zs.se_step_time, Zs.sn_step_time, Zs.se_step_cells, Zs.sn_step_cells, Zs.se_step_words, Zs.sn_step_words, Zs.se_step_done, Zs.sn_step_done, Zs.se_words_held, Zs.sn_words_held, Zs.se_words_next, Zs.sn_words_next, Zs.se_words_time, Zs.sn_words_time, Zs.se_words_cells, Zs.sn_words_cells, Zs.se_words_step, Zs.sn_words_step, Zs.se_words_done, Zs.sn_words_done, Zs.se_done_held, Zs.sn_done_held, Zs.se_done_next, Zs.sn_done_next, Zs.se_done_time, Zs.sn_done_time, Zs.se_done_cells, Zs.sn_done_cells, Zs.se_done_step, Zs.sn_done_step, Zs.se_done_words, Zs.sn_done_words, val_kv, e, dCell, dOI, dOS, l1, l2, bk, st, nolook, List.take_length]
      exact hD _ _ _ _
end
end Zc
end
section
set_option Elab.async false
set_option linter.all false
set_option maxRecDepth 100000
set_option autoImplicit false
set_option maxHeartbeats 4000000
namespace Zc
open PySem Z
open L2 (atI)
local macro_rules
  | `(tactic| simp_arith [$ls,*]) => `(tactic| simp -implicitDefEqProofs (disch := omega) only [kB_ap, kS_ap, xD_ap, dSeq_nx, dSeq_rt, dSeq_bk, dSeq_ct, dSeq_ex, dTry_nx, dTry_rt, dTry_bk, dTry_ct, dTry_ex, okE_bd, okS_so, okS_sq, nonD_n, nonD_i, nonD_s, nonD_b, nonD_t, nonD_l, getLast1, getLast1', setLast1, setLast1', takeLast2, zseq_ok, zdrop_ok, zset_ok, zsetF_ok, zifS_ok, ztru_ok, zop_ok, zcb_ok, zcf_ok, zacons_ok, zanil_ok, zc_ok, zv_ok, znil_ok, zret_ok, zcall_ok, zfz_ok, znew_ok, zneg_ok, zos_ok, zon_ok, zsl_ok, zslF_ok, ztup_ok, zlst_ok, zand_ok, zor_ok, znot_ok, zif_ok, zpar_ok, zpar3_ok, zasg_ok, zdnew_ok, znotV_ok, zbrk_ok, zcnt_ok, zopF_ok, zpop0_ok, zdget_ok, zdin_ok, zdnin_ok, zisi_ok, ziA_ok, ziQ_ok, ziL_ok, ziT_ok, zattr_ok, zaset_ok, zmake_ok, zpr_ok, zpr1_ok, zasgP_ok, zlset_ok, zlrg_ok, zkin_ok, zkget_ok, zraise_ok, zfor_ok, zwhile_ok, lamOf_ok, ztrue_ok, zorD_ok, zparA_ok, zdis_ok, ztst_ok, zandV_ok, zorV_ok, zchain_ok, zapp_ok, zmt1_ok, zcnt1_ok, zmeth_ok, zdget2_ok, zact_ok, zlamcall_ok, zfrz_ok, zdput_ok, zlput_ok, ztry_ok, zcatch_nil, zcatch_cons, app2_ok, gN_ap, gT2_ap, gT3_ap, wipeZ, okE_val, okE_exc, okS_nx, okS_rt, okS_bk, okS_ct, okS_ex, okE_ofOpt, rng1_ok, rng2_ok, izs_len, izr_len, List.map_cons, List.map_nil, List.cons_append, List.nil_append, List.replicate, List.length_cons, List.length_nil, List.length_append, List.length_map, List.length_set, List.getElem?_cons_zero, List.getElem?_cons_succ, List.getElem?_nil, List.set_cons_zero, List.set_cons_succ, lstAt, on1, on2, lstOnly, allD_nil, allD_cons, Option.map_some, Option.map_none, Option.bind_some, Option.bind_none, dMul_ok, dMod_ok, dDiv_ok, dEq_i, dEq_s, dEq_b, dNe_i, dNe_s, dNe_b, dEq_ti, dNe_ti, dEq_li, dNe_li, dIn, dNotIn, atI_0, atI_1, atI_2, dMin, dMax, dSum, dAll, dAny, intsOf_map, bolsOf_map, intsOf_nil, intsOf_cons, putS, lim, retN_d, getLast0, setLast0, takeLast0, takeLast1, List.take_succ_cons, List.take_zero, List.take_length, List.take_nil, decide_eq_true_eq, beq_iff_eq, if_true, if_false, Bool.not_true, Bool.not_false, Bool.not_eq_true', Bool.false_eq_true, Bool.true_eq_false, reduceIte, if_pos, if_neg, Nat.add_eq, List.isEmpty_cons, List.isEmpty_nil, Option.some.injEq, decide_true, decide_false, decide_eq_true, decide_eq_false, beq_self_eq_true, BEq.rfl, beq_eq_false_iff_ne, Nat.zero_add, Nat.reduceAdd, Int.toNat_natCast, Bool.not_eq_true, decide_eq_false_iff_not, bne_iff_ne, ne_eq, not_true_eq_false, not_false_eq_true, dAdd_e1, dAdd_e2, dAdd_e3, dSub_e1, dLt_e1, dLt_e2, dLt_e3, dLe_e1, dGt_e1, dGe_e1, dIs_e1, dIs_e2, dIsNot_e1, dIsNot_e2, dIx_e1, dIx_e2, dIx_e3, dTup_e1, dTup_e2, dInt_e1, dInt_e2, dMin2_e1, dMax2_e1, dAbs_e1, truth_e1, truth_e2, truth_e3, truth_e4, truth_e5, truth_e6, truS_e1, truS_e2, res_e1, res_e2, resD_e1, resD_e2, resD_e3, lenS_e1, lenS_e2, lenS_e3, lenS_e4, lenS_e5, itemsQ_e1, itemsQ_e2, itemsL_e1, itemsT_e1, bLst_e1, bLst_e2, dSl_e1, dSl_e2, zipOf_e1, zipOf_e2, enumOf_e1, enumOf_e2, keySl_e1, keyOf_e1, keyOf_e2, setAll_e1, setAll_e2, gNs_e1, bolOf_e1, datOf_e1, lsOf_e1, fCat_e1, fRep_e1, fExt_e1, forget_cons, forget_nil, fg_d, fg_fn, fg_none, fg_box, fg_box', insAt, putA, List.lookup_cons, List.lookup_nil, noExc, Option.isSome_some, Option.isSome_none, and_self, and_true, true_and, eq_self, Int.add_zero, fnOf, scrOf, cntI, frzOf, lputOf, $ls,*])
  | `(tactic| simp_arith [$ls,*] $l:location) => `(tactic| simp -implicitDefEqProofs (disch := omega) only [kB_ap, kS_ap, xD_ap, dSeq_nx, dSeq_rt, dSeq_bk, dSeq_ct, dSeq_ex, dTry_nx, dTry_rt, dTry_bk, dTry_ct, dTry_ex, okE_bd, okS_so, okS_sq, nonD_n, nonD_i, nonD_s, nonD_b, nonD_t, nonD_l, getLast1, getLast1', setLast1, setLast1', takeLast2, zseq_ok, zdrop_ok, zset_ok, zsetF_ok, zifS_ok, ztru_ok, zop_ok, zcb_ok, zcf_ok, zacons_ok, zanil_ok, zc_ok, zv_ok, znil_ok, zret_ok, zcall_ok, zfz_ok, znew_ok, zneg_ok, zos_ok, zon_ok, zsl_ok, zslF_ok, ztup_ok, zlst_ok, zand_ok, zor_ok, znot_ok, zif_ok, zpar_ok, zpar3_ok, zasg_ok, zdnew_ok, znotV_ok, zbrk_ok, zcnt_ok, zopF_ok, zpop0_ok, zdget_ok, zdin_ok, zdnin_ok, zisi_ok, ziA_ok, ziQ_ok, ziL_ok, ziT_ok, zattr_ok, zaset_ok, zmake_ok, zpr_ok, zpr1_ok, zasgP_ok, zlset_ok, zlrg_ok, zkin_ok, zkget_ok, zraise_ok, zfor_ok, zwhile_ok, lamOf_ok, ztrue_ok, zorD_ok, zparA_ok, zdis_ok, ztst_ok, zandV_ok, zorV_ok, zchain_ok, zapp_ok, zmt1_ok, zcnt1_ok, zmeth_ok, zdget2_ok, zact_ok, zlamcall_ok, zfrz_ok, zdput_ok, zlput_ok, ztry_ok, zcatch_nil, zcatch_cons, app2_ok, gN_ap, gT2_ap, gT3_ap, wipeZ, okE_val, okE_exc, okS_nx, okS_rt, okS_bk, okS_ct, okS_ex, okE_ofOpt, rng1_ok, rng2_ok, izs_len, izr_len, List.map_cons, List.map_nil, List.cons_append, List.nil_append, List.replicate, List.length_cons, List.length_nil, List.length_append, List.length_map, List.length_set, List.getElem?_cons_zero, List.getElem?_cons_succ, List.getElem?_nil, List.set_cons_zero, List.set_cons_succ, lstAt, on1, on2, lstOnly, allD_nil, allD_cons, Option.map_some, Option.map_none, Option.bind_some, Option.bind_none, dMul_ok, dMod_ok, dDiv_ok, dEq_i, dEq_s, dEq_b, dNe_i, dNe_s, dNe_b, dEq_ti, dNe_ti, dEq_li, dNe_li, dIn, dNotIn, atI_0, atI_1, atI_2, dMin, dMax, dSum, dAll, dAny, intsOf_map, bolsOf_map, intsOf_nil, intsOf_cons, putS, lim, retN_d, getLast0, setLast0, takeLast0, takeLast1, List.take_succ_cons, List.take_zero, List.take_length, List.take_nil, decide_eq_true_eq, beq_iff_eq, if_true, if_false, Bool.not_true, Bool.not_false, Bool.not_eq_true', Bool.false_eq_true, Bool.true_eq_false, reduceIte, if_pos, if_neg, Nat.add_eq, List.isEmpty_cons, List.isEmpty_nil, Option.some.injEq, decide_true, decide_false, decide_eq_true, decide_eq_false, beq_self_eq_true, BEq.rfl, beq_eq_false_iff_ne, Nat.zero_add, Nat.reduceAdd, Int.toNat_natCast, Bool.not_eq_true, decide_eq_false_iff_not, bne_iff_ne, ne_eq, not_true_eq_false, not_false_eq_true, dAdd_e1, dAdd_e2, dAdd_e3, dSub_e1, dLt_e1, dLt_e2, dLt_e3, dLe_e1, dGt_e1, dGe_e1, dIs_e1, dIs_e2, dIsNot_e1, dIsNot_e2, dIx_e1, dIx_e2, dIx_e3, dTup_e1, dTup_e2, dInt_e1, dInt_e2, dMin2_e1, dMax2_e1, dAbs_e1, truth_e1, truth_e2, truth_e3, truth_e4, truth_e5, truth_e6, truS_e1, truS_e2, res_e1, res_e2, resD_e1, resD_e2, resD_e3, lenS_e1, lenS_e2, lenS_e3, lenS_e4, lenS_e5, itemsQ_e1, itemsQ_e2, itemsL_e1, itemsT_e1, bLst_e1, bLst_e2, dSl_e1, dSl_e2, zipOf_e1, zipOf_e2, enumOf_e1, enumOf_e2, keySl_e1, keyOf_e1, keyOf_e2, setAll_e1, setAll_e2, gNs_e1, bolOf_e1, datOf_e1, lsOf_e1, fCat_e1, fRep_e1, fExt_e1, forget_cons, forget_nil, fg_d, fg_fn, fg_none, fg_box, fg_box', insAt, putA, List.lookup_cons, List.lookup_nil, noExc, Option.isSome_some, Option.isSome_none, and_self, and_true, true_and, eq_self, Int.add_zero, fnOf, scrOf, cntI, frzOf, lputOf, $ls,*] $l)
def st0 (p : Prog) (x : Str) : Ct := ⟨p, 0, some x⟩
theorem ini_ok {p : Prog} {x : Str} {t : Int} (nd : (p.map (·.1)).Nodup) : iniM [.d (dProg p), .d (.str x), .d (.int t)] = some (([("held", .int 0), ("next", .str x), ("time", .int t)] : List (Str × PyData)), kv dCell p) := by
  have e : pairsOf (p.map dRow) = some (kv dCell p) := pairs_kv
  have e2 : mergeD [] (kv dCell p) = kv dCell p := by
    have := merge_kv (f := dCell) (more := p) (acc := []) (by simpa using nd)
    rwa [List.nil_append] at this
  unfold dProg iniM
  dsimp only
  rw [e, Option.map_some, e2]
theorem timed_cons {wh : Str → Int → Int} {t : Int} {e : Ev} {es : List Ev} : timed wh t (e :: es) = ((e.x, wh e.x t, e.w.map fun a => wh a (wh e.x t + 1)) :: (timed wh (((e.w.map fun a => wh a (wh e.x t + 1)).getD (wh e.x t)) + e.e) es).1,
      (timed wh (((e.w.map fun a => wh a (wh e.x t + 1)).getD (wh e.x t)) + e.e) es).2) := rfl
theorem trace_none {n : Nat} {s : Ct} (h : s.nx = none) : trace n s = ([], s) := by
  cases n with
  | zero => rfl
  | succ n => unfold trace; rw [h]
theorem trace_some {n : Nat} {s : Ct} {x : Str} (h : s.nx = some x) : trace (n + 1) s = ((cstep s x).1 :: (trace n (cstep s x).2).1, (trace n (cstep s x).2).2) := by
  rw [trace, h]
theorem steps_of_ok {lam : Fn} {wh : Str → Int → Int} {p : Prog} {start : Str} {t : Int} {most : Nat} {S : Sto}
    (hlam : ∀ x ∈ p.map (·.1), ∀ t m, lam [.d (.str x), .d (.int t)] (S ++ [m]) = .val (.d (.int (wh x t))) (S ++ [m])) (hp : WF p) (hst : start ∈ ords p) (hm : most ≤ 1000) :
    zdef 5 6 (z_steps_of lam) [.d (dProg p), .d (.str start), .d (.int t), .d (.int most), .fn] S =
      .val (.pr (dSteps (timed wh t (trace most (st0 p start)).1).1) S.length) (S ++ [mB (trace most (st0 p start)).2 (timed wh t (trace most (st0 p start)).1).2]) := by
  have ini := ini_ok (x := start) (t := t) hp.nd
  refine OkE.val (ok_def rfl ?_)
  unfold z_steps_of
  simp_arith [ini]
  refine ok_while (fun m Γ S1 => ∃ (s : Ct) (u : Int) (acc : List Row) (g7 g8 g9 g10 : Option Sl), OkC p s ∧ acc.length + m = most ∧ timed wh t (trace most (st0 p start)).1 = (acc ++ (timed wh u (trace m s).1).1, (timed wh u (trace m s).1).2) ∧ (trace most (st0 p start)).2 = (trace m s).2 ∧
      Γ = [some (.d (dProg p)), some (.d (.str start)), some (.d (.int t)), some (.d (.int most)), some .fn, some (.box S.length), some (.d (dSteps acc)), g7, g8, g9, g10] ∧ S1 = S ++ [mB s u]) ?_ _ most _ _ ?_ ?_
  · rintro m Γ S1 ⟨s, u, acc, g7, g8, g9, g10, hs, hl, e1, e2, rfl, rfl⟩
    cases hn : s.nx with
    | none =>
      rw [trace_none hn] at e1 e2
      unfold mB mBox
      rw [hn]
      simp_arith [Zs.se_put_add, Zs.sn_put_add, Zs.se_put_sub, Zs.sn_put_sub, Zs.se_put_save, Zs.sn_put_save, Zs.se_put_less, Zs.sn_put_less, Zs.se_put_stop, Zs.sn_put_stop, Zs.se_add_put, Zs.sn_add_put, Zs.se_add_sub, Zs.sn_add_sub, Zs.se_add_save, Zs.sn_add_save, Zs.se_add_less, Zs.sn_add_less, Zs.se_add_stop, Zs.sn_add_stop, Zs.se_sub_put, Zs.sn_sub_put, Zs.se_sub_add, Zs.sn_sub_add, Zs.se_sub_save, Zs.sn_sub_save, Zs.se_sub_less, Zs.sn_sub_less, Zs.se_sub_stop, Zs.sn_sub_stop, Zs.se_save_put, Zs.sn_save_put, Zs.se_save_add, Zs.sn_save_add, Zs.se_save_sub, Zs.sn_save_sub, Zs.se_save_less, Zs.sn_save_less, Zs.se_save_stop, Zs.sn_save_stop, Zs.se_less_put, Zs.sn_less_put, Zs.se_less_add, Zs.sn_less_add, Zs.se_less_sub, Zs.sn_less_sub, Zs.se_less_save, Zs.sn_less_save, Zs.se_less_stop, Zs.sn_less_stop, Zs.se_stop_put, Zs.sn_stop_put, Zs.se_stop_add, Zs.sn_stop_add, Zs.se_stop_sub, Zs.sn_stop_sub, Zs.se_stop_save, Zs.sn_stop_save, Zs.se_stop_less, Zs.sn_stop_less, Zs.se_held_next, Zs.sn_held_next, Zs.se_held_time, Zs.sn_held_time, Zs.se_held_cells, Zs.sn_held_cells, Zs.se_held_step, Zs.sn_held_step, Zs.se_held_words, Zs.sn_held_words, Zs.se_held_done, Zs.sn_held_done, Zs.se_next_held, Zs.sn_next_held, Zs.se_next_time, Zs.sn_next_time, Zs.se_next_cells, Zs.sn_next_cells, Zs.se_next_step, Zs.sn_next_step, Zs.se_next_words, Zs.sn_next_words, Zs.se_next_done, Zs.sn_next_done, Zs.se_time_held, Zs.sn_time_held, Zs.se_time_next, Zs.sn_time_next, Zs.se_time_cells, Zs.sn_time_cells, Zs.se_time_step, Zs.sn_time_step, Zs.se_time_words, Zs.sn_time_words, Zs.se_time_done, Zs.sn_time_done, Zs.se_cells_held, Zs.sn_cells_held, Zs.se_cells_next, Zs.sn_cells_next, Zs.se_cells_time, Zs.sn_cells_time, Zs.se_cells_step, Zs.sn_cells_step, Zs.se_cells_words, Zs.sn_cells_words, Zs.se_cells_done, Zs.sn_cells_done, Zs.se_step_held, Zs.sn_step_held, Zs.se_step_next, Zs.sn_step_next, Zs.se_step_time, Zs.sn_step_time, Zs.se_step_cells, Zs.sn_step_cells, Zs.se_step_words, Zs.sn_step_words, Zs.se_step_done, Zs.sn_step_done, Zs.se_words_held, Zs.sn_words_held, Zs.se_words_next, Zs.sn_words_next, Zs.se_words_time, Zs.sn_words_time, Zs.se_words_cells, Zs.sn_words_cells, Zs.se_words_step, Zs.sn_words_step, Zs.se_words_done, Zs.sn_words_done, Zs.se_done_held, Zs.sn_done_held, Zs.se_done_next, Zs.sn_done_next, Zs.se_done_time, Zs.sn_done_time, Zs.se_done_cells, Zs.sn_done_cells, Zs.se_done_step, Zs.sn_done_step, Zs.se_done_words, Zs.sn_done_words, dOS, Option.isSome_some, Option.isSome_none]
      rw [e1, e2]
      simp_arith [Nat.lt_irrefl, timed, List.append_nil, hn, retN, dOS]
    | some x =>
      have hx : x ∈ ords p := by
        have := hs.nx
        rw [hn] at this
        exact this
      cases m with
      | zero =>
        have e1 : timed wh t (trace most (st0 p start)).1 = (acc, u) := by
          rw [e1]
          simp [trace, timed]
        have e2 : (trace most (st0 p start)).2 = s := e2
        unfold mB mBox
        rw [hn]
        simp_arith [Zs.se_put_add, Zs.sn_put_add, Zs.se_put_sub, Zs.sn_put_sub, Zs.se_put_save, Zs.sn_put_save, Zs.se_put_less, Zs.sn_put_less, Zs.se_put_stop, Zs.sn_put_stop, Zs.se_add_put, Zs.sn_add_put, Zs.se_add_sub, Zs.sn_add_sub, Zs.se_add_save, Zs.sn_add_save, Zs.se_add_less, Zs.sn_add_less, Zs.se_add_stop, Zs.sn_add_stop, Zs.se_sub_put, Zs.sn_sub_put, Zs.se_sub_add, Zs.sn_sub_add, Zs.se_sub_save, Zs.sn_sub_save, Zs.se_sub_less, Zs.sn_sub_less, Zs.se_sub_stop, Zs.sn_sub_stop, Zs.se_save_put, Zs.sn_save_put, Zs.se_save_add, Zs.sn_save_add, Zs.se_save_sub, Zs.sn_save_sub, Zs.se_save_less, Zs.sn_save_less, Zs.se_save_stop, Zs.sn_save_stop, Zs.se_less_put, Zs.sn_less_put, Zs.se_less_add, Zs.sn_less_add, Zs.se_less_sub, Zs.sn_less_sub, Zs.se_less_save, Zs.sn_less_save, Zs.se_less_stop, Zs.sn_less_stop, Zs.se_stop_put, Zs.sn_stop_put, Zs.se_stop_add, Zs.sn_stop_add, Zs.se_stop_sub, Zs.sn_stop_sub, Zs.se_stop_save, Zs.sn_stop_save, Zs.se_stop_less, Zs.sn_stop_less, Zs.se_held_next, Zs.sn_held_next, Zs.se_held_time, Zs.sn_held_time, Zs.se_held_cells, Zs.sn_held_cells, Zs.se_held_step, Zs.sn_held_step, Zs.se_held_words, Zs.sn_held_words, Zs.se_held_done, Zs.sn_held_done, Zs.se_next_held, Zs.sn_next_held, Zs.se_next_time, Zs.sn_next_time, Zs.se_next_cells, Zs.sn_next_cells, Zs.se_next_step, Zs.sn_next_step, Zs.se_next_words, Zs.sn_next_words, Zs.se_next_done, Zs.sn_next_done, Zs.se_time_held, Zs.sn_time_held, Zs.se_time_next, Zs.sn_time_next, Zs.se_time_cells, Zs.sn_time_cells, Zs.se_time_step, Zs.sn_time_step, Zs.se_time_words, Zs.sn_time_words, Zs.se_time_done, Zs.sn_time_done, Zs.se_cells_held, Zs.sn_cells_held, Zs.se_cells_next, Zs.sn_cells_next, Zs.se_cells_time, Zs.sn_cells_time, Zs.se_cells_step, Zs.sn_cells_step, Zs.se_cells_words, Zs.sn_cells_words, Zs.se_cells_done, Zs.sn_cells_done, Zs.se_step_held, Zs.sn_step_held, Zs.se_step_next, Zs.sn_step_next, Zs.se_step_time, Zs.sn_step_time, Zs.se_step_cells, Zs.sn_step_cells, Zs.se_step_words, Zs.sn_step_words, Zs.se_step_done, Zs.sn_step_done, Zs.se_words_held, Zs.sn_words_held, Zs.se_words_next, Zs.sn_words_next, Zs.se_words_time, Zs.sn_words_time, Zs.se_words_cells, Zs.sn_words_cells, Zs.se_words_step, Zs.sn_words_step, Zs.se_words_done, Zs.sn_words_done, Zs.se_done_held, Zs.sn_done_held, Zs.se_done_next, Zs.sn_done_next, Zs.se_done_time, Zs.sn_done_time, Zs.se_done_cells, Zs.sn_done_cells, Zs.se_done_step, Zs.sn_done_step, Zs.se_done_words, Zs.sn_done_words, dOS, dSteps, show decide ((acc.length : Int) < most) = false from decide_eq_false (by omega), Option.isSome_some, Option.isSome_none]
        rw [e1, e2]
        simp_arith [Nat.lt_irrefl, hn, retN, dOS, dSteps]
      | succ m =>
        rw [trace_some hn] at e1 e2
        have hc := cstep_ok hs.sm hx
        have tst : zand (ztst (zop dIsNot (zattr "Machine" "next" (zv 5)) (zc .none))) (ztst (zop dLt (zcb lenS (zacons (zv 6) (zanil))) (zv 3))) [some (.d (dProg p)), some (.d (.str start)), some (.d (.int t)), some (.d (.int most)), some .fn, some (.box S.length), some (.d (dSteps acc)), g7, g8, g9, g10] (S ++ [mB s u]) = .val true (S ++ [mB s u]) := by
          unfold mB mBox
          rw [hn]
          refine OkE.val ?_; simp_arith [Zs.se_put_add, Zs.sn_put_add, Zs.se_put_sub, Zs.sn_put_sub, Zs.se_put_save, Zs.sn_put_save, Zs.se_put_less, Zs.sn_put_less, Zs.se_put_stop, Zs.sn_put_stop, Zs.se_add_put, Zs.sn_add_put, Zs.se_add_sub, Zs.sn_add_sub, Zs.se_add_save, Zs.sn_add_save, Zs.se_add_less, Zs.sn_add_less, Zs.se_add_stop, Zs.sn_add_stop, Zs.se_sub_put, Zs.sn_sub_put, Zs.se_sub_add, Zs.sn_sub_add, Zs.se_sub_save, Zs.sn_sub_save, Zs.se_sub_less, Zs.sn_sub_less, Zs.se_sub_stop, Zs.sn_sub_stop, Zs.se_save_put, Zs.sn_save_put, Zs.se_save_add, Zs.sn_save_add, Zs.se_save_sub, Zs.sn_save_sub, Zs.se_save_less, Zs.sn_save_less, Zs.se_save_stop, Zs.sn_save_stop, Zs.se_less_put, Zs.sn_less_put, Zs.se_less_add, Zs.sn_less_add, Zs.se_less_sub, Zs.sn_less_sub, Zs.se_less_save, Zs.sn_less_save, Zs.se_less_stop, Zs.sn_less_stop, Zs.se_stop_put, Zs.sn_stop_put, Zs.se_stop_add, Zs.sn_stop_add, Zs.se_stop_sub, Zs.sn_stop_sub, Zs.se_stop_save, Zs.sn_stop_save, Zs.se_stop_less, Zs.sn_stop_less, Zs.se_held_next, Zs.sn_held_next, Zs.se_held_time, Zs.sn_held_time, Zs.se_held_cells, Zs.sn_held_cells, Zs.se_held_step, Zs.sn_held_step, Zs.se_held_words, Zs.sn_held_words, Zs.se_held_done, Zs.sn_held_done, Zs.se_next_held, Zs.sn_next_held, Zs.se_next_time, Zs.sn_next_time, Zs.se_next_cells, Zs.sn_next_cells, Zs.se_next_step, Zs.sn_next_step, Zs.se_next_words, Zs.sn_next_words, Zs.se_next_done, Zs.sn_next_done, Zs.se_time_held, Zs.sn_time_held, Zs.se_time_next, Zs.sn_time_next, Zs.se_time_cells, Zs.sn_time_cells, Zs.se_time_step, Zs.sn_time_step, Zs.se_time_words, Zs.sn_time_words, Zs.se_time_done, Zs.sn_time_done, Zs.se_cells_held, Zs.sn_cells_held, Zs.se_cells_next, Zs.sn_cells_next, Zs.se_cells_time, Zs.sn_cells_time, Zs.se_cells_step, Zs.sn_cells_step, Zs.se_cells_words, Zs.sn_cells_words, Zs.se_cells_done, Zs.sn_cells_done, Zs.se_step_held, Zs.sn_step_held, Zs.se_step_next, Zs.sn_step_next, Zs.se_step_time, Zs.sn_step_time, Zs.se_step_cells, Zs.sn_step_cells, Zs.se_step_words, Zs.sn_step_words, Zs.se_step_done, Zs.sn_step_done, Zs.se_words_held, Zs.sn_words_held, Zs.se_words_next, Zs.sn_words_next, Zs.se_words_time, Zs.sn_words_time, Zs.se_words_cells, Zs.sn_words_cells, Zs.se_words_step, Zs.sn_words_step, Zs.se_words_done, Zs.sn_words_done, Zs.se_done_held, Zs.sn_done_held, Zs.se_done_next, Zs.sn_done_next, Zs.se_done_time, Zs.sn_done_time, Zs.se_done_cells, Zs.sn_done_cells, Zs.se_done_step, Zs.sn_done_step, Zs.se_done_words, Zs.sn_done_words, dOS, dSteps, show decide ((acc.length : Int) < most) = true from decide_eq_true (by omega), Option.isSome_some, Option.isSome_none]
        rw [tst, okE_val, if_pos rfl]
        unfold dSteps
        refine steps_body hlam hs.sm hn hx (by rw [List.length_map]; omega) fun g7 g8 g9 g10 => ?_
        refine ⟨m, by omega, (cstep s x).2, ((cstep s x).1.w.map fun a => wh a (wh x u + 1)).getD (wh x u) + (cstep s x).1.e, acc ++ [(x, wh x u, (cstep s x).1.w.map fun a => wh a (wh x u + 1))], ?_⟩
        have cx : (cstep s x).1.x = x := by
          unfold cstep
          split
          · split
            · rfl
            · split
              · rfl
              · split
                · rfl
                · split <;> rfl
          · rfl
        refine ⟨fg (S.length + 1) g7, fg (S.length + 1) g8, fg (S.length + 1) g9, fg (S.length + 1) g10, hc, by simp; omega, ?_, e2, ?_, ?_⟩
        · rw [e1]
          simp [timed_cons, cx]
        · simp_arith [List.map_append]
        · simp_arith []
  · unfold fuel
    omega
  · exact ⟨st0 p start, t, [], none, none, none, none, ⟨Sm.refl hp, hst⟩, by simp, by simp, rfl, rfl, rfl⟩
end Zc
end
section
set_option Elab.async false
set_option linter.all false
set_option maxRecDepth 100000
set_option autoImplicit false
set_option maxHeartbeats 4000000
namespace Zc
open PySem Z
open L2 (atI)
local macro_rules
  | `(tactic| simp_arith [$ls,*]) => `(tactic| simp -implicitDefEqProofs (disch := omega) only [kB_ap, kS_ap, xD_ap, dSeq_nx, dSeq_rt, dSeq_bk, dSeq_ct, dSeq_ex, dTry_nx, dTry_rt, dTry_bk, dTry_ct, dTry_ex, okE_bd, okS_so, okS_sq, nonD_n, nonD_i, nonD_s, nonD_b, nonD_t, nonD_l, getLast1, getLast1', setLast1, setLast1', takeLast2, zseq_ok, zdrop_ok, zset_ok, zsetF_ok, zifS_ok, ztru_ok, zop_ok, zcb_ok, zcf_ok, zacons_ok, zanil_ok, zc_ok, zv_ok, znil_ok, zret_ok, zcall_ok, zfz_ok, znew_ok, zneg_ok, zos_ok, zon_ok, zsl_ok, zslF_ok, ztup_ok, zlst_ok, zand_ok, zor_ok, znot_ok, zif_ok, zpar_ok, zpar3_ok, zasg_ok, zdnew_ok, znotV_ok, zbrk_ok, zcnt_ok, zopF_ok, zpop0_ok, zdget_ok, zdin_ok, zdnin_ok, zisi_ok, ziA_ok, ziQ_ok, ziL_ok, ziT_ok, zattr_ok, zaset_ok, zmake_ok, zpr_ok, zpr1_ok, zasgP_ok, zlset_ok, zlrg_ok, zkin_ok, zkget_ok, zraise_ok, zfor_ok, zwhile_ok, lamOf_ok, ztrue_ok, zorD_ok, zparA_ok, zdis_ok, ztst_ok, zandV_ok, zorV_ok, zchain_ok, zapp_ok, zmt1_ok, zcnt1_ok, zmeth_ok, zdget2_ok, zact_ok, zlamcall_ok, zfrz_ok, zdput_ok, zlput_ok, ztry_ok, zcatch_nil, zcatch_cons, app2_ok, gN_ap, gT2_ap, gT3_ap, wipeZ, okE_val, okE_exc, okS_nx, okS_rt, okS_bk, okS_ct, okS_ex, okE_ofOpt, rng1_ok, rng2_ok, izs_len, izr_len, List.map_cons, List.map_nil, List.cons_append, List.nil_append, List.replicate, List.length_cons, List.length_nil, List.length_append, List.length_map, List.length_set, List.getElem?_cons_zero, List.getElem?_cons_succ, List.getElem?_nil, List.set_cons_zero, List.set_cons_succ, lstAt, on1, on2, lstOnly, allD_nil, allD_cons, Option.map_some, Option.map_none, Option.bind_some, Option.bind_none, dMul_ok, dMod_ok, dDiv_ok, dEq_i, dEq_s, dEq_b, dNe_i, dNe_s, dNe_b, dEq_ti, dNe_ti, dEq_li, dNe_li, dIn, dNotIn, atI_0, atI_1, atI_2, dMin, dMax, dSum, dAll, dAny, intsOf_map, bolsOf_map, intsOf_nil, intsOf_cons, putS, lim, retN_d, getLast0, setLast0, takeLast0, takeLast1, List.take_succ_cons, List.take_zero, List.take_length, List.take_nil, decide_eq_true_eq, beq_iff_eq, if_true, if_false, Bool.not_true, Bool.not_false, Bool.not_eq_true', Bool.false_eq_true, Bool.true_eq_false, reduceIte, if_pos, if_neg, Nat.add_eq, List.isEmpty_cons, List.isEmpty_nil, Option.some.injEq, decide_true, decide_false, decide_eq_true, decide_eq_false, beq_self_eq_true, BEq.rfl, beq_eq_false_iff_ne, Nat.zero_add, Nat.reduceAdd, Int.toNat_natCast, Bool.not_eq_true, decide_eq_false_iff_not, bne_iff_ne, ne_eq, not_true_eq_false, not_false_eq_true, dAdd_e1, dAdd_e2, dAdd_e3, dSub_e1, dLt_e1, dLt_e2, dLt_e3, dLe_e1, dGt_e1, dGe_e1, dIs_e1, dIs_e2, dIsNot_e1, dIsNot_e2, dIx_e1, dIx_e2, dIx_e3, dTup_e1, dTup_e2, dInt_e1, dInt_e2, dMin2_e1, dMax2_e1, dAbs_e1, truth_e1, truth_e2, truth_e3, truth_e4, truth_e5, truth_e6, truS_e1, truS_e2, res_e1, res_e2, resD_e1, resD_e2, resD_e3, lenS_e1, lenS_e2, lenS_e3, lenS_e4, lenS_e5, itemsQ_e1, itemsQ_e2, itemsL_e1, itemsT_e1, bLst_e1, bLst_e2, dSl_e1, dSl_e2, zipOf_e1, zipOf_e2, enumOf_e1, enumOf_e2, keySl_e1, keyOf_e1, keyOf_e2, setAll_e1, setAll_e2, gNs_e1, bolOf_e1, datOf_e1, lsOf_e1, fCat_e1, fRep_e1, fExt_e1, forget_cons, forget_nil, fg_d, fg_fn, fg_none, fg_box, fg_box', insAt, putA, List.lookup_cons, List.lookup_nil, noExc, Option.isSome_some, Option.isSome_none, and_self, and_true, true_and, eq_self, Int.add_zero, fnOf, scrOf, cntI, frzOf, lputOf, $ls,*])
  | `(tactic| simp_arith [$ls,*] $l:location) => `(tactic| simp -implicitDefEqProofs (disch := omega) only [kB_ap, kS_ap, xD_ap, dSeq_nx, dSeq_rt, dSeq_bk, dSeq_ct, dSeq_ex, dTry_nx, dTry_rt, dTry_bk, dTry_ct, dTry_ex, okE_bd, okS_so, okS_sq, nonD_n, nonD_i, nonD_s, nonD_b, nonD_t, nonD_l, getLast1, getLast1', setLast1, setLast1', takeLast2, zseq_ok, zdrop_ok, zset_ok, zsetF_ok, zifS_ok, ztru_ok, zop_ok, zcb_ok, zcf_ok, zacons_ok, zanil_ok, zc_ok, zv_ok, znil_ok, zret_ok, zcall_ok, zfz_ok, znew_ok, zneg_ok, zos_ok, zon_ok, zsl_ok, zslF_ok, ztup_ok, zlst_ok, zand_ok, zor_ok, znot_ok, zif_ok, zpar_ok, zpar3_ok, zasg_ok, zdnew_ok, znotV_ok, zbrk_ok, zcnt_ok, zopF_ok, zpop0_ok, zdget_ok, zdin_ok, zdnin_ok, zisi_ok, ziA_ok, ziQ_ok, ziL_ok, ziT_ok, zattr_ok, zaset_ok, zmake_ok, zpr_ok, zpr1_ok, zasgP_ok, zlset_ok, zlrg_ok, zkin_ok, zkget_ok, zraise_ok, zfor_ok, zwhile_ok, lamOf_ok, ztrue_ok, zorD_ok, zparA_ok, zdis_ok, ztst_ok, zandV_ok, zorV_ok, zchain_ok, zapp_ok, zmt1_ok, zcnt1_ok, zmeth_ok, zdget2_ok, zact_ok, zlamcall_ok, zfrz_ok, zdput_ok, zlput_ok, ztry_ok, zcatch_nil, zcatch_cons, app2_ok, gN_ap, gT2_ap, gT3_ap, wipeZ, okE_val, okE_exc, okS_nx, okS_rt, okS_bk, okS_ct, okS_ex, okE_ofOpt, rng1_ok, rng2_ok, izs_len, izr_len, List.map_cons, List.map_nil, List.cons_append, List.nil_append, List.replicate, List.length_cons, List.length_nil, List.length_append, List.length_map, List.length_set, List.getElem?_cons_zero, List.getElem?_cons_succ, List.getElem?_nil, List.set_cons_zero, List.set_cons_succ, lstAt, on1, on2, lstOnly, allD_nil, allD_cons, Option.map_some, Option.map_none, Option.bind_some, Option.bind_none, dMul_ok, dMod_ok, dDiv_ok, dEq_i, dEq_s, dEq_b, dNe_i, dNe_s, dNe_b, dEq_ti, dNe_ti, dEq_li, dNe_li, dIn, dNotIn, atI_0, atI_1, atI_2, dMin, dMax, dSum, dAll, dAny, intsOf_map, bolsOf_map, intsOf_nil, intsOf_cons, putS, lim, retN_d, getLast0, setLast0, takeLast0, takeLast1, List.take_succ_cons, List.take_zero, List.take_length, List.take_nil, decide_eq_true_eq, beq_iff_eq, if_true, if_false, Bool.not_true, Bool.not_false, Bool.not_eq_true', Bool.false_eq_true, Bool.true_eq_false, reduceIte, if_pos, if_neg, Nat.add_eq, List.isEmpty_cons, List.isEmpty_nil, Option.some.injEq, decide_true, decide_false, decide_eq_true, decide_eq_false, beq_self_eq_true, BEq.rfl, beq_eq_false_iff_ne, Nat.zero_add, Nat.reduceAdd, Int.toNat_natCast, Bool.not_eq_true, decide_eq_false_iff_not, bne_iff_ne, ne_eq, not_true_eq_false, not_false_eq_true, dAdd_e1, dAdd_e2, dAdd_e3, dSub_e1, dLt_e1, dLt_e2, dLt_e3, dLe_e1, dGt_e1, dGe_e1, dIs_e1, dIs_e2, dIsNot_e1, dIsNot_e2, dIx_e1, dIx_e2, dIx_e3, dTup_e1, dTup_e2, dInt_e1, dInt_e2, dMin2_e1, dMax2_e1, dAbs_e1, truth_e1, truth_e2, truth_e3, truth_e4, truth_e5, truth_e6, truS_e1, truS_e2, res_e1, res_e2, resD_e1, resD_e2, resD_e3, lenS_e1, lenS_e2, lenS_e3, lenS_e4, lenS_e5, itemsQ_e1, itemsQ_e2, itemsL_e1, itemsT_e1, bLst_e1, bLst_e2, dSl_e1, dSl_e2, zipOf_e1, zipOf_e2, enumOf_e1, enumOf_e2, keySl_e1, keyOf_e1, keyOf_e2, setAll_e1, setAll_e2, gNs_e1, bolOf_e1, datOf_e1, lsOf_e1, fCat_e1, fRep_e1, fExt_e1, forget_cons, forget_nil, fg_d, fg_fn, fg_none, fg_box, fg_box', insAt, putA, List.lookup_cons, List.lookup_nil, noExc, Option.isSome_some, Option.isSome_none, and_self, and_true, true_and, eq_self, Int.add_zero, fnOf, scrOf, cntI, frzOf, lputOf, $ls,*] $l)
/-! ### unlike numbers -/
theorem dedup_len : ∀ (l acc : List Int), acc.Nodup → (l.foldl PyProof.Rows.step_dedup acc).length ≤ acc.length + l.length ∧ ((l.foldl PyProof.Rows.step_dedup acc).length = acc.length + l.length ↔ (acc ++ l).Nodup)
  | [], acc, h => by simp [h]
  | v :: l, acc, h => by
    rw [List.foldl_cons]
    unfold PyProof.Rows.step_dedup
    by_cases q : acc.any (· == v) = true
    · rw [if_pos q]
      have ih := (dedup_len l acc h).1
      rw [List.length_cons]
      unfold PyProof.Rows.step_dedup at ih
      refine ⟨by omega, ⟨fun z => by omega, fun z => ?_⟩⟩
      have hv : v ∈ acc := by
        obtain ⟨y, hy, e⟩ := List.any_eq_true.mp q
        rw [beq_iff_eq] at e
        exact e ▸ hy
      exact absurd rfl ((List.nodup_append.mp z).2.2 v hv v List.mem_cons_self)
    · rw [if_neg q]
      have hv : v ∉ acc := fun z => q (List.any_eq_true.mpr ⟨v, z, by simp⟩)
      have h2 : (acc ++ [v]).Nodup := List.nodup_append.mpr ⟨h, by simp, fun a ha b hb => by
        have : b = v := by simpa using hb
        subst this
        rintro rfl
        exact hv ha⟩
      have ih := dedup_len l (acc ++ [v]) h2
      unfold PyProof.Rows.step_dedup at ih
      rw [List.length_append, List.length_singleton, List.append_assoc, List.singleton_append] at ih
      rw [List.length_cons]
      refine ⟨by omega, ?_⟩
      rw [← ih.2]
      constructor <;> intro <;> omega
theorem range_getD {ns : List Int} : (List.range ns.length).map (fun i => ns.getD i 0) = ns := by
  refine List.ext_getElem? fun i => ?_
  rw [List.getElem?_map]
  by_cases h : i < ns.length
  · rw [List.getElem?_range h, List.getElem?_eq_getElem h]
    simp [List.getD, h]
  · rw [List.getElem?_eq_none (by simpa using h), List.getElem?_eq_none (by omega)]
    rfl
theorem ddup_len {ns : List Int} : ((ddup ns).length = ns.length) ↔ ns.Nodup := by
  have := (dedup_len ns [] .nil).2
  unfold ddup PyProof.Rows.firstMet
  rw [range_getD]
  simpa using this
theorem ddup_le {ns : List Int} : (ddup ns).length ≤ ns.length := by
  have := (dedup_len ns [] .nil).1
  unfold ddup PyProof.Rows.firstMet
  rw [range_getD]
  simpa using this
/-! ### names as they rise -/
theorem up_srt {l : List Str} (h : l.Pairwise slt) : ssort l = l := (ssort_uniq (.refl _) (h.imp fun {a b} z => sle_iff.mpr (List.lt_asymm z))).symm
theorem keysS_kv {α : Type} {f : α → PyData} : ∀ {p : List (Str × α)}, keysS ((kv f p).map (·.1)) = some (p.map (·.1))
  | [] => rfl
  | c :: p => by
    have ih := keysS_kv (f := f) (p := p)
    unfold kv at ih ⊢
    rw [List.map_cons, List.map_cons]
    show (keysS _).map _ = _
    rw [ih]
    rfl
theorem keysI_kv {α : Type} {f : α → PyData} {p : List (Str × α)} (h : p ≠ []) : keysI ((kv f p).map (·.1)) = none := by
  cases p with
  | nil => exact absurd rfl h
  | cons c p => rfl
def wordsOf (c : Prog) : List (Str × Int) := c.filterMap fun x => match x.2 with
  | .w n => some (x.1, n)
  | .o _ _ => none
theorem words_eq : ∀ {c : Prog}, (c.filter fun x => isW x.2).map (fun x => PyData.tuple [.str x.1, dCell x.2]) = (wordsOf c).map dSpot
  | [] => rfl
  | (x, .w n) :: c => by
    rw [List.filter_cons_of_pos rfl, List.map_cons, words_eq]
    rfl
  | (x, .o k as) :: c => by
    rw [List.filter_cons_of_neg (by simp [isW]), words_eq]
    rfl
theorem isi_cell {c : Cell} : isOf "int" (match dCell c with | .int _ => "int" | _ => "tuple") = isW c := by cases c <;> rfl
theorem mwords_ok {R : Sto} {p : Prog} {s : Ct} {t : Int} (hs : Sm p s.c) (hne : p ≠ []) : F_Machine_words [.box R.length] (R ++ [mB s t]) = .val (.d (dLay (wordsOf s.c))) (R ++ [mB s t]) := by
  have hc : s.c ≠ [] := fun z => hne (by
    have := hs.n
    rw [z] at this
    exact List.map_eq_nil_iff.mp this.symm)
  refine OkE.val (ok_def rfl ?_)
  have hl := hs.wf.len
  unfold z_Machine_words mB mBox
  simp_arith []
  refine lc_G s.c (fun c => .str c.1) (fun c => isW c.2) (fun c => .tuple [.str c.1, dCell c.2]) ?_ (by omega) (fun c hc => ?_) ?_
  · simp_arith [Zs.se_put_add, Zs.sn_put_add, Zs.se_put_sub, Zs.sn_put_sub, Zs.se_put_save, Zs.sn_put_save, Zs.se_put_less, Zs.sn_put_less, Zs.se_put_stop, Zs.sn_put_stop, Zs.se_add_put, Zs.sn_add_put, Zs.se_add_sub, Zs.sn_add_sub, Zs.se_add_save, Zs.sn_add_save, Zs.se_add_less, Zs.sn_add_less, Zs.se_add_stop, Zs.sn_add_stop, Zs.se_sub_put, Zs.sn_sub_put, Zs.se_sub_add, Zs.sn_sub_add, Zs.se_sub_save, Zs.sn_sub_save, Zs.se_sub_less, Zs.sn_sub_less, Zs.se_sub_stop, Zs.sn_sub_stop, Zs.se_save_put, Zs.sn_save_put, Zs.se_save_add, Zs.sn_save_add, Zs.se_save_sub, Zs.sn_save_sub, Zs.se_save_less, Zs.sn_save_less, Zs.se_save_stop, Zs.sn_save_stop, Zs.se_less_put, Zs.sn_less_put, Zs.se_less_add, Zs.sn_less_add, Zs.se_less_sub, Zs.sn_less_sub, Zs.se_less_save, Zs.sn_less_save, Zs.se_less_stop, Zs.sn_less_stop, Zs.se_stop_put, Zs.sn_stop_put, Zs.se_stop_add, Zs.sn_stop_add, Zs.se_stop_sub, Zs.sn_stop_sub, Zs.se_stop_save, Zs.sn_stop_save, Zs.se_stop_less, Zs.sn_stop_less, Zs.se_held_next, Zs.sn_held_next, Zs.se_held_time, Zs.sn_held_time, Zs.se_held_cells, Zs.sn_held_cells, Zs.se_held_step, Zs.sn_held_step, Zs.se_held_words, Zs.sn_held_words, Zs.se_held_done, Zs.sn_held_done, Zs.se_next_held, Zs.sn_next_held, Zs.se_next_time, Zs.sn_next_time, Zs.se_next_cells, Zs.sn_next_cells, Zs.se_next_step, Zs.sn_next_step, Zs.se_next_words, Zs.sn_next_words, Zs.se_next_done, Zs.sn_next_done, Zs.se_time_held, Zs.sn_time_held, Zs.se_time_next, Zs.sn_time_next, Zs.se_time_cells, Zs.sn_time_cells, Zs.se_time_step, Zs.sn_time_step, Zs.se_time_words, Zs.sn_time_words, Zs.se_time_done, Zs.sn_time_done, Zs.se_cells_held, Zs.sn_cells_held, Zs.se_cells_next, Zs.sn_cells_next, Zs.se_cells_time, Zs.sn_cells_time, Zs.se_cells_step, Zs.sn_cells_step, Zs.se_cells_words, Zs.sn_cells_words, Zs.se_cells_done, Zs.sn_cells_done, Zs.se_step_held, Zs.sn_step_held, Zs.se_step_next, Zs.sn_step_next, Zs.se_step_time, Zs.sn_step_time, Zs.se_step_cells, Zs.sn_step_cells, Zs.se_step_words, Zs.sn_step_words, Zs.se_step_done, Zs.sn_step_done, Zs.se_words_held, Zs.sn_words_held, Zs.se_words_next, Zs.sn_words_next, Zs.se_words_time, Zs.sn_words_time, Zs.se_words_cells, Zs.sn_words_cells, Zs.se_words_step, Zs.sn_words_step, Zs.se_words_done, Zs.sn_words_done, Zs.se_done_held, Zs.sn_done_held, Zs.se_done_next, Zs.sn_done_next, Zs.se_done_time, Zs.sn_done_time, Zs.se_done_cells, Zs.sn_done_cells, Zs.se_done_step, Zs.sn_done_step, Zs.se_done_words, Zs.sn_done_words, srtS, keysI_kv hc, keysS_kv, up_srt hs.wf.up, List.map_map]
    rfl
  · have hk := lk_of_mem hs.wf.nd (show (c.1, c.2) ∈ s.c from hc)
    refine ⟨_, rfl, ?_, fun _ => ?_⟩
    · obtain ⟨y, c⟩ := c
      cases c with
      | w n => simp_arith [Zs.se_put_add, Zs.sn_put_add, Zs.se_put_sub, Zs.sn_put_sub, Zs.se_put_save, Zs.sn_put_save, Zs.se_put_less, Zs.sn_put_less, Zs.se_put_stop, Zs.sn_put_stop, Zs.se_add_put, Zs.sn_add_put, Zs.se_add_sub, Zs.sn_add_sub, Zs.se_add_save, Zs.sn_add_save, Zs.se_add_less, Zs.sn_add_less, Zs.se_add_stop, Zs.sn_add_stop, Zs.se_sub_put, Zs.sn_sub_put, Zs.se_sub_add, Zs.sn_sub_add, Zs.se_sub_save, Zs.sn_sub_save, Zs.se_sub_less, Zs.sn_sub_less, Zs.se_sub_stop, Zs.sn_sub_stop, Zs.se_save_put, Zs.sn_save_put, Zs.se_save_add, Zs.sn_save_add, Zs.se_save_sub, Zs.sn_save_sub, Zs.se_save_less, Zs.sn_save_less, Zs.se_save_stop, Zs.sn_save_stop, Zs.se_less_put, Zs.sn_less_put, Zs.se_less_add, Zs.sn_less_add, Zs.se_less_sub, Zs.sn_less_sub, Zs.se_less_save, Zs.sn_less_save, Zs.se_less_stop, Zs.sn_less_stop, Zs.se_stop_put, Zs.sn_stop_put, Zs.se_stop_add, Zs.sn_stop_add, Zs.se_stop_sub, Zs.sn_stop_sub, Zs.se_stop_save, Zs.sn_stop_save, Zs.se_stop_less, Zs.sn_stop_less, Zs.se_held_next, Zs.sn_held_next, Zs.se_held_time, Zs.sn_held_time, Zs.se_held_cells, Zs.sn_held_cells, Zs.se_held_step, Zs.sn_held_step, Zs.se_held_words, Zs.sn_held_words, Zs.se_held_done, Zs.sn_held_done, Zs.se_next_held, Zs.sn_next_held, Zs.se_next_time, Zs.sn_next_time, Zs.se_next_cells, Zs.sn_next_cells, Zs.se_next_step, Zs.sn_next_step, Zs.se_next_words, Zs.sn_next_words, Zs.se_next_done, Zs.sn_next_done, Zs.se_time_held, Zs.sn_time_held, Zs.se_time_next, Zs.sn_time_next, Zs.se_time_cells, Zs.sn_time_cells, Zs.se_time_step, Zs.sn_time_step, Zs.se_time_words, Zs.sn_time_words, Zs.se_time_done, Zs.sn_time_done, Zs.se_cells_held, Zs.sn_cells_held, Zs.se_cells_next, Zs.sn_cells_next, Zs.se_cells_time, Zs.sn_cells_time, Zs.se_cells_step, Zs.sn_cells_step, Zs.se_cells_words, Zs.sn_cells_words, Zs.se_cells_done, Zs.sn_cells_done, Zs.se_step_held, Zs.sn_step_held, Zs.se_step_next, Zs.sn_step_next, Zs.se_step_time, Zs.sn_step_time, Zs.se_step_cells, Zs.sn_step_cells, Zs.se_step_words, Zs.sn_step_words, Zs.se_step_done, Zs.sn_step_done, Zs.se_words_held, Zs.sn_words_held, Zs.se_words_next, Zs.sn_words_next, Zs.se_words_time, Zs.sn_words_time, Zs.se_words_cells, Zs.sn_words_cells, Zs.se_words_step, Zs.sn_words_step, Zs.se_words_done, Zs.sn_words_done, Zs.se_done_held, Zs.sn_done_held, Zs.se_done_next, Zs.sn_done_next, Zs.se_done_time, Zs.sn_done_time, Zs.se_done_cells, Zs.sn_done_cells, Zs.se_done_step, Zs.sn_done_step, Zs.se_done_words, Zs.sn_done_words, val_kv, hk, dCell, tyN, show isOf "int" "int" = true from by decide, isW]
      | o k as => simp_arith [Zs.se_put_add, Zs.sn_put_add, Zs.se_put_sub, Zs.sn_put_sub, Zs.se_put_save, Zs.sn_put_save, Zs.se_put_less, Zs.sn_put_less, Zs.se_put_stop, Zs.sn_put_stop, Zs.se_add_put, Zs.sn_add_put, Zs.se_add_sub, Zs.sn_add_sub, Zs.se_add_save, Zs.sn_add_save, Zs.se_add_less, Zs.sn_add_less, Zs.se_add_stop, Zs.sn_add_stop, Zs.se_sub_put, Zs.sn_sub_put, Zs.se_sub_add, Zs.sn_sub_add, Zs.se_sub_save, Zs.sn_sub_save, Zs.se_sub_less, Zs.sn_sub_less, Zs.se_sub_stop, Zs.sn_sub_stop, Zs.se_save_put, Zs.sn_save_put, Zs.se_save_add, Zs.sn_save_add, Zs.se_save_sub, Zs.sn_save_sub, Zs.se_save_less, Zs.sn_save_less, Zs.se_save_stop, Zs.sn_save_stop, Zs.se_less_put, Zs.sn_less_put, Zs.se_less_add, Zs.sn_less_add, Zs.se_less_sub, Zs.sn_less_sub, Zs.se_less_save, Zs.sn_less_save, Zs.se_less_stop, Zs.sn_less_stop, Zs.se_stop_put, Zs.sn_stop_put, Zs.se_stop_add, Zs.sn_stop_add, Zs.se_stop_sub, Zs.sn_stop_sub, Zs.se_stop_save, Zs.sn_stop_save, Zs.se_stop_less, Zs.sn_stop_less, Zs.se_held_next, Zs.sn_held_next, Zs.se_held_time, Zs.sn_held_time, Zs.se_held_cells, Zs.sn_held_cells, Zs.se_held_step, Zs.sn_held_step, Zs.se_held_words, Zs.sn_held_words, Zs.se_held_done, Zs.sn_held_done, Zs.se_next_held, Zs.sn_next_held, Zs.se_next_time, Zs.sn_next_time, Zs.se_next_cells, Zs.sn_next_cells, Zs.se_next_step, Zs.sn_next_step, Zs.se_next_words, Zs.sn_next_words, Zs.se_next_done, Zs.sn_next_done, Zs.se_time_held, Zs.sn_time_held, Zs.se_time_next, Zs.sn_time_next, Zs.se_time_cells, Zs.sn_time_cells, Zs.se_time_step, Zs.sn_time_step, Zs.se_time_words, Zs.sn_time_words, Zs.se_time_done, Zs.sn_time_done, Zs.se_cells_held, Zs.sn_cells_held, Zs.se_cells_next, Zs.sn_cells_next, Zs.se_cells_time, Zs.sn_cells_time, Zs.se_cells_step, Zs.sn_cells_step, Zs.se_cells_words, Zs.sn_cells_words, Zs.se_cells_done, Zs.sn_cells_done, Zs.se_step_held, Zs.sn_step_held, Zs.se_step_next, Zs.sn_step_next, Zs.se_step_time, Zs.sn_step_time, Zs.se_step_cells, Zs.sn_step_cells, Zs.se_step_words, Zs.sn_step_words, Zs.se_step_done, Zs.sn_step_done, Zs.se_words_held, Zs.sn_words_held, Zs.se_words_next, Zs.sn_words_next, Zs.se_words_time, Zs.sn_words_time, Zs.se_words_cells, Zs.sn_words_cells, Zs.se_words_step, Zs.sn_words_step, Zs.se_words_done, Zs.sn_words_done, Zs.se_done_held, Zs.sn_done_held, Zs.se_done_next, Zs.sn_done_next, Zs.se_done_time, Zs.sn_done_time, Zs.se_done_cells, Zs.sn_done_cells, Zs.se_done_step, Zs.sn_done_step, Zs.se_done_words, Zs.sn_done_words, val_kv, hk, dCell, tyN, show isOf "int" "tuple" = false from by decide, isW]
    · simp_arith [Zs.se_put_add, Zs.sn_put_add, Zs.se_put_sub, Zs.sn_put_sub, Zs.se_put_save, Zs.sn_put_save, Zs.se_put_less, Zs.sn_put_less, Zs.se_put_stop, Zs.sn_put_stop, Zs.se_add_put, Zs.sn_add_put, Zs.se_add_sub, Zs.sn_add_sub, Zs.se_add_save, Zs.sn_add_save, Zs.se_add_less, Zs.sn_add_less, Zs.se_add_stop, Zs.sn_add_stop, Zs.se_sub_put, Zs.sn_sub_put, Zs.se_sub_add, Zs.sn_sub_add, Zs.se_sub_save, Zs.sn_sub_save, Zs.se_sub_less, Zs.sn_sub_less, Zs.se_sub_stop, Zs.sn_sub_stop, Zs.se_save_put, Zs.sn_save_put, Zs.se_save_add, Zs.sn_save_add, Zs.se_save_sub, Zs.sn_save_sub, Zs.se_save_less, Zs.sn_save_less, Zs.se_save_stop, Zs.sn_save_stop, Zs.se_less_put, Zs.sn_less_put, Zs.se_less_add, Zs.sn_less_add, Zs.se_less_sub, Zs.sn_less_sub, Zs.se_less_save, Zs.sn_less_save, Zs.se_less_stop, Zs.sn_less_stop, Zs.se_stop_put, Zs.sn_stop_put, Zs.se_stop_add, Zs.sn_stop_add, Zs.se_stop_sub, Zs.sn_stop_sub, Zs.se_stop_save, Zs.sn_stop_save, Zs.se_stop_less, Zs.sn_stop_less, Zs.se_held_next, Zs.sn_held_next, Zs.se_held_time, Zs.sn_held_time, Zs.se_held_cells, Zs.sn_held_cells, Zs.se_held_step, Zs.sn_held_step, Zs.se_held_words, Zs.sn_held_words, Zs.se_held_done, Zs.sn_held_done, Zs.se_next_held, Zs.sn_next_held, Zs.se_next_time, Zs.sn_next_time, Zs.se_next_cells, Zs.sn_next_cells, Zs.se_next_step, Zs.sn_next_step, Zs.se_next_words, Zs.sn_next_words, Zs.se_next_done, Zs.sn_next_done, Zs.se_time_held, Zs.sn_time_held, Zs.se_time_next, Zs.sn_time_next, Zs.se_time_cells, Zs.sn_time_cells, Zs.se_time_step, Zs.sn_time_step, Zs.se_time_words, Zs.sn_time_words, Zs.se_time_done, Zs.sn_time_done, Zs.se_cells_held, Zs.sn_cells_held, Zs.se_cells_next, Zs.sn_cells_next, Zs.se_cells_time, Zs.sn_cells_time, Zs.se_cells_step, Zs.sn_cells_step, Zs.se_cells_words, Zs.sn_cells_words, Zs.se_cells_done, Zs.sn_cells_done, Zs.se_step_held, Zs.sn_step_held, Zs.se_step_next, Zs.sn_step_next, Zs.se_step_time, Zs.sn_step_time, Zs.se_step_cells, Zs.sn_step_cells, Zs.se_step_words, Zs.sn_step_words, Zs.se_step_done, Zs.sn_step_done, Zs.se_words_held, Zs.sn_words_held, Zs.se_words_next, Zs.sn_words_next, Zs.se_words_time, Zs.sn_words_time, Zs.se_words_cells, Zs.sn_words_cells, Zs.se_words_step, Zs.sn_words_step, Zs.se_words_done, Zs.sn_words_done, Zs.se_done_held, Zs.sn_done_held, Zs.se_done_next, Zs.sn_done_next, Zs.se_done_time, Zs.sn_done_time, Zs.se_done_cells, Zs.sn_done_cells, Zs.se_done_step, Zs.sn_done_step, Zs.se_done_words, Zs.sn_done_words, val_kv, hk]
  · simp_arith [words_eq]
    rfl
end Zc
end
section
set_option Elab.async false
set_option linter.all false
set_option maxRecDepth 100000
set_option autoImplicit false
set_option maxHeartbeats 4000000
namespace Zc
open PySem Z
open L2 (atI)
local macro_rules
  | `(tactic| simp_arith [$ls,*]) => `(tactic| simp -implicitDefEqProofs (disch := omega) only [kB_ap, kS_ap, xD_ap, dSeq_nx, dSeq_rt, dSeq_bk, dSeq_ct, dSeq_ex, dTry_nx, dTry_rt, dTry_bk, dTry_ct, dTry_ex, okE_bd, okS_so, okS_sq, nonD_n, nonD_i, nonD_s, nonD_b, nonD_t, nonD_l, getLast1, getLast1', setLast1, setLast1', takeLast2, zseq_ok, zdrop_ok, zset_ok, zsetF_ok, zifS_ok, ztru_ok, zop_ok, zcb_ok, zcf_ok, zacons_ok, zanil_ok, zc_ok, zv_ok, znil_ok, zret_ok, zcall_ok, zfz_ok, znew_ok, zneg_ok, zos_ok, zon_ok, zsl_ok, zslF_ok, ztup_ok, zlst_ok, zand_ok, zor_ok, znot_ok, zif_ok, zpar_ok, zpar3_ok, zasg_ok, zdnew_ok, znotV_ok, zbrk_ok, zcnt_ok, zopF_ok, zpop0_ok, zdget_ok, zdin_ok, zdnin_ok, zisi_ok, ziA_ok, ziQ_ok, ziL_ok, ziT_ok, zattr_ok, zaset_ok, zmake_ok, zpr_ok, zpr1_ok, zasgP_ok, zlset_ok, zlrg_ok, zkin_ok, zkget_ok, zraise_ok, zfor_ok, zwhile_ok, lamOf_ok, ztrue_ok, zorD_ok, zparA_ok, zdis_ok, ztst_ok, zandV_ok, zorV_ok, zchain_ok, zapp_ok, zmt1_ok, zcnt1_ok, zmeth_ok, zdget2_ok, zact_ok, zlamcall_ok, zfrz_ok, zdput_ok, zlput_ok, ztry_ok, zcatch_nil, zcatch_cons, app2_ok, gN_ap, gT2_ap, gT3_ap, wipeZ, okE_val, okE_exc, okS_nx, okS_rt, okS_bk, okS_ct, okS_ex, okE_ofOpt, rng1_ok, rng2_ok, izs_len, izr_len, List.map_cons, List.map_nil, List.cons_append, List.nil_append, List.replicate, List.length_cons, List.length_nil, List.length_append, List.length_map, List.length_set, List.getElem?_cons_zero, List.getElem?_cons_succ, List.getElem?_nil, List.set_cons_zero, List.set_cons_succ, lstAt, on1, on2, lstOnly, allD_nil, allD_cons, Option.map_some, Option.map_none, Option.bind_some, Option.bind_none, dMul_ok, dMod_ok, dDiv_ok, dEq_i, dEq_s, dEq_b, dNe_i, dNe_s, dNe_b, dEq_ti, dNe_ti, dEq_li, dNe_li, dIn, dNotIn, atI_0, atI_1, atI_2, dMin, dMax, dSum, dAll, dAny, intsOf_map, bolsOf_map, intsOf_nil, intsOf_cons, putS, lim, retN_d, getLast0, setLast0, takeLast0, takeLast1, List.take_succ_cons, List.take_zero, List.take_length, List.take_nil, decide_eq_true_eq, beq_iff_eq, if_true, if_false, Bool.not_true, Bool.not_false, Bool.not_eq_true', Bool.false_eq_true, Bool.true_eq_false, reduceIte, if_pos, if_neg, Nat.add_eq, List.isEmpty_cons, List.isEmpty_nil, Option.some.injEq, decide_true, decide_false, decide_eq_true, decide_eq_false, beq_self_eq_true, BEq.rfl, beq_eq_false_iff_ne, Nat.zero_add, Nat.reduceAdd, Int.toNat_natCast, Bool.not_eq_true, decide_eq_false_iff_not, bne_iff_ne, ne_eq, not_true_eq_false, not_false_eq_true, dAdd_e1, dAdd_e2, dAdd_e3, dSub_e1, dLt_e1, dLt_e2, dLt_e3, dLe_e1, dGt_e1, dGe_e1, dIs_e1, dIs_e2, dIsNot_e1, dIsNot_e2, dIx_e1, dIx_e2, dIx_e3, dTup_e1, dTup_e2, dInt_e1, dInt_e2, dMin2_e1, dMax2_e1, dAbs_e1, truth_e1, truth_e2, truth_e3, truth_e4, truth_e5, truth_e6, truS_e1, truS_e2, res_e1, res_e2, resD_e1, resD_e2, resD_e3, lenS_e1, lenS_e2, lenS_e3, lenS_e4, lenS_e5, itemsQ_e1, itemsQ_e2, itemsL_e1, itemsT_e1, bLst_e1, bLst_e2, dSl_e1, dSl_e2, zipOf_e1, zipOf_e2, enumOf_e1, enumOf_e2, keySl_e1, keyOf_e1, keyOf_e2, setAll_e1, setAll_e2, gNs_e1, bolOf_e1, datOf_e1, lsOf_e1, fCat_e1, fRep_e1, fExt_e1, forget_cons, forget_nil, fg_d, fg_fn, fg_none, fg_box, fg_box', insAt, putA, List.lookup_cons, List.lookup_nil, noExc, Option.isSome_some, Option.isSome_none, and_self, and_true, true_and, eq_self, Int.add_zero, fnOf, scrOf, cntI, frzOf, lputOf, $ls,*])
  | `(tactic| simp_arith [$ls,*] $l:location) => `(tactic| simp -implicitDefEqProofs (disch := omega) only [kB_ap, kS_ap, xD_ap, dSeq_nx, dSeq_rt, dSeq_bk, dSeq_ct, dSeq_ex, dTry_nx, dTry_rt, dTry_bk, dTry_ct, dTry_ex, okE_bd, okS_so, okS_sq, nonD_n, nonD_i, nonD_s, nonD_b, nonD_t, nonD_l, getLast1, getLast1', setLast1, setLast1', takeLast2, zseq_ok, zdrop_ok, zset_ok, zsetF_ok, zifS_ok, ztru_ok, zop_ok, zcb_ok, zcf_ok, zacons_ok, zanil_ok, zc_ok, zv_ok, znil_ok, zret_ok, zcall_ok, zfz_ok, znew_ok, zneg_ok, zos_ok, zon_ok, zsl_ok, zslF_ok, ztup_ok, zlst_ok, zand_ok, zor_ok, znot_ok, zif_ok, zpar_ok, zpar3_ok, zasg_ok, zdnew_ok, znotV_ok, zbrk_ok, zcnt_ok, zopF_ok, zpop0_ok, zdget_ok, zdin_ok, zdnin_ok, zisi_ok, ziA_ok, ziQ_ok, ziL_ok, ziT_ok, zattr_ok, zaset_ok, zmake_ok, zpr_ok, zpr1_ok, zasgP_ok, zlset_ok, zlrg_ok, zkin_ok, zkget_ok, zraise_ok, zfor_ok, zwhile_ok, lamOf_ok, ztrue_ok, zorD_ok, zparA_ok, zdis_ok, ztst_ok, zandV_ok, zorV_ok, zchain_ok, zapp_ok, zmt1_ok, zcnt1_ok, zmeth_ok, zdget2_ok, zact_ok, zlamcall_ok, zfrz_ok, zdput_ok, zlput_ok, ztry_ok, zcatch_nil, zcatch_cons, app2_ok, gN_ap, gT2_ap, gT3_ap, wipeZ, okE_val, okE_exc, okS_nx, okS_rt, okS_bk, okS_ct, okS_ex, okE_ofOpt, rng1_ok, rng2_ok, izs_len, izr_len, List.map_cons, List.map_nil, List.cons_append, List.nil_append, List.replicate, List.length_cons, List.length_nil, List.length_append, List.length_map, List.length_set, List.getElem?_cons_zero, List.getElem?_cons_succ, List.getElem?_nil, List.set_cons_zero, List.set_cons_succ, lstAt, on1, on2, lstOnly, allD_nil, allD_cons, Option.map_some, Option.map_none, Option.bind_some, Option.bind_none, dMul_ok, dMod_ok, dDiv_ok, dEq_i, dEq_s, dEq_b, dNe_i, dNe_s, dNe_b, dEq_ti, dNe_ti, dEq_li, dNe_li, dIn, dNotIn, atI_0, atI_1, atI_2, dMin, dMax, dSum, dAll, dAny, intsOf_map, bolsOf_map, intsOf_nil, intsOf_cons, putS, lim, retN_d, getLast0, setLast0, takeLast0, takeLast1, List.take_succ_cons, List.take_zero, List.take_length, List.take_nil, decide_eq_true_eq, beq_iff_eq, if_true, if_false, Bool.not_true, Bool.not_false, Bool.not_eq_true', Bool.false_eq_true, Bool.true_eq_false, reduceIte, if_pos, if_neg, Nat.add_eq, List.isEmpty_cons, List.isEmpty_nil, Option.some.injEq, decide_true, decide_false, decide_eq_true, decide_eq_false, beq_self_eq_true, BEq.rfl, beq_eq_false_iff_ne, Nat.zero_add, Nat.reduceAdd, Int.toNat_natCast, Bool.not_eq_true, decide_eq_false_iff_not, bne_iff_ne, ne_eq, not_true_eq_false, not_false_eq_true, dAdd_e1, dAdd_e2, dAdd_e3, dSub_e1, dLt_e1, dLt_e2, dLt_e3, dLe_e1, dGt_e1, dGe_e1, dIs_e1, dIs_e2, dIsNot_e1, dIsNot_e2, dIx_e1, dIx_e2, dIx_e3, dTup_e1, dTup_e2, dInt_e1, dInt_e2, dMin2_e1, dMax2_e1, dAbs_e1, truth_e1, truth_e2, truth_e3, truth_e4, truth_e5, truth_e6, truS_e1, truS_e2, res_e1, res_e2, resD_e1, resD_e2, resD_e3, lenS_e1, lenS_e2, lenS_e3, lenS_e4, lenS_e5, itemsQ_e1, itemsQ_e2, itemsL_e1, itemsT_e1, bLst_e1, bLst_e2, dSl_e1, dSl_e2, zipOf_e1, zipOf_e2, enumOf_e1, enumOf_e2, keySl_e1, keyOf_e1, keyOf_e2, setAll_e1, setAll_e2, gNs_e1, bolOf_e1, datOf_e1, lsOf_e1, fCat_e1, fRep_e1, fExt_e1, forget_cons, forget_nil, fg_d, fg_fn, fg_none, fg_box, fg_box', insAt, putA, List.lookup_cons, List.lookup_nil, noExc, Option.isSome_some, Option.isSome_none, and_self, and_true, true_and, eq_self, Int.add_zero, fnOf, scrOf, cntI, frzOf, lputOf, $ls,*] $l)
/-! ### layings -/
structure OkL (n : Int) (p : Prog) (l : Lay) : Prop where
  nm : l.map (·.1) = p.map (·.1)
  rg : ∀ x ∈ l, 0 ≤ x.2 ∧ x.2 < n
  nd : (l.map (·.2)).Nodup
theorem dStrs_len {l : List Str} : (dStrs l).length = l.length := by simp [dStrs]
theorem zip_lay {l : Lay} : zipD (dStrs (l.map (·.1))) (l.map dSpot) = l.map fun c => .tuple [.str c.1, dSpot c] := by
  unfold zipD dStrs
  rw [List.map_map, List.zipWith_map, List.zipWith_self]
  rfl
theorem is_laying_ok {n : Int} {hd : PyData} {p : Prog} {l : Lay} {S : Sto} (hl : p.length ≤ 60) (h : OkL n p l) : F_is_laying [.d (.tuple [.int n, hd]), .d (dProg p), .d (dLay l)] S = .val (.d (.bool true)) S := by
  have ln : l.length = p.length := by simpa using congrArg List.length h.nm
  refine OkE.val (ok_def rfl ?_)
  unfold z_is_laying
  have e := names_ok (p := p) (S := S) (by omega)
  have nm : nms p = l.map (·.1) := h.nm.symm
  rw [nm] at e

  simp_arith [dLay, tyN, show isOf "tuple" "tuple" = true from by decide, e, ln, dStrs_len, zip_lay]
  refine ok_for (fun _ Γ S1 => S1 = S ∧ ∃ (g3 g4 g5 g6 : Option Sl), Γ = [some (.d (.tuple [.int n, hd])), some (.d (dProg p)), some (.d (.tuple (l.map dSpot))), g3, g4, g5, g6]) ⟨rfl, _, _, _, _, rfl⟩ ?_ ?_
  · rintro i d Γ S1 hd ⟨rfl, g3, g4, g5, g6, rfl⟩
    obtain ⟨c, hc, rfl⟩ := List.mem_map.mp (List.mem_of_getElem? hd)
    refine ⟨_, rfl, ?_⟩
    have rg := h.rg c hc
    unfold b1_is_laying dSpot
    simp_arith [tyN, show isOf "tuple" "tuple" = true from by decide, show isOf "str" "str" = true from by decide, show isOf "int" "int" = true from by decide, show isOf "bool" "int" = false from by decide, and_self]
    exact ⟨_, _, _, _, rfl⟩
  · rintro Γ S1 ⟨rfl, g3, g4, g5, g6, rfl⟩
    have e2 := zlc_eqT (zi := ziQ (zv 2)) (g := gT2 (gN 3) (gN 6)) (ze := zv 6) (vs := [3, 6]) (Γ := [some (.d (.tuple [.int n, hd])), some (.d (dProg p)), some (.d (.tuple (l.map dSpot))), g3, g4, g5, g6]) (S := S1) l dSpot (fun c => .int c.2) rfl (by omega) (fun c _ => ⟨_, rfl, rfl⟩)
    have e3 : (l.map fun c => PyData.int c.2) = (l.map (·.2)).map .int := by rw [List.map_map]; rfl
    rw [e3] at e2
    have e4 : (ddup (l.map (·.2))).length = l.length := by
      have := ddup_len.mpr h.nd
      rwa [List.length_map] at this
    simp_arith [e2, e4, and_self]
def spot (l : Lay) (x : Str) : Int := (lk l x).getD 0
theorem spot_eq {l : Lay} {x : Str} (h : x ∈ l.map (·.1)) : lk l x = some (spot l x) := by
  obtain ⟨v, e⟩ := lk_some h
  unfold spot
  rw [e]
  rfl
theorem OkL.sp {n : Int} {p : Prog} {l : Lay} (h : OkL n p l) {x : Str} (hx : x ∈ p.map (·.1)) : 0 ≤ spot l x ∧ spot l x < n := by
  rw [← h.nm] at hx
  exact h.rg _ (lk_mem (spot_eq hx))
def whR (n : Int) (hs : List Int) (l : Lay) (x : Str) (t : Int) : Int := rt n hs (spot l x) t
abbrev tr (p : Prog) (x : Str) (m : Nat) : List Ev × Ct := trace m (st0 p x)
def dRun (wh : Str → Int → Int) (p : Prog) (x : Str) (t : Int) (m : Nat) : PyData :=
  .tuple [dSteps (timed wh t (tr p x m).1).1, .bool (tr p x m).2.nx.isNone, .int (timed wh t (tr p x m).1).2, .int (tr p x m).2.h, dLay (wordsOf (tr p x m).2.c)]
theorem nonD_os {o : Option Str} : nonD (dOS o) = o.isNone := by cases o <;> rfl
theorem trace_ok {p : Prog} : ∀ {n : Nat} {s : Ct}, OkC p s → OkC p (trace n s).2
  | 0, s, h => h
  | n + 1, s, h => by
    cases hn : s.nx with
    | none => rw [trace_none hn]; exact h
    | some x =>
      rw [trace_some hn]
      have hx := h.nx
      rw [hn] at hx
      exact trace_ok (cstep_ok h.sm hx)
theorem st0_ok {p : Prog} {x : Str} (hp : WF p) (hx : x ∈ ords p) : OkC p (st0 p x) := ⟨Sm.refl hp, hx⟩
theorem tr_ok {p : Prog} {x : Str} {m : Nat} (hp : WF p) (hx : x ∈ ords p) : OkC p (tr p x m).2 := trace_ok (st0_ok hp hx)
theorem ords_ne {p : Prog} {x : Str} (h : x ∈ ords p) : p ≠ [] := by
  rintro rfl
  exact absurd h (by simp [ords])
theorem run_ok {n : Int} {hs : List Int} {p : Prog} {l : Lay} {x : Str} {t : Int} {m : Nat} {S : Sto} {ns : List Int} (hS : S[0]? = some (.scr ns)) (hn : 0 < n) (hne : hs ≠ []) (hl : hs.length ≤ 1000) (hp : WF p) (h : OkL n p l) (hx : x ∈ ords p) (hm : m ≤ 1000) :
    F_run [.d (dDrum n hs), .d (dProg p), .d (dLay l), .d (.str x), .d (.int t), .d (.int m)] S = .val (.d (dRun (whR n hs l) p x t m)) S := by
  have e1 := need_ok (p := p) (x := x) (S := S) (by have := hp.len; omega) hx
  have e2 := is_laying_ok (n := n) (hd := .tuple (hs.map .int)) (S := S) hp.len h
  have ndl : (l.map (·.1)).Nodup := by rw [h.nm]; exact hp.nd
  have hS0 : (S ++ [Box.dic (kv PyData.int l)])[0]? = some (.scr ns) := by rw [List.getElem?_append_left (by cases S with | nil => simp at hS | cons a S => simp), hS]
  refine OkE.val (ok_def rfl ?_)
  unfold z_run

  have e3 := steps_of_ok (lam := lamOf (zcall F_read_time (zacons (zv 0) (zacons (zdget (zv 6) (zv 9)) (zacons (zv 10) zanil)))) 9 10 [some (.d (dDrum n hs)), some (.d (dProg p)), some (.d (dLay l)), some (.d (.str x)), some (.d (.int t)), some (.d (.int m)), some (.box S.length), none, none, none, none])
    (wh := whR n hs l) (p := p) (start := x) (t := t) (most := m) (S := S ++ [.dic (kv PyData.int l)]) (fun y hy u b => by
      have hy' : y ∈ l.map (·.1) := by rw [h.nm]; exact hy
      have ht : ((S ++ [Box.dic (kv PyData.int l)]) ++ [b])[S.length]? = some (.dic (kv PyData.int l)) := by simp
      unfold whR
      refine OkE.val ?_; simp_arith [ht, val_kv, spot_eq hy', read_time_ok hn hne (show hs.length ≤ 1000000 by omega)]) hp hx hm

  have hw := mwords_ok (R := S ++ [.dic (kv PyData.int l)]) (t := (timed (whR n hs l) t (tr p x m).1).2) (tr_ok (m := m) hp hx).sm (ords_ne hx)
  unfold mB mBox at hw e3
  simp only [List.length_append, List.length_cons, List.length_nil, Nat.zero_add] at hw e3
  simp_arith [Zs.se_put_add, Zs.sn_put_add, Zs.se_put_sub, Zs.sn_put_sub, Zs.se_put_save, Zs.sn_put_save, Zs.se_put_less, Zs.sn_put_less, Zs.se_put_stop, Zs.sn_put_stop, Zs.se_add_put, Zs.sn_add_put, Zs.se_add_sub, Zs.sn_add_sub, Zs.se_add_save, Zs.sn_add_save, Zs.se_add_less, Zs.sn_add_less, Zs.se_add_stop, Zs.sn_add_stop, Zs.se_sub_put, Zs.sn_sub_put, Zs.se_sub_add, Zs.sn_sub_add, Zs.se_sub_save, Zs.sn_sub_save, Zs.se_sub_less, Zs.sn_sub_less, Zs.se_sub_stop, Zs.sn_sub_stop, Zs.se_save_put, Zs.sn_save_put, Zs.se_save_add, Zs.sn_save_add, Zs.se_save_sub, Zs.sn_save_sub, Zs.se_save_less, Zs.sn_save_less, Zs.se_save_stop, Zs.sn_save_stop, Zs.se_less_put, Zs.sn_less_put, Zs.se_less_add, Zs.sn_less_add, Zs.se_less_sub, Zs.sn_less_sub, Zs.se_less_save, Zs.sn_less_save, Zs.se_less_stop, Zs.sn_less_stop, Zs.se_stop_put, Zs.sn_stop_put, Zs.se_stop_add, Zs.sn_stop_add, Zs.se_stop_sub, Zs.sn_stop_sub, Zs.se_stop_save, Zs.sn_stop_save, Zs.se_stop_less, Zs.sn_stop_less, Zs.se_held_next, Zs.sn_held_next, Zs.se_held_time, Zs.sn_held_time, Zs.se_held_cells, Zs.sn_held_cells, Zs.se_held_step, Zs.sn_held_step, Zs.se_held_words, Zs.sn_held_words, Zs.se_held_done, Zs.sn_held_done, Zs.se_next_held, Zs.sn_next_held, Zs.se_next_time, Zs.sn_next_time, Zs.se_next_cells, Zs.sn_next_cells, Zs.se_next_step, Zs.sn_next_step, Zs.se_next_words, Zs.sn_next_words, Zs.se_next_done, Zs.sn_next_done, Zs.se_time_held, Zs.sn_time_held, Zs.se_time_next, Zs.sn_time_next, Zs.se_time_cells, Zs.sn_time_cells, Zs.se_time_step, Zs.sn_time_step, Zs.se_time_words, Zs.sn_time_words, Zs.se_time_done, Zs.sn_time_done, Zs.se_cells_held, Zs.sn_cells_held, Zs.se_cells_next, Zs.sn_cells_next, Zs.se_cells_time, Zs.sn_cells_time, Zs.se_cells_step, Zs.sn_cells_step, Zs.se_cells_words, Zs.sn_cells_words, Zs.se_cells_done, Zs.sn_cells_done, Zs.se_step_held, Zs.sn_step_held, Zs.se_step_next, Zs.sn_step_next, Zs.se_step_time, Zs.sn_step_time, Zs.se_step_cells, Zs.sn_step_cells, Zs.se_step_words, Zs.sn_step_words, Zs.se_step_done, Zs.sn_step_done, Zs.se_words_held, Zs.sn_words_held, Zs.se_words_next, Zs.sn_words_next, Zs.se_words_time, Zs.sn_words_time, Zs.se_words_cells, Zs.sn_words_cells, Zs.se_words_step, Zs.sn_words_step, Zs.se_words_done, Zs.sn_words_done, Zs.se_done_held, Zs.sn_done_held, Zs.se_done_next, Zs.sn_done_next, Zs.se_done_time, Zs.sn_done_time, Zs.se_done_cells, Zs.sn_done_cells, Zs.se_done_step, Zs.sn_done_step, Zs.se_done_words, Zs.sn_done_words, e1, e2, bDic_lay ndl, hS0, e3, hw, nonD_os]
  rfl
end Zc
end
section
set_option Elab.async false
set_option linter.all false
set_option maxRecDepth 100000
set_option autoImplicit false
set_option maxHeartbeats 4000000
namespace Z
open PySem
local macro_rules
  | `(tactic| simp_arith [$ls,*]) => `(tactic| simp -implicitDefEqProofs (disch := omega) only [kB_ap, kS_ap, xD_ap, dSeq_nx, dSeq_rt, dSeq_bk, dSeq_ct, dSeq_ex, dTry_nx, dTry_rt, dTry_bk, dTry_ct, dTry_ex, okE_bd, okS_so, okS_sq, nonD_n, nonD_i, nonD_s, nonD_b, nonD_t, nonD_l, getLast1, getLast1', setLast1, setLast1', takeLast2, zseq_ok, zdrop_ok, zset_ok, zsetF_ok, zifS_ok, ztru_ok, zop_ok, zcb_ok, zcf_ok, zacons_ok, zanil_ok, zc_ok, zv_ok, znil_ok, zret_ok, zcall_ok, zfz_ok, znew_ok, zneg_ok, zos_ok, zon_ok, zsl_ok, zslF_ok, ztup_ok, zlst_ok, zand_ok, zor_ok, znot_ok, zif_ok, zpar_ok, zpar3_ok, zasg_ok, zdnew_ok, znotV_ok, zbrk_ok, zcnt_ok, zopF_ok, zpop0_ok, zdget_ok, zdin_ok, zdnin_ok, zisi_ok, ziA_ok, ziQ_ok, ziL_ok, ziT_ok, zattr_ok, zaset_ok, zmake_ok, zpr_ok, zpr1_ok, zasgP_ok, zlset_ok, zlrg_ok, zkin_ok, zkget_ok, zraise_ok, zfor_ok, zwhile_ok, lamOf_ok, ztrue_ok, zorD_ok, zparA_ok, zdis_ok, ztst_ok, zandV_ok, zorV_ok, zchain_ok, zapp_ok, zmt1_ok, zcnt1_ok, zmeth_ok, zdget2_ok, zact_ok, zlamcall_ok, zfrz_ok, zdput_ok, zlput_ok, ztry_ok, zcatch_nil, zcatch_cons, app2_ok, gN_ap, gT2_ap, gT3_ap, wipeZ, okE_val, okE_exc, okS_nx, okS_rt, okS_bk, okS_ct, okS_ex, okE_ofOpt, rng1_ok, rng2_ok, izs_len, izr_len, List.map_cons, List.map_nil, List.cons_append, List.nil_append, List.replicate, List.length_cons, List.length_nil, List.length_append, List.length_map, List.length_set, List.getElem?_cons_zero, List.getElem?_cons_succ, List.getElem?_nil, List.set_cons_zero, List.set_cons_succ, lstAt, on1, on2, lstOnly, allD_nil, allD_cons, Option.map_some, Option.map_none, Option.bind_some, Option.bind_none, dMul_ok, dMod_ok, dDiv_ok, dEq_i, dEq_s, dEq_b, dNe_i, dNe_s, dNe_b, dEq_ti, dNe_ti, dEq_li, dNe_li, dIn, dNotIn, atI_0, atI_1, atI_2, dMin, dMax, dSum, dAll, dAny, intsOf_map, bolsOf_map, intsOf_nil, intsOf_cons, putS, lim, retN_d, getLast0, setLast0, takeLast0, takeLast1, List.take_succ_cons, List.take_zero, List.take_length, List.take_nil, decide_eq_true_eq, beq_iff_eq, if_true, if_false, Bool.not_true, Bool.not_false, Bool.not_eq_true', Bool.false_eq_true, Bool.true_eq_false, reduceIte, if_pos, if_neg, Nat.add_eq, List.isEmpty_cons, List.isEmpty_nil, Option.some.injEq, decide_true, decide_false, decide_eq_true, decide_eq_false, beq_self_eq_true, BEq.rfl, beq_eq_false_iff_ne, Nat.zero_add, Nat.reduceAdd, Int.toNat_natCast, Bool.not_eq_true, decide_eq_false_iff_not, bne_iff_ne, ne_eq, not_true_eq_false, not_false_eq_true, dAdd_e1, dAdd_e2, dAdd_e3, dSub_e1, dLt_e1, dLt_e2, dLt_e3, dLe_e1, dGt_e1, dGe_e1, dIs_e1, dIs_e2, dIsNot_e1, dIsNot_e2, dIx_e1, dIx_e2, dIx_e3, dTup_e1, dTup_e2, dInt_e1, dInt_e2, dMin2_e1, dMax2_e1, dAbs_e1, truth_e1, truth_e2, truth_e3, truth_e4, truth_e5, truth_e6, truS_e1, truS_e2, res_e1, res_e2, resD_e1, resD_e2, resD_e3, lenS_e1, lenS_e2, lenS_e3, lenS_e4, lenS_e5, itemsQ_e1, itemsQ_e2, itemsL_e1, itemsT_e1, bLst_e1, bLst_e2, dSl_e1, dSl_e2, zipOf_e1, zipOf_e2, enumOf_e1, enumOf_e2, keySl_e1, keyOf_e1, keyOf_e2, setAll_e1, setAll_e2, gNs_e1, bolOf_e1, datOf_e1, lsOf_e1, fCat_e1, fRep_e1, fExt_e1, forget_cons, forget_nil, fg_d, fg_fn, fg_none, fg_box, fg_box', insAt, putA, List.lookup_cons, List.lookup_nil, noExc, Option.isSome_some, Option.isSome_none, and_self, and_true, true_and, eq_self, Int.add_zero, fnOf, scrOf, cntI, frzOf, lputOf, $ls,*])
  | `(tactic| simp_arith [$ls,*] $l:location) => `(tactic| simp -implicitDefEqProofs (disch := omega) only [kB_ap, kS_ap, xD_ap, dSeq_nx, dSeq_rt, dSeq_bk, dSeq_ct, dSeq_ex, dTry_nx, dTry_rt, dTry_bk, dTry_ct, dTry_ex, okE_bd, okS_so, okS_sq, nonD_n, nonD_i, nonD_s, nonD_b, nonD_t, nonD_l, getLast1, getLast1', setLast1, setLast1', takeLast2, zseq_ok, zdrop_ok, zset_ok, zsetF_ok, zifS_ok, ztru_ok, zop_ok, zcb_ok, zcf_ok, zacons_ok, zanil_ok, zc_ok, zv_ok, znil_ok, zret_ok, zcall_ok, zfz_ok, znew_ok, zneg_ok, zos_ok, zon_ok, zsl_ok, zslF_ok, ztup_ok, zlst_ok, zand_ok, zor_ok, znot_ok, zif_ok, zpar_ok, zpar3_ok, zasg_ok, zdnew_ok, znotV_ok, zbrk_ok, zcnt_ok, zopF_ok, zpop0_ok, zdget_ok, zdin_ok, zdnin_ok, zisi_ok, ziA_ok, ziQ_ok, ziL_ok, ziT_ok, zattr_ok, zaset_ok, zmake_ok, zpr_ok, zpr1_ok, zasgP_ok, zlset_ok, zlrg_ok, zkin_ok, zkget_ok, zraise_ok, zfor_ok, zwhile_ok, lamOf_ok, ztrue_ok, zorD_ok, zparA_ok, zdis_ok, ztst_ok, zandV_ok, zorV_ok, zchain_ok, zapp_ok, zmt1_ok, zcnt1_ok, zmeth_ok, zdget2_ok, zact_ok, zlamcall_ok, zfrz_ok, zdput_ok, zlput_ok, ztry_ok, zcatch_nil, zcatch_cons, app2_ok, gN_ap, gT2_ap, gT3_ap, wipeZ, okE_val, okE_exc, okS_nx, okS_rt, okS_bk, okS_ct, okS_ex, okE_ofOpt, rng1_ok, rng2_ok, izs_len, izr_len, List.map_cons, List.map_nil, List.cons_append, List.nil_append, List.replicate, List.length_cons, List.length_nil, List.length_append, List.length_map, List.length_set, List.getElem?_cons_zero, List.getElem?_cons_succ, List.getElem?_nil, List.set_cons_zero, List.set_cons_succ, lstAt, on1, on2, lstOnly, allD_nil, allD_cons, Option.map_some, Option.map_none, Option.bind_some, Option.bind_none, dMul_ok, dMod_ok, dDiv_ok, dEq_i, dEq_s, dEq_b, dNe_i, dNe_s, dNe_b, dEq_ti, dNe_ti, dEq_li, dNe_li, dIn, dNotIn, atI_0, atI_1, atI_2, dMin, dMax, dSum, dAll, dAny, intsOf_map, bolsOf_map, intsOf_nil, intsOf_cons, putS, lim, retN_d, getLast0, setLast0, takeLast0, takeLast1, List.take_succ_cons, List.take_zero, List.take_length, List.take_nil, decide_eq_true_eq, beq_iff_eq, if_true, if_false, Bool.not_true, Bool.not_false, Bool.not_eq_true', Bool.false_eq_true, Bool.true_eq_false, reduceIte, if_pos, if_neg, Nat.add_eq, List.isEmpty_cons, List.isEmpty_nil, Option.some.injEq, decide_true, decide_false, decide_eq_true, decide_eq_false, beq_self_eq_true, BEq.rfl, beq_eq_false_iff_ne, Nat.zero_add, Nat.reduceAdd, Int.toNat_natCast, Bool.not_eq_true, decide_eq_false_iff_not, bne_iff_ne, ne_eq, not_true_eq_false, not_false_eq_true, dAdd_e1, dAdd_e2, dAdd_e3, dSub_e1, dLt_e1, dLt_e2, dLt_e3, dLe_e1, dGt_e1, dGe_e1, dIs_e1, dIs_e2, dIsNot_e1, dIsNot_e2, dIx_e1, dIx_e2, dIx_e3, dTup_e1, dTup_e2, dInt_e1, dInt_e2, dMin2_e1, dMax2_e1, dAbs_e1, truth_e1, truth_e2, truth_e3, truth_e4, truth_e5, truth_e6, truS_e1, truS_e2, res_e1, res_e2, resD_e1, resD_e2, resD_e3, lenS_e1, lenS_e2, lenS_e3, lenS_e4, lenS_e5, itemsQ_e1, itemsQ_e2, itemsL_e1, itemsT_e1, bLst_e1, bLst_e2, dSl_e1, dSl_e2, zipOf_e1, zipOf_e2, enumOf_e1, enumOf_e2, keySl_e1, keyOf_e1, keyOf_e2, setAll_e1, setAll_e2, gNs_e1, bolOf_e1, datOf_e1, lsOf_e1, fCat_e1, fRep_e1, fExt_e1, forget_cons, forget_nil, fg_d, fg_fn, fg_none, fg_box, fg_box', insAt, putA, List.lookup_cons, List.lookup_nil, noExc, Option.isSome_some, Option.isSome_none, and_self, and_true, true_and, eq_self, Int.add_zero, fnOf, scrOf, cntI, frzOf, lputOf, $ls,*] $l)
theorem ok_lcI {one : PyData → Sto → Out (Option PyData)} (I : Nat → List PyData → Sto → Prop) : ∀ (ds : List PyData) (j : Nat) (acc : List PyData) (S : Sto), I j acc S → acc.length + ds.length ≤ 1000000 →
    (∀ i d acc S, ds[i]? = some d → I (j + i) acc S → ∃ y S', one d S = .val (some y) S' ∧ I (j + i + 1) (acc ++ [y]) S') → ∃ ys S', lcGo one ds acc S = .val ys S' ∧ I (j + ds.length) ys S'
  | [], j, acc, S, h, _, _ => ⟨acc, S, rfl, h⟩
  | d :: ds, j, acc, S, h, hl, h1 => by
    simp only [List.length_cons] at hl
    obtain ⟨y, S', e, hi⟩ := h1 0 d acc S rfl h
    have e1 : ∀ i, j + 1 + i = j + (i + 1) := fun i => by omega
    obtain ⟨ys, S2, e2, h2⟩ := ok_lcI I ds (j + 1) (acc ++ [y]) S' hi (by simp; omega) (fun i d acc S q z => by
      rw [e1] at z ⊢
      exact h1 (i + 1) d acc S q z)
    refine ⟨ys, S2, ?_, ?_⟩
    · unfold lcGo
      rw [e, bind_val]
      dsimp only
      rw [if_pos (show acc.length < 1000000 by omega)]
      exact e2
    · rw [e1] at h2
      exact h2
theorem lc_I {zi : ZI} {g : ZG} {ze : ZE} {vs : List Nat} {Γ : Env1} {S : Sto} {X : XP} {P : Box → Sto → Prop} (I : Nat → List PyData → Sto → Prop) (ds : List PyData) (hz : OkE (zi Γ S) noX fun a S' => a = ds ∧ S' = S) (hl : ds.length ≤ 1000000) (h0 : I 0 [] S)
    (h : ∀ i d acc S1, ds[i]? = some d → I i acc S1 → ∃ Γ1, g d (wipeZ Γ vs) = some Γ1 ∧ OkE (ze Γ1 S1) noX fun a S2 => ∃ y, a = .d y ∧ I (i + 1) (acc ++ [y]) (S2.take S.length)) (hp : ∀ ys S', I ds.length ys S' → P (.lst ys) S') : OkE (zlc zi g ztrue ze vs Γ S) X P := by
  obtain ⟨ys, S', e, hi⟩ := ok_lcI (one := lcOne S.length g ztrue ze (wipeZ Γ vs)) I ds 0 [] S h0 (by simpa using hl) (fun i d acc S1 q z => by
    rw [Nat.zero_add] at z ⊢
    obtain ⟨Γ1, e1, hh⟩ := h i d acc S1 q z
    obtain ⟨_, S2, e2, y, rfl, e3⟩ := hh.eq
    refine ⟨y, S2.take S.length, ?_, e3⟩
    unfold lcOne
    rw [e1]
    dsimp only [ztrue]
    rw [e2])
  unfold zlc
  rw [hz.val, bind_val, e]
  rw [Nat.zero_add] at hi
  exact hp _ _ hi
theorem enum_range {n : Nat} {f : Nat → PyData} : enumD ((List.range n).map f) = (List.range n).map fun i => .tuple [.int (i : Nat), f i] := by
  unfold enumD
  refine List.ext_getElem? fun i => ?_
  rw [List.getElem?_mapIdx, List.getElem?_map, List.getElem?_map]
  by_cases h : i < n
  · rw [List.getElem?_range h]
    rfl
  · rw [List.getElem?_eq_none (by simpa using h)]
    rfl
theorem popAt_ok {ds : List PyData} {i : Int} (h0 : 0 ≤ i) (h1 : i < ds.length) (h2 : ds.length ≤ 1000) : ∃ y, ds[i.toNat]? = some y ∧ fPopAt ds (.int i) = some (y, ds.eraseIdx i.toNat) := by
  have h3 : i.toNat < ds.length := by omega
  refine ⟨ds[i.toNat], List.getElem?_eq_getElem h3, ?_⟩
  unfold fPopAt seqIndex?
  dsimp only
  rw [if_pos (show i.natAbs < 1000000 by omega), if_neg (show ¬ i < 0 by omega), if_pos (by simp; omega)]
  dsimp only
  rw [List.getElem?_eq_getElem h3]
end Z
namespace Zc
open PySem Z
open L2 (atI)
local macro_rules
  | `(tactic| simp_arith [$ls,*]) => `(tactic| simp -implicitDefEqProofs (disch := omega) only [kB_ap, kS_ap, xD_ap, dSeq_nx, dSeq_rt, dSeq_bk, dSeq_ct, dSeq_ex, dTry_nx, dTry_rt, dTry_bk, dTry_ct, dTry_ex, okE_bd, okS_so, okS_sq, nonD_n, nonD_i, nonD_s, nonD_b, nonD_t, nonD_l, getLast1, getLast1', setLast1, setLast1', takeLast2, zseq_ok, zdrop_ok, zset_ok, zsetF_ok, zifS_ok, ztru_ok, zop_ok, zcb_ok, zcf_ok, zacons_ok, zanil_ok, zc_ok, zv_ok, znil_ok, zret_ok, zcall_ok, zfz_ok, znew_ok, zneg_ok, zos_ok, zon_ok, zsl_ok, zslF_ok, ztup_ok, zlst_ok, zand_ok, zor_ok, znot_ok, zif_ok, zpar_ok, zpar3_ok, zasg_ok, zdnew_ok, znotV_ok, zbrk_ok, zcnt_ok, zopF_ok, zpop0_ok, zdget_ok, zdin_ok, zdnin_ok, zisi_ok, ziA_ok, ziQ_ok, ziL_ok, ziT_ok, zattr_ok, zaset_ok, zmake_ok, zpr_ok, zpr1_ok, zasgP_ok, zlset_ok, zlrg_ok, zkin_ok, zkget_ok, zraise_ok, zfor_ok, zwhile_ok, lamOf_ok, ztrue_ok, zorD_ok, zparA_ok, zdis_ok, ztst_ok, zandV_ok, zorV_ok, zchain_ok, zapp_ok, zmt1_ok, zcnt1_ok, zmeth_ok, zdget2_ok, zact_ok, zlamcall_ok, zfrz_ok, zdput_ok, zlput_ok, ztry_ok, zcatch_nil, zcatch_cons, app2_ok, gN_ap, gT2_ap, gT3_ap, wipeZ, okE_val, okE_exc, okS_nx, okS_rt, okS_bk, okS_ct, okS_ex, okE_ofOpt, rng1_ok, rng2_ok, izs_len, izr_len, List.map_cons, List.map_nil, List.cons_append, List.nil_append, List.replicate, List.length_cons, List.length_nil, List.length_append, List.length_map, List.length_set, List.getElem?_cons_zero, List.getElem?_cons_succ, List.getElem?_nil, List.set_cons_zero, List.set_cons_succ, lstAt, on1, on2, lstOnly, allD_nil, allD_cons, Option.map_some, Option.map_none, Option.bind_some, Option.bind_none, dMul_ok, dMod_ok, dDiv_ok, dEq_i, dEq_s, dEq_b, dNe_i, dNe_s, dNe_b, dEq_ti, dNe_ti, dEq_li, dNe_li, dIn, dNotIn, atI_0, atI_1, atI_2, dMin, dMax, dSum, dAll, dAny, intsOf_map, bolsOf_map, intsOf_nil, intsOf_cons, putS, lim, retN_d, getLast0, setLast0, takeLast0, takeLast1, List.take_succ_cons, List.take_zero, List.take_length, List.take_nil, decide_eq_true_eq, beq_iff_eq, if_true, if_false, Bool.not_true, Bool.not_false, Bool.not_eq_true', Bool.false_eq_true, Bool.true_eq_false, reduceIte, if_pos, if_neg, Nat.add_eq, List.isEmpty_cons, List.isEmpty_nil, Option.some.injEq, decide_true, decide_false, decide_eq_true, decide_eq_false, beq_self_eq_true, BEq.rfl, beq_eq_false_iff_ne, Nat.zero_add, Nat.reduceAdd, Int.toNat_natCast, Bool.not_eq_true, decide_eq_false_iff_not, bne_iff_ne, ne_eq, not_true_eq_false, not_false_eq_true, dAdd_e1, dAdd_e2, dAdd_e3, dSub_e1, dLt_e1, dLt_e2, dLt_e3, dLe_e1, dGt_e1, dGe_e1, dIs_e1, dIs_e2, dIsNot_e1, dIsNot_e2, dIx_e1, dIx_e2, dIx_e3, dTup_e1, dTup_e2, dInt_e1, dInt_e2, dMin2_e1, dMax2_e1, dAbs_e1, truth_e1, truth_e2, truth_e3, truth_e4, truth_e5, truth_e6, truS_e1, truS_e2, res_e1, res_e2, resD_e1, resD_e2, resD_e3, lenS_e1, lenS_e2, lenS_e3, lenS_e4, lenS_e5, itemsQ_e1, itemsQ_e2, itemsL_e1, itemsT_e1, bLst_e1, bLst_e2, dSl_e1, dSl_e2, zipOf_e1, zipOf_e2, enumOf_e1, enumOf_e2, keySl_e1, keyOf_e1, keyOf_e2, setAll_e1, setAll_e2, gNs_e1, bolOf_e1, datOf_e1, lsOf_e1, fCat_e1, fRep_e1, fExt_e1, forget_cons, forget_nil, fg_d, fg_fn, fg_none, fg_box, fg_box', insAt, putA, List.lookup_cons, List.lookup_nil, noExc, Option.isSome_some, Option.isSome_none, and_self, and_true, true_and, eq_self, Int.add_zero, fnOf, scrOf, cntI, frzOf, lputOf, $ls,*])
  | `(tactic| simp_arith [$ls,*] $l:location) => `(tactic| simp -implicitDefEqProofs (disch := omega) only [kB_ap, kS_ap, xD_ap, dSeq_nx, dSeq_rt, dSeq_bk, dSeq_ct, dSeq_ex, dTry_nx, dTry_rt, dTry_bk, dTry_ct, dTry_ex, okE_bd, okS_so, okS_sq, nonD_n, nonD_i, nonD_s, nonD_b, nonD_t, nonD_l, getLast1, getLast1', setLast1, setLast1', takeLast2, zseq_ok, zdrop_ok, zset_ok, zsetF_ok, zifS_ok, ztru_ok, zop_ok, zcb_ok, zcf_ok, zacons_ok, zanil_ok, zc_ok, zv_ok, znil_ok, zret_ok, zcall_ok, zfz_ok, znew_ok, zneg_ok, zos_ok, zon_ok, zsl_ok, zslF_ok, ztup_ok, zlst_ok, zand_ok, zor_ok, znot_ok, zif_ok, zpar_ok, zpar3_ok, zasg_ok, zdnew_ok, znotV_ok, zbrk_ok, zcnt_ok, zopF_ok, zpop0_ok, zdget_ok, zdin_ok, zdnin_ok, zisi_ok, ziA_ok, ziQ_ok, ziL_ok, ziT_ok, zattr_ok, zaset_ok, zmake_ok, zpr_ok, zpr1_ok, zasgP_ok, zlset_ok, zlrg_ok, zkin_ok, zkget_ok, zraise_ok, zfor_ok, zwhile_ok, lamOf_ok, ztrue_ok, zorD_ok, zparA_ok, zdis_ok, ztst_ok, zandV_ok, zorV_ok, zchain_ok, zapp_ok, zmt1_ok, zcnt1_ok, zmeth_ok, zdget2_ok, zact_ok, zlamcall_ok, zfrz_ok, zdput_ok, zlput_ok, ztry_ok, zcatch_nil, zcatch_cons, app2_ok, gN_ap, gT2_ap, gT3_ap, wipeZ, okE_val, okE_exc, okS_nx, okS_rt, okS_bk, okS_ct, okS_ex, okE_ofOpt, rng1_ok, rng2_ok, izs_len, izr_len, List.map_cons, List.map_nil, List.cons_append, List.nil_append, List.replicate, List.length_cons, List.length_nil, List.length_append, List.length_map, List.length_set, List.getElem?_cons_zero, List.getElem?_cons_succ, List.getElem?_nil, List.set_cons_zero, List.set_cons_succ, lstAt, on1, on2, lstOnly, allD_nil, allD_cons, Option.map_some, Option.map_none, Option.bind_some, Option.bind_none, dMul_ok, dMod_ok, dDiv_ok, dEq_i, dEq_s, dEq_b, dNe_i, dNe_s, dNe_b, dEq_ti, dNe_ti, dEq_li, dNe_li, dIn, dNotIn, atI_0, atI_1, atI_2, dMin, dMax, dSum, dAll, dAny, intsOf_map, bolsOf_map, intsOf_nil, intsOf_cons, putS, lim, retN_d, getLast0, setLast0, takeLast0, takeLast1, List.take_succ_cons, List.take_zero, List.take_length, List.take_nil, decide_eq_true_eq, beq_iff_eq, if_true, if_false, Bool.not_true, Bool.not_false, Bool.not_eq_true', Bool.false_eq_true, Bool.true_eq_false, reduceIte, if_pos, if_neg, Nat.add_eq, List.isEmpty_cons, List.isEmpty_nil, Option.some.injEq, decide_true, decide_false, decide_eq_true, decide_eq_false, beq_self_eq_true, BEq.rfl, beq_eq_false_iff_ne, Nat.zero_add, Nat.reduceAdd, Int.toNat_natCast, Bool.not_eq_true, decide_eq_false_iff_not, bne_iff_ne, ne_eq, not_true_eq_false, not_false_eq_true, dAdd_e1, dAdd_e2, dAdd_e3, dSub_e1, dLt_e1, dLt_e2, dLt_e3, dLe_e1, dGt_e1, dGe_e1, dIs_e1, dIs_e2, dIsNot_e1, dIsNot_e2, dIx_e1, dIx_e2, dIx_e3, dTup_e1, dTup_e2, dInt_e1, dInt_e2, dMin2_e1, dMax2_e1, dAbs_e1, truth_e1, truth_e2, truth_e3, truth_e4, truth_e5, truth_e6, truS_e1, truS_e2, res_e1, res_e2, resD_e1, resD_e2, resD_e3, lenS_e1, lenS_e2, lenS_e3, lenS_e4, lenS_e5, itemsQ_e1, itemsQ_e2, itemsL_e1, itemsT_e1, bLst_e1, bLst_e2, dSl_e1, dSl_e2, zipOf_e1, zipOf_e2, enumOf_e1, enumOf_e2, keySl_e1, keyOf_e1, keyOf_e2, setAll_e1, setAll_e2, gNs_e1, bolOf_e1, datOf_e1, lsOf_e1, fCat_e1, fRep_e1, fExt_e1, forget_cons, forget_nil, fg_d, fg_fn, fg_none, fg_box, fg_box', insAt, putA, List.lookup_cons, List.lookup_nil, noExc, Option.isSome_some, Option.isSome_none, and_self, and_true, true_and, eq_self, Int.add_zero, fnOf, scrOf, cntI, frzOf, lputOf, $ls,*] $l)
def nmI (i : Nat) : Str := ⟨#[97 + i]⟩
theorem slt_nmI {a b : Nat} (h : a < b) : slt (nmI a) (nmI b) := by
  show [97 + a] < [97 + b]
  exact List.Lex.rel (by omega)
theorem letters_len : (("abcdefghijklmnopqrstuvwxyz" : Str)).length = 26 := by decide +kernel
theorem letters_list : (("abcdefghijklmnopqrstuvwxyz" : Str)).cps.toList = (List.range 26).map (97 + ·) := by decide +kernel
theorem letters_at {i : Int} (h0 : 0 ≤ i) (h1 : i < 26) : dIx (.str "abcdefghijklmnopqrstuvwxyz") (.int i) = some (.str (nmI i.toNat)) := by
  show (if (("abcdefghijklmnopqrstuvwxyz" : Str)).length ≤ lim then (atI (("abcdefghijklmnopqrstuvwxyz" : Str)).cps.toList i).map fun c => PyData.str ⟨#[c]⟩ else none) = _
  rw [letters_len, letters_list, if_pos (by decide), atI_ok h0 (by simpa using h1), List.getElem?_map, List.getElem?_range (by omega)]
  rfl
theorem letA {i : Int} (h0 : 0 ≤ i) (h1 : i < 26) : (atI (("abcdefghijklmnopqrstuvwxyz" : Str)).cps.toList i).map (fun c => PyData.str ⟨#[c]⟩) = some (.str (nmI i.toNat)) := by
  rw [letters_list, atI_ok h0 (by simpa using h1), List.getElem?_map, List.getElem?_range (by omega)]
  rfl
theorem mem_dStrs {v : PyData} {l : List Str} (h : v ∈ dStrs l) : ∃ x ∈ l, v = .str x := by
  obtain ⟨x, hx, e⟩ := List.mem_map.mp h
  exact ⟨x, hx, e.symm⟩
theorem pickS_ok {ns : List Int} {tw : List PyData} {R : Sto} {l : List Str} {X : XP} {P : Sl → Sto → Prop} (ht : tw.length < 100000) (hl : l ≠ []) (h : ∀ x ∈ l, P (.d (.str x)) (.scr ns :: .lst (tw ++ [.int 0]) :: R)) :
    OkE (F__law_pick [.box 0, .box 1, .d (.list (dStrs l))] (.scr ns :: .lst tw :: R)) X P :=
  pickL_ok ht (by simpa [dStrs] using hl) fun v hv => by
    obtain ⟨x, hx, rfl⟩ := mem_dStrs hv
    exact h x hx
theorem pickT_ok {ns : List Int} {tw : List PyData} {R : Sto} {l : List Str} {X : XP} {P : Sl → Sto → Prop} (ht : tw.length < 100000) (hl : l ≠ []) (h : ∀ x ∈ l, P (.d (.str x)) (.scr ns :: .lst (tw ++ [.int 0]) :: R)) :
    OkE (F__law_pick [.box 0, .box 1, .d (.tuple (dStrs l))] (.scr ns :: .lst tw :: R)) X P :=
  pick_ok ht (by simpa [dStrs] using hl) fun v hv => by
    obtain ⟨x, hx, rfl⟩ := mem_dStrs hv
    exact h x hx
theorem order_ok {ns : List Int} {tw : List PyData} {R : Sto} {ws os : List Str} {X : XP} {P : Sl → Sto → Prop} (ht : tw.length < 90000) (ho : os ≠ [])
    (h : ∀ c tw', tw'.length ≤ tw.length + 3 → OkO os ws c → isO c = true → P (.d (dCell c)) (.scr ns :: .lst tw' :: R)) :
    OkE (F__law_order [.box 0, .box 1, .d (.list (dStrs ws)), .d (.list (dStrs os))] (.scr ns :: .lst tw :: R)) X P := by
  refine ok_def rfl ?_
  unfold z__law_order
  simp_arith []
  refine draw_ok (by omega) (by omega) fun v h0 h1 => ?_
  by_cases hv0 : v = 0
  · subst hv0
    simp_arith []
    exact h (.o "stop" []) _ (by simp) .stop rfl
  · by_cases hw : ws = []
    · subst hw
      by_cases hv6 : v < 6
      · simp_arith [hv0, hv6, dStrs]
        exact h (.o "stop" []) _ (by simp) .stop rfl
      · have hwe : (dStrs ([] : List Str)).isEmpty = true := rfl
        by_cases hv7 : 6 < v
        · simp_arith [hv0, hv6, hv7, hwe]
          refine pickS_ok (by simp; omega) ho fun a ha => ?_
          simp_arith []
          refine pickS_ok (by simp; omega) ho fun b hb => ?_
          simp_arith []
          exact h (.o "less" [a, b]) _ (by simp) (.less a b ha hb) rfl
        · simp_arith [hv0, hv6, hv7, hwe]
          refine pickS_ok (by simp; omega) ho fun a ha => ?_
          simp_arith []
          refine pickS_ok (by simp; omega) ho fun b hb => ?_
          simp_arith []
          exact h (.o "less" [a, b]) _ (by simp) (.less a b ha hb) rfl
    · have hwe : (dStrs ws).isEmpty = false := by simpa [dStrs] using hw
      by_cases hv7 : 6 < v
      · simp_arith [hv0, hwe, hv7]
        refine pickS_ok (by simp; omega) ho fun a ha => ?_
        simp_arith []
        refine pickS_ok (by simp; omega) ho fun b hb => ?_
        simp_arith []
        exact h (.o "less" [a, b]) _ (by simp) (.less a b ha hb) rfl
      · have hk : ∃ k : Str, isWk k ∧ atI [PyData.str "put", .str "add", .str "add", .str "sub", .str "sub", .str "save"] (v - 1) = some (.str k) := by
          rcases (show v = 1 ∨ v = 2 ∨ v = 3 ∨ v = 4 ∨ v = 5 ∨ v = 6 by omega) with q | q | q | q | q | q <;> subst q
          · exact ⟨"put", .inl rfl, rfl⟩
          · exact ⟨"add", .inr (.inl rfl), rfl⟩
          · exact ⟨"add", .inr (.inl rfl), rfl⟩
          · exact ⟨"sub", .inr (.inr (.inl rfl)), rfl⟩
          · exact ⟨"sub", .inr (.inr (.inl rfl)), rfl⟩
          · exact ⟨"save", .inr (.inr (.inr rfl)), rfl⟩
        obtain ⟨k, hk, ek⟩ := hk
        simp_arith [hv0, hwe, hv7, ek]
        refine pickS_ok (by simp; omega) hw fun a ha => ?_
        simp_arith []
        refine pickS_ok (by simp; omega) ho fun b hb => ?_
        simp_arith []
        exact h (.o k [a, b]) _ (by simp) (.wd k a b hk ha hb) rfl
end Zc
end
section
set_option Elab.async false
set_option linter.all false
set_option maxRecDepth 100000
set_option autoImplicit false
set_option maxHeartbeats 4000000
namespace Zc
open PySem Z
open L2 (atI)
local macro_rules
  | `(tactic| simp_arith [$ls,*]) => `(tactic| simp -implicitDefEqProofs (disch := omega) only [kB_ap, kS_ap, xD_ap, dSeq_nx, dSeq_rt, dSeq_bk, dSeq_ct, dSeq_ex, dTry_nx, dTry_rt, dTry_bk, dTry_ct, dTry_ex, okE_bd, okS_so, okS_sq, nonD_n, nonD_i, nonD_s, nonD_b, nonD_t, nonD_l, getLast1, getLast1', setLast1, setLast1', takeLast2, zseq_ok, zdrop_ok, zset_ok, zsetF_ok, zifS_ok, ztru_ok, zop_ok, zcb_ok, zcf_ok, zacons_ok, zanil_ok, zc_ok, zv_ok, znil_ok, zret_ok, zcall_ok, zfz_ok, znew_ok, zneg_ok, zos_ok, zon_ok, zsl_ok, zslF_ok, ztup_ok, zlst_ok, zand_ok, zor_ok, znot_ok, zif_ok, zpar_ok, zpar3_ok, zasg_ok, zdnew_ok, znotV_ok, zbrk_ok, zcnt_ok, zopF_ok, zpop0_ok, zdget_ok, zdin_ok, zdnin_ok, zisi_ok, ziA_ok, ziQ_ok, ziL_ok, ziT_ok, zattr_ok, zaset_ok, zmake_ok, zpr_ok, zpr1_ok, zasgP_ok, zlset_ok, zlrg_ok, zkin_ok, zkget_ok, zraise_ok, zfor_ok, zwhile_ok, lamOf_ok, ztrue_ok, zorD_ok, zparA_ok, zdis_ok, ztst_ok, zandV_ok, zorV_ok, zchain_ok, zapp_ok, zmt1_ok, zcnt1_ok, zmeth_ok, zdget2_ok, zact_ok, zlamcall_ok, zfrz_ok, zdput_ok, zlput_ok, ztry_ok, zcatch_nil, zcatch_cons, app2_ok, gN_ap, gT2_ap, gT3_ap, wipeZ, okE_val, okE_exc, okS_nx, okS_rt, okS_bk, okS_ct, okS_ex, okE_ofOpt, rng1_ok, rng2_ok, izs_len, izr_len, List.map_cons, List.map_nil, List.cons_append, List.nil_append, List.replicate, List.length_cons, List.length_nil, List.length_append, List.length_map, List.length_set, List.getElem?_cons_zero, List.getElem?_cons_succ, List.getElem?_nil, List.set_cons_zero, List.set_cons_succ, lstAt, on1, on2, lstOnly, allD_nil, allD_cons, Option.map_some, Option.map_none, Option.bind_some, Option.bind_none, dMul_ok, dMod_ok, dDiv_ok, dEq_i, dEq_s, dEq_b, dNe_i, dNe_s, dNe_b, dEq_ti, dNe_ti, dEq_li, dNe_li, dIn, dNotIn, atI_0, atI_1, atI_2, dMin, dMax, dSum, dAll, dAny, intsOf_map, bolsOf_map, intsOf_nil, intsOf_cons, putS, lim, retN_d, getLast0, setLast0, takeLast0, takeLast1, List.take_succ_cons, List.take_zero, List.take_length, List.take_nil, decide_eq_true_eq, beq_iff_eq, if_true, if_false, Bool.not_true, Bool.not_false, Bool.not_eq_true', Bool.false_eq_true, Bool.true_eq_false, reduceIte, if_pos, if_neg, Nat.add_eq, List.isEmpty_cons, List.isEmpty_nil, Option.some.injEq, decide_true, decide_false, decide_eq_true, decide_eq_false, beq_self_eq_true, BEq.rfl, beq_eq_false_iff_ne, Nat.zero_add, Nat.reduceAdd, Int.toNat_natCast, Bool.not_eq_true, decide_eq_false_iff_not, bne_iff_ne, ne_eq, not_true_eq_false, not_false_eq_true, dAdd_e1, dAdd_e2, dAdd_e3, dSub_e1, dLt_e1, dLt_e2, dLt_e3, dLe_e1, dGt_e1, dGe_e1, dIs_e1, dIs_e2, dIsNot_e1, dIsNot_e2, dIx_e1, dIx_e2, dIx_e3, dTup_e1, dTup_e2, dInt_e1, dInt_e2, dMin2_e1, dMax2_e1, dAbs_e1, truth_e1, truth_e2, truth_e3, truth_e4, truth_e5, truth_e6, truS_e1, truS_e2, res_e1, res_e2, resD_e1, resD_e2, resD_e3, lenS_e1, lenS_e2, lenS_e3, lenS_e4, lenS_e5, itemsQ_e1, itemsQ_e2, itemsL_e1, itemsT_e1, bLst_e1, bLst_e2, dSl_e1, dSl_e2, zipOf_e1, zipOf_e2, enumOf_e1, enumOf_e2, keySl_e1, keyOf_e1, keyOf_e2, setAll_e1, setAll_e2, gNs_e1, bolOf_e1, datOf_e1, lsOf_e1, fCat_e1, fRep_e1, fExt_e1, forget_cons, forget_nil, fg_d, fg_fn, fg_none, fg_box, fg_box', insAt, putA, List.lookup_cons, List.lookup_nil, noExc, Option.isSome_some, Option.isSome_none, and_self, and_true, true_and, eq_self, Int.add_zero, fnOf, scrOf, cntI, frzOf, lputOf, $ls,*])
  | `(tactic| simp_arith [$ls,*] $l:location) => `(tactic| simp -implicitDefEqProofs (disch := omega) only [kB_ap, kS_ap, xD_ap, dSeq_nx, dSeq_rt, dSeq_bk, dSeq_ct, dSeq_ex, dTry_nx, dTry_rt, dTry_bk, dTry_ct, dTry_ex, okE_bd, okS_so, okS_sq, nonD_n, nonD_i, nonD_s, nonD_b, nonD_t, nonD_l, getLast1, getLast1', setLast1, setLast1', takeLast2, zseq_ok, zdrop_ok, zset_ok, zsetF_ok, zifS_ok, ztru_ok, zop_ok, zcb_ok, zcf_ok, zacons_ok, zanil_ok, zc_ok, zv_ok, znil_ok, zret_ok, zcall_ok, zfz_ok, znew_ok, zneg_ok, zos_ok, zon_ok, zsl_ok, zslF_ok, ztup_ok, zlst_ok, zand_ok, zor_ok, znot_ok, zif_ok, zpar_ok, zpar3_ok, zasg_ok, zdnew_ok, znotV_ok, zbrk_ok, zcnt_ok, zopF_ok, zpop0_ok, zdget_ok, zdin_ok, zdnin_ok, zisi_ok, ziA_ok, ziQ_ok, ziL_ok, ziT_ok, zattr_ok, zaset_ok, zmake_ok, zpr_ok, zpr1_ok, zasgP_ok, zlset_ok, zlrg_ok, zkin_ok, zkget_ok, zraise_ok, zfor_ok, zwhile_ok, lamOf_ok, ztrue_ok, zorD_ok, zparA_ok, zdis_ok, ztst_ok, zandV_ok, zorV_ok, zchain_ok, zapp_ok, zmt1_ok, zcnt1_ok, zmeth_ok, zdget2_ok, zact_ok, zlamcall_ok, zfrz_ok, zdput_ok, zlput_ok, ztry_ok, zcatch_nil, zcatch_cons, app2_ok, gN_ap, gT2_ap, gT3_ap, wipeZ, okE_val, okE_exc, okS_nx, okS_rt, okS_bk, okS_ct, okS_ex, okE_ofOpt, rng1_ok, rng2_ok, izs_len, izr_len, List.map_cons, List.map_nil, List.cons_append, List.nil_append, List.replicate, List.length_cons, List.length_nil, List.length_append, List.length_map, List.length_set, List.getElem?_cons_zero, List.getElem?_cons_succ, List.getElem?_nil, List.set_cons_zero, List.set_cons_succ, lstAt, on1, on2, lstOnly, allD_nil, allD_cons, Option.map_some, Option.map_none, Option.bind_some, Option.bind_none, dMul_ok, dMod_ok, dDiv_ok, dEq_i, dEq_s, dEq_b, dNe_i, dNe_s, dNe_b, dEq_ti, dNe_ti, dEq_li, dNe_li, dIn, dNotIn, atI_0, atI_1, atI_2, dMin, dMax, dSum, dAll, dAny, intsOf_map, bolsOf_map, intsOf_nil, intsOf_cons, putS, lim, retN_d, getLast0, setLast0, takeLast0, takeLast1, List.take_succ_cons, List.take_zero, List.take_length, List.take_nil, decide_eq_true_eq, beq_iff_eq, if_true, if_false, Bool.not_true, Bool.not_false, Bool.not_eq_true', Bool.false_eq_true, Bool.true_eq_false, reduceIte, if_pos, if_neg, Nat.add_eq, List.isEmpty_cons, List.isEmpty_nil, Option.some.injEq, decide_true, decide_false, decide_eq_true, decide_eq_false, beq_self_eq_true, BEq.rfl, beq_eq_false_iff_ne, Nat.zero_add, Nat.reduceAdd, Int.toNat_natCast, Bool.not_eq_true, decide_eq_false_iff_not, bne_iff_ne, ne_eq, not_true_eq_false, not_false_eq_true, dAdd_e1, dAdd_e2, dAdd_e3, dSub_e1, dLt_e1, dLt_e2, dLt_e3, dLe_e1, dGt_e1, dGe_e1, dIs_e1, dIs_e2, dIsNot_e1, dIsNot_e2, dIx_e1, dIx_e2, dIx_e3, dTup_e1, dTup_e2, dInt_e1, dInt_e2, dMin2_e1, dMax2_e1, dAbs_e1, truth_e1, truth_e2, truth_e3, truth_e4, truth_e5, truth_e6, truS_e1, truS_e2, res_e1, res_e2, resD_e1, resD_e2, resD_e3, lenS_e1, lenS_e2, lenS_e3, lenS_e4, lenS_e5, itemsQ_e1, itemsQ_e2, itemsL_e1, itemsT_e1, bLst_e1, bLst_e2, dSl_e1, dSl_e2, zipOf_e1, zipOf_e2, enumOf_e1, enumOf_e2, keySl_e1, keyOf_e1, keyOf_e2, setAll_e1, setAll_e2, gNs_e1, bolOf_e1, datOf_e1, lsOf_e1, fCat_e1, fRep_e1, fExt_e1, forget_cons, forget_nil, fg_d, fg_fn, fg_none, fg_box, fg_box', insAt, putA, List.lookup_cons, List.lookup_nil, noExc, Option.isSome_some, Option.isSome_none, and_self, and_true, true_and, eq_self, Int.add_zero, fnOf, scrOf, cntI, frzOf, lputOf, $ls,*] $l)
theorem kinds_eq {p : Prog} {m : Nat} {nm : Nat → Str} {kd : Nat → Bool} (hl : p.length = m) (h : ∀ j c, p[j]? = some c → c.1 = nm j ∧ isW c.2 = kd j) :
    p.map (·.1) = (List.range m).map nm ∧ wrds p = ((List.range m).filter kd).map nm ∧ ords p = ((List.range m).filter fun i => !kd i).map nm := by
  have e1 : p.map (fun c => (c.1, isW c.2)) = (List.range m).map fun i => (nm i, kd i) := by
    refine List.ext_getElem? fun i => ?_
    rw [List.getElem?_map, List.getElem?_map]
    by_cases hi : i < m
    · rw [List.getElem?_range hi, List.getElem?_eq_getElem (by omega)]
      have := h i _ (List.getElem?_eq_getElem (by omega))
      simp [this.1, this.2]
    · rw [List.getElem?_eq_none (by omega), List.getElem?_eq_none (by simpa using hi)]
      rfl
  have io : ∀ c : Cell, isO c = !isW c := fun c => by cases c <;> rfl
  refine ⟨?_, ?_, ?_⟩
  · have := congrArg (List.map Prod.fst) e1
    simpa [List.map_map, Function.comp_def] using this
  · have := congrArg (fun l => (List.filter Prod.snd l).map Prod.fst) e1
    simpa [List.filter_map, List.map_map, Function.comp_def, wrds] using this
  · have := congrArg (fun l => (List.filter (fun x => !x.2) l).map Prod.fst) e1
    simpa [List.filter_map, List.map_map, Function.comp_def, ords, io] using this
theorem boolsAt {ks : List Bool} {i : Nat} (h : i < ks.length) : atI (ks.map PyData.bool) i = some (.bool (ks.getD i false)) := by
  rw [atI_ok (by omega) (by simp; omega), List.getElem?_map, Int.toNat_natCast, List.getElem?_eq_getElem h]
  simp [List.getD, h]
theorem nm_up {m st : Nat} (h : 1 ≤ st) : ((List.range m).map fun i => nmI (i * st)).Pairwise slt := by
  refine List.pairwise_map.mpr (List.pairwise_lt_range.imp fun {a b} q => slt_nmI ?_)
  exact Nat.mul_lt_mul_of_lt_of_le q (Nat.le_refl _) (by omega)
theorem program_ok {ns : List Int} {tw : List PyData} {R : Sto} {mx : Int} {X : XP} {P : Sl → Sto → Prop} (ht : tw.length < 50000) (h2 : 2 ≤ mx) (h12 : mx ≤ 12)
    (h : ∀ p tw', tw'.length ≤ tw.length + 65 → WF p → 2 ≤ (p.length : Int) → (p.length : Int) ≤ mx → ords p ≠ [] → (∀ c ∈ p, ∃ i, i < 26 ∧ c.1 = nmI i) → (∀ c n, (c, Cell.w n) ∈ p → -99 ≤ n ∧ n ≤ 99) → P (.d (dProg p)) (.scr ns :: .lst tw' :: R)) :
    OkE (F__law_program [.box 0, .box 1, .d (.int mx)] (.scr ns :: .lst tw :: R)) X P := by
  refine ok_def rfl ?_
  unfold z__law_program
  simp_arith []
  refine draw_ok (by omega) (by omega) fun v v0 v1 => ?_
  simp_arith []
  refine draw_ok (by simp; omega) (by omega) fun u u0 u1 => ?_
  obtain ⟨m, hm⟩ : ∃ m : Nat, 2 + v = m := ⟨(2 + v).toNat, by omega⟩
  obtain ⟨st, hst⟩ : ∃ m : Nat, 1 + u = m := ⟨(1 + u).toNat, by omega⟩
  have hm12 : m ≤ 12 := by omega
  have hm2 : 2 ≤ m := by omega
  have st2 : st ≤ 2 := by omega
  have st1 : 1 ≤ st := by omega
  have ist : ∀ i, i < m → i * st < 26 := fun i hi => by
    have := Nat.mul_le_mul (show i ≤ 11 by omega) st2
    omega
  have enm : (izs m).map (fun (x : Int) => PyData.str (nmI (x * st).toNat)) = (List.range m).map fun i => .str (nmI (i * st)) := by
    unfold izs
    rw [List.map_map]
    refine List.map_congr_left fun i _ => ?_
    show PyData.str (nmI (((i : Int) * st)).toNat) = .str (nmI (i * st))
    congr 2
  simp_arith [hm, hst]
  refine lc_M (izs m) .int (fun (x : Int) => .str (nmI (x * st).toNat)) (by simp_arith []) (by rw [izs_len]; omega) (fun x hx => ⟨_, rfl, by
    have hx := izs_mem.mp hx
    obtain ⟨i, rfl⟩ : ∃ i : Nat, x = i := ⟨x.toNat, by omega⟩
    have := ist i (by omega)
    have e : (i : Int) * st = (i * st : Nat) := by simp
    simp_arith [letters_len, letA (i := (i : Int) * st) (by omega) (by omega)]⟩) ?_
  rw [enm]
  simp_arith []
  refine lc_I (fun i acc S1 => ∃ (tw' : List PyData) (ks : List Bool), acc = ks.map .bool ∧ ks.length = i ∧ tw'.length = tw.length + 2 + i ∧ S1 = .scr ns :: .lst tw' :: R) ((izs m).map .int) (by simp_arith []) (by rw [List.length_map, izs_len]; omega) ⟨_, [], rfl, rfl, by simp, rfl⟩ ?_ ?_
  · rintro i d acc S1 hd ⟨tw', ks, rfl, hk, hl, rfl⟩
    have hi : i < m := by
      have := (List.getElem?_eq_some_iff.mp hd).1
      rwa [List.length_map, izs_len] at this
    refine ⟨_, rfl, ?_⟩
    simp_arith []
    refine draw_ok (by omega) (by omega) fun w _ _ => ?_
    simp_arith []
    exact ⟨.bool (w == 0), rfl, tw' ++ [.int 0], ks ++ [w == 0], by simp, by simp; omega, by simp; omega, rfl⟩
  rintro ys S1 ⟨tw1, ks, rfl, hk, hl, rfl⟩
  rw [List.length_map, izs_len] at hk hl
  simp_arith []
  refine draw_ok (by omega) (by omega) fun j j0 j1 => ?_
  have hix : L2.ixN m j = some j.toNat := by
    unfold L2.ixN
    rw [if_pos j0, if_pos j1]
  obtain ⟨kd, hkd, kl⟩ : ∃ kd, ks.set j.toNat false = kd ∧ kd.length = m := ⟨_, rfl, by simp [hk]⟩
  have kj : kd.getD j.toNat false = false := by
    rw [← hkd]
    simp [List.getD, List.getElem?_set]
    split <;> simp
  have ek : (ks.map PyData.bool).set j.toNat (.bool false) = kd.map .bool := by rw [← hkd, List.map_set]
  have bA : ∀ i, i < m → atI (kd.map PyData.bool) (i : Int) = some (.bool (kd.getD i false)) := fun i hi => boolsAt (by omega)
  simp_arith [hk, hix, ek]
  refine lc_G (List.range m) (fun i => .tuple [.int (i : Nat), .str (nmI (i * st))]) (fun i => kd.getD i false) (fun i => .str (nmI (i * st))) (by simp_arith [enum_range]) (by simp; omega) (fun i hi => ⟨_, rfl, by simp_arith [bA i (List.mem_range.mp hi)], fun _ => by simp_arith []⟩) ?_
  simp_arith []
  refine lc_G (List.range m) (fun i => .tuple [.int (i : Nat), .str (nmI (i * st))]) (fun i => !kd.getD i false) (fun i => .str (nmI (i * st))) (by simp_arith [enum_range]) (by simp; omega) (fun i hi => ⟨_, rfl, by simp_arith [bA i (List.mem_range.mp hi)], fun _ => by simp_arith []⟩) ?_
  obtain ⟨ws, hws⟩ : ∃ ws, ((List.range m).filter fun i => kd.getD i false).map (fun i => nmI (i * st)) = ws := ⟨_, rfl⟩
  obtain ⟨os, hos⟩ : ∃ ws, ((List.range m).filter fun i => !kd.getD i false).map (fun i => nmI (i * st)) = ws := ⟨_, rfl⟩
  have ew : ((List.range m).filter fun i => kd.getD i false).map (fun i => PyData.str (nmI (i * st))) = dStrs ws := by
    rw [← hws, dStrs, List.map_map]
    rfl
  have eo : ((List.range m).filter fun i => !kd.getD i false).map (fun i => PyData.str (nmI (i * st))) = dStrs os := by
    rw [← hos, dStrs, List.map_map]
    rfl
  have one : os ≠ [] := by
    rw [← hos]
    intro z
    have : j.toNat ∈ (List.range m).filter fun i => !kd.getD i false := List.mem_filter.mpr ⟨List.mem_range.mpr (by omega), by rw [kj]; rfl⟩
    rw [List.map_eq_nil_iff.mp z] at this
    simp at this
  rw [ew, eo]
  simp_arith [enum_range]
  refine ok_for (fun i Γ S => ∃ (acc : Prog) (tw' : List PyData) (g11 g12 g13 : Option Sl), acc.length = i ∧ (∀ j c, acc[j]? = some c → c.1 = nmI (j * st) ∧ isW c.2 = kd.getD j false) ∧ (∀ c ∈ acc, OkO os ws c.2) ∧ (∀ c n, (c, Cell.w n) ∈ acc → -99 ≤ n ∧ n ≤ 99) ∧ tw'.length ≤ tw.length + 3 + m + 4 * i ∧
    Γ = [some (.box 0), some (.box 1), some (.d (.int mx)), some (.d (.str "abcdefghijklmnopqrstuvwxyz")), some (.d (.int m)), some (.d (.int st)), some (.d (.list ((List.range m).map fun i => .str (nmI (i * st))))), some (.box (R.length + 1 + 1)), some (.d (.list (dStrs ws))), some (.d (.list (dStrs os))), some (.d (.tuple (acc.map dRow))), g11, g12, g13] ∧
    S = .scr ns :: .lst tw' :: (R ++ [.lst (kd.map .bool)])) ?_ ?_ ?_
  · exact ⟨[], _, none, none, none, rfl, by simp, by simp, by simp, by simp; omega, rfl, rfl⟩
  · rintro i d Γ S hd ⟨acc, tw', g11, g12, g13, al, a1, a2, a3, a4, rfl, rfl⟩
    have hi : i < m := by
      have := (List.getElem?_eq_some_iff.mp hd).1
      simpa using this
    rw [List.getElem?_map, List.getElem?_range hi] at hd
    cases hd
    refine ⟨_, rfl, ?_⟩
    unfold b1__law_program
    have fin : ∀ (c : Cell), isW c = kd.getD i false → (∀ j c', (acc ++ [(nmI (i * st), c)])[j]? = some c' → c'.1 = nmI (j * st) ∧ isW c'.2 = kd.getD j false) := by
      intro c hc j c' hj
      by_cases q : j < acc.length
      · rw [List.getElem?_append_left q] at hj
        exact a1 j c' hj
      · rw [List.getElem?_append_right (by omega)] at hj
        have : j = i := by
          have := (List.getElem?_eq_some_iff.mp hj).1
          simp at this
          omega
        subst this
        rw [al, Nat.sub_self] at hj
        cases hj
        exact ⟨rfl, hc⟩
    cases hkb : kd.getD i false with
    | true =>
      simp_arith [bA i hi, hkb]
      refine pickL_ok (by omega) (by simp) fun v hv => ?_
      obtain ⟨n, rfl, n0, n1⟩ : ∃ n : Int, v = .int n ∧ -99 ≤ n ∧ n ≤ 99 := by
        simp at hv
        rcases hv with rfl | rfl | rfl | rfl | rfl | rfl
        · exact ⟨_, rfl, by omega, by omega⟩
        · exact ⟨_, rfl, by omega, by omega⟩
        · exact ⟨_, rfl, by omega, by omega⟩
        · exact ⟨_, rfl, by omega, by omega⟩
        · exact ⟨_, rfl, by omega, by omega⟩
        · exact ⟨_, rfl, by omega, by omega⟩
      simp_arith [List.length_map]
      refine ⟨acc ++ [(nmI (i * st), .w n)], tw' ++ [.int 0], some (.d (.int (i : Nat))), some (.d (.str (nmI (i * st)))), some (.d (.int n)), by simp [al], fin _ (by rw [hkb]; rfl), ?_, ?_, by simp; omega, ?_, rfl⟩
      · intro c hc
        rcases List.mem_append.mp hc with q | q
        · exact a2 c q
        · have : c = (nmI (i * st), .w n) := by simpa using q
          subst this
          exact .w n
      · intro c n' hc
        rcases List.mem_append.mp hc with q | q
        · exact a3 c n' q
        · have := (Prod.mk.inj (by simpa using q : (c, Cell.w n') = (nmI (i * st), .w n))).2
          cases this
          exact ⟨n0, n1⟩
      · simp_arith [List.map_append, dRow, dCell]
    | false =>
      simp_arith [bA i hi, hkb]
      refine order_ok (by omega) one fun c tw2 htw hc ho => ?_
      have hcw : isW c = false := by cases c with
        | w n => exact absurd ho (by simp [isO])
        | o k as => rfl
      simp_arith [List.length_map]
      refine ⟨acc ++ [(nmI (i * st), c)], tw2, some (.d (.int (i : Nat))), some (.d (.str (nmI (i * st)))), some (.d (dCell c)), by simp [al], fin _ (by rw [hkb]; exact hcw), ?_, ?_, by omega, ?_, rfl⟩
      · intro c' hc'
        rcases List.mem_append.mp hc' with q | q
        · exact a2 c' q
        · have : c' = (nmI (i * st), c) := by simpa using q
          subst this
          exact hc
      · intro c' n' hc'
        rcases List.mem_append.mp hc' with q | q
        · exact a3 c' n' q
        · have := (Prod.mk.inj (by simpa using q : (c', Cell.w n') = (nmI (i * st), c))).2
          rw [← this] at hcw
          exact absurd hcw (by simp [isW])
      · simp_arith [List.map_append, dRow]
  · rintro Γ S ⟨p, tw', g11, g12, g13, al, a1, a2, a3, a4, rfl, rfl⟩
    rw [List.length_map, List.length_range] at al a4
    obtain ⟨k1, k2, k3⟩ := kinds_eq al a1
    rw [hws] at k2
    rw [hos] at k3
    simp_arith []
    refine h p tw' (by omega) ⟨fun c hc => ?_, ?_, by omega⟩ (by omega) (by omega) (by rw [k3]; exact one) (fun c hc => ?_) a3
    · rw [k2, k3]
      exact a2 c hc
    · rw [k1]
      exact nm_up st1
    · have : c.1 ∈ p.map (·.1) := List.mem_map.mpr ⟨c, hc, rfl⟩
      rw [k1] at this
      obtain ⟨i, hi, e⟩ := List.mem_map.mp this
      exact ⟨i * st, ist i (List.mem_range.mp hi), e.symm⟩
end Zc
end
section
set_option Elab.async false
set_option linter.all false
set_option maxRecDepth 100000
set_option autoImplicit false
set_option maxHeartbeats 4000000
namespace Zc
open PySem Z
open L2 (atI)
local macro_rules
  | `(tactic| simp_arith [$ls,*]) => `(tactic| simp -implicitDefEqProofs (disch := omega) only [kB_ap, kS_ap, xD_ap, dSeq_nx, dSeq_rt, dSeq_bk, dSeq_ct, dSeq_ex, dTry_nx, dTry_rt, dTry_bk, dTry_ct, dTry_ex, okE_bd, okS_so, okS_sq, nonD_n, nonD_i, nonD_s, nonD_b, nonD_t, nonD_l, getLast1, getLast1', setLast1, setLast1', takeLast2, zseq_ok, zdrop_ok, zset_ok, zsetF_ok, zifS_ok, ztru_ok, zop_ok, zcb_ok, zcf_ok, zacons_ok, zanil_ok, zc_ok, zv_ok, znil_ok, zret_ok, zcall_ok, zfz_ok, znew_ok, zneg_ok, zos_ok, zon_ok, zsl_ok, zslF_ok, ztup_ok, zlst_ok, zand_ok, zor_ok, znot_ok, zif_ok, zpar_ok, zpar3_ok, zasg_ok, zdnew_ok, znotV_ok, zbrk_ok, zcnt_ok, zopF_ok, zpop0_ok, zdget_ok, zdin_ok, zdnin_ok, zisi_ok, ziA_ok, ziQ_ok, ziL_ok, ziT_ok, zattr_ok, zaset_ok, zmake_ok, zpr_ok, zpr1_ok, zasgP_ok, zlset_ok, zlrg_ok, zkin_ok, zkget_ok, zraise_ok, zfor_ok, zwhile_ok, lamOf_ok, ztrue_ok, zorD_ok, zparA_ok, zdis_ok, ztst_ok, zandV_ok, zorV_ok, zchain_ok, zapp_ok, zmt1_ok, zcnt1_ok, zmeth_ok, zdget2_ok, zact_ok, zlamcall_ok, zfrz_ok, zdput_ok, zlput_ok, ztry_ok, zcatch_nil, zcatch_cons, app2_ok, gN_ap, gT2_ap, gT3_ap, wipeZ, okE_val, okE_exc, okS_nx, okS_rt, okS_bk, okS_ct, okS_ex, okE_ofOpt, rng1_ok, rng2_ok, izs_len, izr_len, List.map_cons, List.map_nil, List.cons_append, List.nil_append, List.replicate, List.length_cons, List.length_nil, List.length_append, List.length_map, List.length_set, List.getElem?_cons_zero, List.getElem?_cons_succ, List.getElem?_nil, List.set_cons_zero, List.set_cons_succ, lstAt, on1, on2, lstOnly, allD_nil, allD_cons, Option.map_some, Option.map_none, Option.bind_some, Option.bind_none, dMul_ok, dMod_ok, dDiv_ok, dEq_i, dEq_s, dEq_b, dNe_i, dNe_s, dNe_b, dEq_ti, dNe_ti, dEq_li, dNe_li, dIn, dNotIn, atI_0, atI_1, atI_2, dMin, dMax, dSum, dAll, dAny, intsOf_map, bolsOf_map, intsOf_nil, intsOf_cons, putS, lim, retN_d, getLast0, setLast0, takeLast0, takeLast1, List.take_succ_cons, List.take_zero, List.take_length, List.take_nil, decide_eq_true_eq, beq_iff_eq, if_true, if_false, Bool.not_true, Bool.not_false, Bool.not_eq_true', Bool.false_eq_true, Bool.true_eq_false, reduceIte, if_pos, if_neg, Nat.add_eq, List.isEmpty_cons, List.isEmpty_nil, Option.some.injEq, decide_true, decide_false, decide_eq_true, decide_eq_false, beq_self_eq_true, BEq.rfl, beq_eq_false_iff_ne, Nat.zero_add, Nat.reduceAdd, Int.toNat_natCast, Bool.not_eq_true, decide_eq_false_iff_not, bne_iff_ne, ne_eq, not_true_eq_false, not_false_eq_true, dAdd_e1, dAdd_e2, dAdd_e3, dSub_e1, dLt_e1, dLt_e2, dLt_e3, dLe_e1, dGt_e1, dGe_e1, dIs_e1, dIs_e2, dIsNot_e1, dIsNot_e2, dIx_e1, dIx_e2, dIx_e3, dTup_e1, dTup_e2, dInt_e1, dInt_e2, dMin2_e1, dMax2_e1, dAbs_e1, truth_e1, truth_e2, truth_e3, truth_e4, truth_e5, truth_e6, truS_e1, truS_e2, res_e1, res_e2, resD_e1, resD_e2, resD_e3, lenS_e1, lenS_e2, lenS_e3, lenS_e4, lenS_e5, itemsQ_e1, itemsQ_e2, itemsL_e1, itemsT_e1, bLst_e1, bLst_e2, dSl_e1, dSl_e2, zipOf_e1, zipOf_e2, enumOf_e1, enumOf_e2, keySl_e1, keyOf_e1, keyOf_e2, setAll_e1, setAll_e2, gNs_e1, bolOf_e1, datOf_e1, lsOf_e1, fCat_e1, fRep_e1, fExt_e1, forget_cons, forget_nil, fg_d, fg_fn, fg_none, fg_box, fg_box', insAt, putA, List.lookup_cons, List.lookup_nil, noExc, Option.isSome_some, Option.isSome_none, and_self, and_true, true_and, eq_self, Int.add_zero, fnOf, scrOf, cntI, frzOf, lputOf, $ls,*])
  | `(tactic| simp_arith [$ls,*] $l:location) => `(tactic| simp -implicitDefEqProofs (disch := omega) only [kB_ap, kS_ap, xD_ap, dSeq_nx, dSeq_rt, dSeq_bk, dSeq_ct, dSeq_ex, dTry_nx, dTry_rt, dTry_bk, dTry_ct, dTry_ex, okE_bd, okS_so, okS_sq, nonD_n, nonD_i, nonD_s, nonD_b, nonD_t, nonD_l, getLast1, getLast1', setLast1, setLast1', takeLast2, zseq_ok, zdrop_ok, zset_ok, zsetF_ok, zifS_ok, ztru_ok, zop_ok, zcb_ok, zcf_ok, zacons_ok, zanil_ok, zc_ok, zv_ok, znil_ok, zret_ok, zcall_ok, zfz_ok, znew_ok, zneg_ok, zos_ok, zon_ok, zsl_ok, zslF_ok, ztup_ok, zlst_ok, zand_ok, zor_ok, znot_ok, zif_ok, zpar_ok, zpar3_ok, zasg_ok, zdnew_ok, znotV_ok, zbrk_ok, zcnt_ok, zopF_ok, zpop0_ok, zdget_ok, zdin_ok, zdnin_ok, zisi_ok, ziA_ok, ziQ_ok, ziL_ok, ziT_ok, zattr_ok, zaset_ok, zmake_ok, zpr_ok, zpr1_ok, zasgP_ok, zlset_ok, zlrg_ok, zkin_ok, zkget_ok, zraise_ok, zfor_ok, zwhile_ok, lamOf_ok, ztrue_ok, zorD_ok, zparA_ok, zdis_ok, ztst_ok, zandV_ok, zorV_ok, zchain_ok, zapp_ok, zmt1_ok, zcnt1_ok, zmeth_ok, zdget2_ok, zact_ok, zlamcall_ok, zfrz_ok, zdput_ok, zlput_ok, ztry_ok, zcatch_nil, zcatch_cons, app2_ok, gN_ap, gT2_ap, gT3_ap, wipeZ, okE_val, okE_exc, okS_nx, okS_rt, okS_bk, okS_ct, okS_ex, okE_ofOpt, rng1_ok, rng2_ok, izs_len, izr_len, List.map_cons, List.map_nil, List.cons_append, List.nil_append, List.replicate, List.length_cons, List.length_nil, List.length_append, List.length_map, List.length_set, List.getElem?_cons_zero, List.getElem?_cons_succ, List.getElem?_nil, List.set_cons_zero, List.set_cons_succ, lstAt, on1, on2, lstOnly, allD_nil, allD_cons, Option.map_some, Option.map_none, Option.bind_some, Option.bind_none, dMul_ok, dMod_ok, dDiv_ok, dEq_i, dEq_s, dEq_b, dNe_i, dNe_s, dNe_b, dEq_ti, dNe_ti, dEq_li, dNe_li, dIn, dNotIn, atI_0, atI_1, atI_2, dMin, dMax, dSum, dAll, dAny, intsOf_map, bolsOf_map, intsOf_nil, intsOf_cons, putS, lim, retN_d, getLast0, setLast0, takeLast0, takeLast1, List.take_succ_cons, List.take_zero, List.take_length, List.take_nil, decide_eq_true_eq, beq_iff_eq, if_true, if_false, Bool.not_true, Bool.not_false, Bool.not_eq_true', Bool.false_eq_true, Bool.true_eq_false, reduceIte, if_pos, if_neg, Nat.add_eq, List.isEmpty_cons, List.isEmpty_nil, Option.some.injEq, decide_true, decide_false, decide_eq_true, decide_eq_false, beq_self_eq_true, BEq.rfl, beq_eq_false_iff_ne, Nat.zero_add, Nat.reduceAdd, Int.toNat_natCast, Bool.not_eq_true, decide_eq_false_iff_not, bne_iff_ne, ne_eq, not_true_eq_false, not_false_eq_true, dAdd_e1, dAdd_e2, dAdd_e3, dSub_e1, dLt_e1, dLt_e2, dLt_e3, dLe_e1, dGt_e1, dGe_e1, dIs_e1, dIs_e2, dIsNot_e1, dIsNot_e2, dIx_e1, dIx_e2, dIx_e3, dTup_e1, dTup_e2, dInt_e1, dInt_e2, dMin2_e1, dMax2_e1, dAbs_e1, truth_e1, truth_e2, truth_e3, truth_e4, truth_e5, truth_e6, truS_e1, truS_e2, res_e1, res_e2, resD_e1, resD_e2, resD_e3, lenS_e1, lenS_e2, lenS_e3, lenS_e4, lenS_e5, itemsQ_e1, itemsQ_e2, itemsL_e1, itemsT_e1, bLst_e1, bLst_e2, dSl_e1, dSl_e2, zipOf_e1, zipOf_e2, enumOf_e1, enumOf_e2, keySl_e1, keyOf_e1, keyOf_e2, setAll_e1, setAll_e2, gNs_e1, bolOf_e1, datOf_e1, lsOf_e1, fCat_e1, fRep_e1, fExt_e1, forget_cons, forget_nil, fg_d, fg_fn, fg_none, fg_box, fg_box', insAt, putA, List.lookup_cons, List.lookup_nil, noExc, Option.isSome_some, Option.isSome_none, and_self, and_true, true_and, eq_self, Int.add_zero, fnOf, scrOf, cntI, frzOf, lputOf, $ls,*] $l)
theorem spot_app {l : Lay} {a : Str} {b : Int} : l.map dSpot ++ [.tuple [.str a, .int b]] = (l ++ [(a, b)]).map dSpot := by simp [dSpot]
theorem row_app {l : Prog} {a : Str} {b : Cell} : l.map dRow ++ [.tuple [.str a, dCell b]] = (l ++ [(a, b)]).map dRow := by simp [dRow]
theorem step_app {l : List Row} {a : Str} {b : Int} {c : Option Int} : l.map dStep ++ [.tuple [.str a, .int b, dOI c]] = (l ++ [(a, b, c)]).map dStep := by simp [dStep]
theorem laying_ok {ns : List Int} {tw : List PyData} {R : Sto} {n : Int} {hd : PyData} {p : Prog} {X : XP} {P : Sl → Sto → Prop} (ht : tw.length < 50000) (hp : (p.length : Int) ≤ n) (hn : n ≤ 1000)
    (h : ∀ l tw', tw'.length ≤ tw.length + p.length → OkL n p l → P (.d (dLay l)) (.scr ns :: .lst tw' :: R)) :
    OkE (F__law_laying [.box 0, .box 1, .d (.tuple [.int n, hd]), .d (dProg p)] (.scr ns :: .lst tw :: R)) X P := by
  refine ok_def rfl ?_
  unfold z__law_laying
  have n0 : 0 ≤ n := by omega
  simp_arith [dProg]
  refine ok_for (fun i Γ S => ∃ (left : List Int) (l : Lay) (tw' : List PyData) (g6 g7 g8 : Option Sl), l.map (·.1) = (p.map (·.1)).take i ∧ left.length + i = n.toNat ∧ (l.map (·.2) ++ left).Nodup ∧ (∀ x ∈ l.map (·.2) ++ left, 0 ≤ x ∧ x < n) ∧ tw'.length = tw.length + i ∧
    Γ = [some (.box 0), some (.box 1), some (.d (.tuple [.int n, hd])), some (.d (.tuple (p.map dRow))), some (.box (R.length + 1 + 1)), some (.d (.tuple (l.map dSpot))), g6, g7, g8] ∧
    S = .scr ns :: .lst tw' :: (R ++ [.lst (left.map .int)])) ?_ ?_ ?_
  · refine ⟨izs n.toNat, [], tw, none, none, none, rfl, by rw [izs_len]; rfl, ?_, ?_, rfl, rfl, ?_⟩
    · have := izr_nodup (a := 0) (k := n.toNat)
      have e : izr 0 n.toNat = izs n.toNat := by
        unfold izr izs
        refine List.map_congr_left fun i _ => ?_
        omega
      rw [e] at this
      simpa using this
    · intro x hx
      have := izs_mem.mp (by simpa using hx)
      omega
    · rw [rngL_izs]
  · rintro i d Γ S hd ⟨left, l, tw', g6, g7, g8, h1, h2, h3, h4, h5, rfl, rfl⟩
    have hi : i < p.length := by
      have := (List.getElem?_eq_some_iff.mp hd).1
      simpa using this
    rw [List.getElem?_map, List.getElem?_eq_getElem hi] at hd
    cases hd
    refine ⟨_, rfl, ?_⟩
    unfold b1__law_laying
    simp_arith []
    refine draw_ok (by omega) (by omega) fun v v0 v1 => ?_
    obtain ⟨y, hy, e⟩ := popAt_ok (ds := left.map .int) v0 (by simpa using v1) (by simp; omega)
    rw [List.getElem?_map] at hy
    have hv : v.toNat < left.length := by omega
    rw [List.getElem?_eq_getElem hv] at hy
    cases hy
    have ll : l.length ≤ 1000 := by
      have := congrArg List.length h1
      simp at this
      omega
    have per : (left[v.toNat] :: left.eraseIdx v.toNat).Perm left := by
      have := List.perm_middle (a := left[v.toNat]) (l₁ := left.take v.toNat) (l₂ := left.drop (v.toNat + 1))
      rw [List.eraseIdx_eq_take_drop_succ]
      refine this.symm.trans ?_
      rw [List.getElem_cons_drop, List.take_append_drop]
    have per2 : ((l ++ [((p[i]).1, left[v.toNat])]).map (·.2) ++ left.eraseIdx v.toNat).Perm (l.map (·.2) ++ left) := by
      rw [List.map_append, List.append_assoc]
      exact List.Perm.append_left _ per
    have e2 : (left.map PyData.int).eraseIdx v.toNat = (left.eraseIdx v.toNat).map .int := by
      rw [List.eraseIdx_eq_take_drop_succ, List.eraseIdx_eq_take_drop_succ, List.map_append, List.map_take, List.map_drop]
    simp_arith [e, List.length_map, spot_app, e2]
    refine ⟨left.eraseIdx v.toNat, l ++ [((p[i]).1, left[v.toNat])], tw' ++ [.int 0], _, _, _, ?_, ?_, per2.nodup_iff.mpr h3, fun x hx => h4 x (per2.mem_iff.mp hx), by simp; omega, rfl, rfl⟩
    · rw [List.map_append, h1, List.take_add_one]
      simp [hi]
    · rw [List.length_eraseIdx_of_lt hv]
      omega
  · rintro Γ S ⟨left, l, tw', g6, g7, g8, h1, h2, h3, h4, h5, rfl, rfl⟩
    rw [List.length_map] at h1 h5
    rw [List.take_of_length_le (by simp)] at h1
    simp_arith []
    exact h l tw' (by omega) ⟨h1, fun x hx => h4 _ (List.mem_append_left _ (List.mem_map.mpr ⟨x, hx, rfl⟩)), (List.nodup_append.mp h3).1⟩
/-! ### path, work, waits -/
def idW : Str → Int → Int := fun _ t => t
theorem timed_x {wh : Str → Int → Int} : ∀ {es : List Ev} {t : Int}, (timed wh t es).1.map (·.1) = es.map (·.x)
  | [], _ => rfl
  | e :: es, t => by
    rw [timed_cons]
    simp [timed_x]
theorem timed_len {wh : Str → Int → Int} {es : List Ev} {t : Int} : (timed wh t es).1.length = es.length := by
  have := congrArg List.length (timed_x (wh := wh) (es := es) (t := t))
  simpa using this
theorem trace_len : ∀ {n : Nat} {s : Ct}, (trace n s).1.length ≤ n
  | 0, s => Nat.le_refl _
  | n + 1, s => by
    cases hn : s.nx with
    | none => rw [trace_none hn]; simp
    | some x =>
      rw [trace_some hn]
      have := trace_len (n := n) (s := (cstep s x).2)
      simp only [List.length_cons]
      omega
section
variable {p : Prog} {x : Str} {m : Nat} {S : Sto} {ns : List Int}
theorem path_ok (hS : S[0]? = some (.scr ns)) (hp : WF p) (hx : x ∈ ords p) (hm : m ≤ 1000) : F_path [.d (dProg p), .d (.str x), .d (.int m)] S = .val (.d (.tuple (dStrs ((tr p x m).1.map (·.x))))) S := by
  have e1 := need_ok (p := p) (x := x) (S := S) (by have := hp.len; omega) hx
  have e3 := steps_of_ok (lam := lamOf (zv 8) 5 8 [some (.d (dProg p)), some (.d (.str x)), some (.d (.int m)), none, none, none, none, none, none]) (wh := idW) (p := p) (start := x) (t := 0) (most := m) (S := S) (fun y hy u b => by
      unfold idW
      refine OkE.val ?_; simp_arith []) hp hx hm
  refine OkE.val (ok_def rfl ?_)
  unfold z_path
  simp_arith [e1, hS, e3, dSteps]
  refine lc_G (timed idW 0 (tr p x m).1).1 dStep (fun _ => true) (fun c => .str c.1) (by simp_arith []) ?_ (fun c hc => ⟨_, rfl, ⟨rfl, rfl⟩, fun _ => ⟨rfl, rfl⟩⟩) ?_
  · have : (tr p x m).1.length ≤ m := trace_len (n := m) (s := st0 p x)
    rw [timed_len]
    omega
  · have e : ((timed idW 0 (tr p x m).1).1.filter fun _ => true).map (fun c => PyData.str c.1) = dStrs ((tr p x m).1.map (·.x)) := by
      rw [← timed_x (wh := idW) (t := 0), dStrs, List.map_map, List.filter_eq_self.mpr (fun _ _ => rfl)]
      rfl
    rw [e]
    simp_arith []
theorem work_ok (hS : S[0]? = some (.scr ns)) (hp : WF p) (hx : x ∈ ords p) (hm : m ≤ 1000) : F_work [.d (dProg p), .d (.str x), .d (.int m)] S = .val (.d (.int (timed idW 0 (tr p x m).1).2)) S := by
  have e1 := need_ok (p := p) (x := x) (S := S) (by have := hp.len; omega) hx
  have e3 := steps_of_ok (lam := lamOf (zv 4) 3 4 [some (.d (dProg p)), some (.d (.str x)), some (.d (.int m)), none, none]) (wh := idW) (p := p) (start := x) (t := 0) (most := m) (S := S) (fun y hy u b => by
      unfold idW
      refine OkE.val ?_; simp_arith []) hp hx hm
  unfold mB mBox at e3
  refine OkE.val (ok_def rfl ?_)
  unfold z_work
  simp_arith [Zs.se_put_add, Zs.sn_put_add, Zs.se_put_sub, Zs.sn_put_sub, Zs.se_put_save, Zs.sn_put_save, Zs.se_put_less, Zs.sn_put_less, Zs.se_put_stop, Zs.sn_put_stop, Zs.se_add_put, Zs.sn_add_put, Zs.se_add_sub, Zs.sn_add_sub, Zs.se_add_save, Zs.sn_add_save, Zs.se_add_less, Zs.sn_add_less, Zs.se_add_stop, Zs.sn_add_stop, Zs.se_sub_put, Zs.sn_sub_put, Zs.se_sub_add, Zs.sn_sub_add, Zs.se_sub_save, Zs.sn_sub_save, Zs.se_sub_less, Zs.sn_sub_less, Zs.se_sub_stop, Zs.sn_sub_stop, Zs.se_save_put, Zs.sn_save_put, Zs.se_save_add, Zs.sn_save_add, Zs.se_save_sub, Zs.sn_save_sub, Zs.se_save_less, Zs.sn_save_less, Zs.se_save_stop, Zs.sn_save_stop, Zs.se_less_put, Zs.sn_less_put, Zs.se_less_add, Zs.sn_less_add, Zs.se_less_sub, Zs.sn_less_sub, Zs.se_less_save, Zs.sn_less_save, Zs.se_less_stop, Zs.sn_less_stop, Zs.se_stop_put, Zs.sn_stop_put, Zs.se_stop_add, Zs.sn_stop_add, Zs.se_stop_sub, Zs.sn_stop_sub, Zs.se_stop_save, Zs.sn_stop_save, Zs.se_stop_less, Zs.sn_stop_less, Zs.se_held_next, Zs.sn_held_next, Zs.se_held_time, Zs.sn_held_time, Zs.se_held_cells, Zs.sn_held_cells, Zs.se_held_step, Zs.sn_held_step, Zs.se_held_words, Zs.sn_held_words, Zs.se_held_done, Zs.sn_held_done, Zs.se_next_held, Zs.sn_next_held, Zs.se_next_time, Zs.sn_next_time, Zs.se_next_cells, Zs.sn_next_cells, Zs.se_next_step, Zs.sn_next_step, Zs.se_next_words, Zs.sn_next_words, Zs.se_next_done, Zs.sn_next_done, Zs.se_time_held, Zs.sn_time_held, Zs.se_time_next, Zs.sn_time_next, Zs.se_time_cells, Zs.sn_time_cells, Zs.se_time_step, Zs.sn_time_step, Zs.se_time_words, Zs.sn_time_words, Zs.se_time_done, Zs.sn_time_done, Zs.se_cells_held, Zs.sn_cells_held, Zs.se_cells_next, Zs.sn_cells_next, Zs.se_cells_time, Zs.sn_cells_time, Zs.se_cells_step, Zs.sn_cells_step, Zs.se_cells_words, Zs.sn_cells_words, Zs.se_cells_done, Zs.sn_cells_done, Zs.se_step_held, Zs.sn_step_held, Zs.se_step_next, Zs.sn_step_next, Zs.se_step_time, Zs.sn_step_time, Zs.se_step_cells, Zs.sn_step_cells, Zs.se_step_words, Zs.sn_step_words, Zs.se_step_done, Zs.sn_step_done, Zs.se_words_held, Zs.sn_words_held, Zs.se_words_next, Zs.sn_words_next, Zs.se_words_time, Zs.sn_words_time, Zs.se_words_cells, Zs.sn_words_cells, Zs.se_words_step, Zs.sn_words_step, Zs.se_words_done, Zs.sn_words_done, Zs.se_done_held, Zs.sn_done_held, Zs.se_done_next, Zs.sn_done_next, Zs.se_done_time, Zs.sn_done_time, Zs.se_done_cells, Zs.sn_done_cells, Zs.se_done_step, Zs.sn_done_step, Zs.se_done_words, Zs.sn_done_words, e1, hS, e3, dSteps]
theorem waits_ok {n : Int} {hs : List Int} {l : Lay} {t : Int} (hS : S[0]? = some (.scr ns)) (hn : 0 < n) (hne : hs ≠ []) (hl : hs.length ≤ 1000) (hp : WF p) (h : OkL n p l) (hx : x ∈ ords p) (hm : m ≤ 1000) :
    F_waits [.d (dDrum n hs), .d (dProg p), .d (dLay l), .d (.str x), .d (.int t), .d (.int m)] S = .val (.d (.int ((timed (whR n hs l) t (tr p x m).1).2 - t - (timed idW 0 (tr p x m).1).2))) S := by
  have e1 := run_ok (t := t) hS hn hne hl hp h hx hm
  have e2 := work_ok hS hp hx hm
  unfold dRun at e1
  refine OkE.val (ok_def rfl ?_)
  unfold z_waits
  simp_arith [e1, e2]
end
end Zc
end
section
set_option Elab.async false
set_option linter.all false
set_option maxRecDepth 100000
set_option autoImplicit false
set_option maxHeartbeats 4000000
namespace Zc
open PySem Z
open L2 (atI)
/-! ### read times: later, no earlier -/
theorem rt_mono {n : Int} {hs : List Int} {s t t' : Int} (hn : 0 < n) (hs0 : 0 ≤ s) (hs1 : s < n) (hne : hs ≠ []) (h : t ≤ t') : rt n hs s t ≤ rt n hs s t' := by
  rcases Int.lt_or_le (rt n hs s t') (rt n hs s t) with q | q
  · have b := rt_bounds (s := s) (t := t') hn hne
    have := rt_first (n := n) (hs := hs) (s := s) (t := t) (u := rt n hs s t') hn (by omega) q
    rw [rt_under hs0 hs1 hne] at this
    cases this
  · exact q
theorem rt_turn {n : Int} {hs : List Int} {s t : Int} (hne : hs ≠ []) : rt n hs s (t + n) = rt n hs s t + n := by
  rw [rt_same (s := s) (t := t) hne fun x _ => ?_]
  · omega
  · have e1 : s - x - (t + n) = (s - x - t) - n := by omega
    rw [e1, Int.sub_emod_right]
theorem gap_ex : ∀ (a : Int) (r : List Int) (e x : Int), (a :: r).Pairwise (· < ·) → (∀ y ∈ a :: r, y < e) → a ≤ x → x < e → ∃ u ∈ a :: r, ∃ g ∈ gaps (a :: (r ++ [e])), u ≤ x ∧ x - u + 1 ≤ g
  | a, [], e, x, _, _, h1, h2 => ⟨a, by simp, e - a, by simp [gaps], h1, by omega⟩
  | a, b :: r, e, x, hp, he, h1, h2 => by
    have hp' := List.pairwise_cons.mp hp
    rcases Int.lt_or_le x b with q | q
    · exact ⟨a, by simp, b - a, by simp [gaps], h1, by omega⟩
    · obtain ⟨u, hu, g, hg, a1, a2⟩ := gap_ex b r e x hp'.2 (fun y hy => he y (List.mem_cons_of_mem _ hy)) q h2
      refine ⟨u, List.mem_cons_of_mem _ hu, g, ?_, a1, a2⟩
      rw [List.cons_append, gaps]
      exact List.mem_cons_of_mem _ hg
theorem emod_sub_n {n y : Int} (h0 : n ≤ y) (h1 : y < 2 * n) : y % n = y - n := by
  rw [← Int.sub_emod_right]
  exact Int.emod_eq_of_lt (by omega) (by omega)
/-- no wait is longer than the longest -/
theorem rt_lw {n : Int} {hs : List Int} {s t : Int} (hd : IsDrum n hs) : rt n hs s t - t ≤ lw n hs := by
  have hne := hd.ne
  obtain ⟨a, r, rfl⟩ : ∃ a r, hs = a :: r := by
    cases hs with
    | nil => exact absurd rfl hne
    | cons a r => exact ⟨a, r, rfl⟩
  have ra := hd.rg a (by simp)
  have hn : 0 < n := by omega
  obtain ⟨m, em⟩ := maxI_ex (l := gaps (a :: (r ++ [a + n]))) (by cases r <;> exact gaps_ne)
  have hm := (maxI_iff em).2
  have elw : lw n (a :: r) = m - 1 := by
    unfold lw
    rw [List.cons_append, List.headD_cons, em]
    rfl
  have x0 := mod_le (a := s - t) hn
  obtain ⟨y, hy, hy0, hy1⟩ : ∃ y : Int, y % n = (s - t) % n ∧ a ≤ y ∧ y < a + n := by
    rcases Int.lt_or_le ((s - t) % n) a with q | q
    · exact ⟨(s - t) % n + n, by rw [Int.add_emod_right, Int.emod_emod], by omega, by omega⟩
    · exact ⟨(s - t) % n, Int.emod_emod _ _, q, by omega⟩
  obtain ⟨u, hu, g, hg, a1, a2⟩ := gap_ex a r (a + n) y hd.lt (fun z hz => by have := hd.rg z hz; omega) hy0 hy1
  have h1 := rt_le (n := n) (s := s) (t := t) hu
  have ru := hd.rg u hu
  have h2 : (s - u - t) % n = y - u := by
    have e : s - u - t = (s - t) - u := by omega
    rw [e, ← Int.emod_sub_emod, ← hy, Int.emod_sub_emod]
    have au : a ≤ u := by
      rcases List.mem_cons.mp hu with rfl | z
      · omega
      · have := (List.pairwise_cons.mp hd.lt).1 u z
        omega
    exact Int.emod_eq_of_lt (by omega) (by omega)
  have := hm g hg
  omega
/-! ### timed runs -/
def shR (c : Int) (r : Row) : Row := (r.1, r.2.1 + c, r.2.2.map (· + c))
/-- what a run asks for -/
def EvIn (ms : List Str) (e : Ev) : Prop := e.x ∈ ms ∧ ∀ a, e.w = some a → a ∈ ms
theorem timed_shift {wh wh' : Str → Int → Int} {c : Int} {ms : List Str} (h : ∀ x ∈ ms, ∀ t, wh' x (t + c) = wh x t + c) : ∀ {es : List Ev} {t : Int}, (∀ e ∈ es, EvIn ms e) → timed wh' (t + c) es = ((timed wh t es).1.map (shR c), (timed wh t es).2 + c)
  | [], t, _ => rfl
  | e :: es, t, he => by
    obtain ⟨e1, e2⟩ := he e (by simp)
    have ih := fun t => timed_shift (c := c) (wh := wh) (wh' := wh') h (es := es) (t := t) fun e h => he e (List.mem_cons_of_mem _ h)
    rw [timed_cons, timed_cons, h _ e1]
    cases q : e.w with
    | none =>
      have e3 : wh e.x t + c + e.e = wh e.x t + e.e + c := by omega
      simp only [Option.map_none, Option.getD_none, e3, ih, List.map_cons, shR]
    | some a =>
      have e4 : wh' a (wh e.x t + c + 1) = wh a (wh e.x t + 1) + c := by
        rw [← h a (e2 a q)]
        congr 1
        omega
      have e3 : wh a (wh e.x t + 1) + c + e.e = wh a (wh e.x t + 1) + e.e + c := by omega
      simp only [Option.map_some, Option.getD_some, e4, e3, ih, List.map_cons, shR]
def rowLe (a b : Row) : Prop := a.1 = b.1 ∧ a.2.1 ≤ b.2.1 ∧ ((a.2.2 = none ∧ b.2.2 = none) ∨ ∃ u v, a.2.2 = some u ∧ b.2.2 = some v ∧ u ≤ v)
theorem timed_mono {wh wh' : Str → Int → Int} {ms : List Str} (h : ∀ x ∈ ms, ∀ t t', t ≤ t' → wh x t ≤ wh' x t') : ∀ {es : List Ev} {t t' : Int}, (∀ e ∈ es, EvIn ms e) → t ≤ t' →
    (∀ q ∈ (timed wh t es).1.zip (timed wh' t' es).1, rowLe q.1 q.2) ∧ (timed wh t es).2 ≤ (timed wh' t' es).2
  | [], t, t', _, ht => ⟨by simp [timed], ht⟩
  | e :: es, t, t', he, ht => by
    obtain ⟨e1, e2⟩ := he e (by simp)
    have ih := fun t t' => timed_mono (wh := wh) (wh' := wh') h (es := es) (t := t) (t' := t') fun e h => he e (List.mem_cons_of_mem _ h)
    have r := h _ e1 t t' ht
    rw [timed_cons, timed_cons]
    cases q : e.w with
    | none =>
      have ih := ih (wh e.x t + e.e) (wh' e.x t' + e.e) (by omega)
      simp only [Option.map_none, Option.getD_none, List.zip_cons_cons, List.mem_cons, forall_eq_or_imp]
      exact ⟨⟨⟨rfl, r, .inl ⟨rfl, rfl⟩⟩, ih.1⟩, ih.2⟩
    | some a =>
      have r2 := h _ (e2 a q) (wh e.x t + 1) (wh' e.x t' + 1) (by omega)
      have ih := ih (wh a (wh e.x t + 1) + e.e) (wh' a (wh' e.x t' + 1) + e.e) (by omega)
      simp only [Option.map_some, Option.getD_some, List.zip_cons_cons, List.mem_cons, forall_eq_or_imp]
      exact ⟨⟨⟨rfl, r, .inr ⟨_, _, rfl, rfl, r2⟩⟩, ih.1⟩, ih.2⟩
theorem timed_same {wh : Str → Int → Int} {t t' : Int} {e : Ev} {es : List Ev} (h : wh e.x t = wh e.x t') : timed wh t (e :: es) = timed wh t' (e :: es) := by
  rw [timed_cons, timed_cons, h]
theorem cstep_ev {p : Prog} {s : Ct} {x : Str} (h : Sm p s.c) (hx : x ∈ ords p) : EvIn (p.map (·.1)) (cstep s x).1 := by
  obtain ⟨k, as, e, o⟩ := h.wf.ordL (h.o.symm ▸ hx)
  unfold cstep
  rw [e]
  cases o with
  | stop => exact ⟨ords_nm hx, fun a z => by cases z⟩
  | less a b h1 h2 =>
    dsimp only
    rw [if_pos rfl]
    exact ⟨ords_nm hx, fun a z => by cases z⟩
  | wd k a b h0 h1 h2 =>
    rw [h.w] at h1
    have ha := wrds_nm h1
    dsimp only
    split
    · exact ⟨ords_nm hx, fun a z => by cases z⟩
    · split
      · exact ⟨ords_nm hx, fun a z => by cases z; exact ha⟩
      · split
        · exact ⟨ords_nm hx, fun a z => by cases z; exact ha⟩
        · split
          · exact ⟨ords_nm hx, fun a z => by cases z; exact ha⟩
          · exact ⟨ords_nm hx, fun a z => by cases z; exact ha⟩
theorem trace_ev {p : Prog} : ∀ {n : Nat} {s : Ct}, OkC p s → ∀ e ∈ (trace n s).1, EvIn (p.map (·.1)) e
  | 0, s, _ => by simp [trace]
  | n + 1, s, h => by
    cases hn : s.nx with
    | none => rw [trace_none hn]; simp
    | some x =>
      rw [trace_some hn]
      have hx := h.nx
      rw [hn] at hx
      intro e he
      rcases List.mem_cons.mp he with rfl | he
      · exact cstep_ev h.sm hx
      · exact trace_ev (cstep_ok h.sm hx) e he
theorem tr_ev {p : Prog} {x : Str} {m : Nat} (hp : WF p) (hx : x ∈ ords p) : ∀ e ∈ (tr p x m).1, EvIn (p.map (·.1)) e := trace_ev (st0_ok hp hx)
theorem cstep_x {s : Ct} {x : Str} : (cstep s x).1.x = x := by
  unfold cstep
  split
  · split
    · rfl
    · split
      · rfl
      · split
        · rfl
        · split <;> rfl
  · rfl
theorem tr_head {p : Prog} {x : Str} {m : Nat} (hm : 0 < m) : ∃ e es, (tr p x m).1 = e :: es ∧ e.x = x := by
  cases m with
  | zero => omega
  | succ m => exact ⟨_, _, by rw [tr, trace_some (x := x) rfl], cstep_x⟩
theorem whR_mono {n : Int} {hs : List Int} {p : Prog} {l : Lay} (hn : 0 < n) (hne : hs ≠ []) (h : OkL n p l) : ∀ x ∈ p.map (·.1), ∀ t t', t ≤ t' → whR n hs l x t ≤ whR n hs l x t' := fun x hx t t' ht =>
  rt_mono hn (h.sp hx).1 (h.sp hx).2 hne ht
theorem whR_turn {n : Int} {hs : List Int} {l : Lay} {x : Str} {t : Int} (hne : hs ≠ []) : whR n hs l x (t + n) = whR n hs l x t + n := rt_turn hne
/-! ### what may be compared -/
theorem okD_str {k : Nat} {x : Str} (h : PyData.strOk x = true) : okD k (.str x) := ⟨by simpa [PyData.canLay0] using h, by simp [PyData.depth]⟩
theorem ixS0 {r : Row} : dIx (dStep r) (.int 0) = some (.str r.1) := atI_0
theorem ixS1 {r : Row} : dIx (dStep r) (.int 1) = some (.int r.2.1) := atI_1
theorem ixS2 {r : Row} : dIx (dStep r) (.int 2) = some (dOI r.2.2) := atI_2
theorem okD_oi {k : Nat} {o : Option Int} : okD k (dOI o) := by cases o <;> first | exact okD_none | exact okD_int
def okNm (ms : List Str) : Prop := ∀ x ∈ ms, PyData.strOk x = true
theorem nmI_ok {i : Nat} (h : i < 26) : PyData.strOk (nmI i) = true := by
  show #[97 + i].all (· < 0x110000) = true
  simp
  omega
theorem okNm_of {p : Prog} (h : ∀ c ∈ p, ∃ i, i < 26 ∧ c.1 = nmI i) : okNm (p.map (·.1)) := fun x hx => by
  obtain ⟨c, hc, rfl⟩ := List.mem_map.mp hx
  obtain ⟨i, hi, e⟩ := h c hc
  rw [e]
  exact nmI_ok hi
theorem okD.mono {k k' : Nat} {d : PyData} (h : okD k d) (hk : k ≤ k') : okD k' d := ⟨h.1, Nat.le_trans h.2 hk⟩
theorem okD_lay {ms : List Str} {l : Lay} (hm : okNm ms) (h : ∀ c ∈ l, c.1 ∈ ms) : okD 2 (dLay l) := okD_tuple fun d hd => by
  obtain ⟨c, hc, rfl⟩ := List.mem_map.mp hd
  refine okD_tuple fun d hd => ?_
  simp at hd
  rcases hd with rfl | rfl
  · exact okD_str (hm _ (h c hc))
  · exact okD_int
theorem okD_step {ms : List Str} {r : Row} (hm : okNm ms) (h : r.1 ∈ ms) : okD 1 (dStep r) := okD_tuple fun d hd => by
  simp at hd
  rcases hd with rfl | rfl | rfl
  · exact okD_str (hm _ h)
  · exact okD_int
  · exact okD_oi
theorem okD_steps {ms : List Str} {rs : List Row} (hm : okNm ms) (h : ∀ c ∈ rs, c.1 ∈ ms) : okD 2 (dSteps rs) := okD_tuple fun d hd => by
  obtain ⟨c, hc, rfl⟩ := List.mem_map.mp hd
  exact okD_step hm (h c hc)
theorem timed_in {ms : List Str} {wh : Str → Int → Int} {es : List Ev} {t : Int} (h : ∀ e ∈ es, EvIn ms e) : ∀ c ∈ (timed wh t es).1, c.1 ∈ ms := fun c hc => by
  have : c.1 ∈ (timed wh t es).1.map (·.1) := List.mem_map.mpr ⟨c, hc, rfl⟩
  rw [timed_x] at this
  obtain ⟨e, he, q⟩ := List.mem_map.mp this
  rw [← q]
  exact (h e he).1
theorem wordsOf_in {c : Prog} : ∀ x ∈ wordsOf c, x.1 ∈ c.map (·.1) := fun x hx => by
  obtain ⟨y, hy, e⟩ := List.mem_filterMap.mp hx
  refine List.mem_map.mpr ⟨y, hy, ?_⟩
  obtain ⟨z, c⟩ := y
  cases c with
  | w n => cases e; rfl
  | o k as => cases e
theorem okD_tl {p : Prog} {x : Str} {m : Nat} (hm : okNm (p.map (·.1))) (hp : WF p) (hx : x ∈ ords p) : okD 3 (.tuple [.int (tr p x m).2.h, dLay (wordsOf (tr p x m).2.c)]) := okD_tuple fun d hd => by
  simp at hd
  rcases hd with rfl | rfl
  · exact okD_int
  · refine okD_lay hm fun c hc => ?_
    have := wordsOf_in c hc
    rwa [(tr_ok (m := m) hp hx).sm.n] at this
theorem okD_run {wh : Str → Int → Int} {p : Prog} {x : Str} {t : Int} {m : Nat} (hm : okNm (p.map (·.1))) (hp : WF p) (hx : x ∈ ords p) : okD 3 (dRun wh p x t m) := okD_tuple fun d hd => by
  simp at hd
  rcases hd with rfl | rfl | rfl | rfl | rfl
  · exact okD_steps hm (timed_in (tr_ev hp hx))
  · exact okD_bool
  · exact okD_int
  · exact okD_int
  · refine okD_lay hm fun c hc => ?_
    have := wordsOf_in c hc
    rwa [(tr_ok (m := m) hp hx).sm.n] at this
theorem eqv_self {k : Nat} {d : PyData} (h : okD k d) : PyData.eqv d d = true := PySem.SeqAt.eqv_refl d h.1
theorem dEq_self {k : Nat} {d : PyData} (h : okD k d) (hk : k ≤ 64) : dEq d d = some (.bool true) := by
  have hs := h.shaped hk
  unfold dEq
  split
  · simp
  · simp
  · simp
  · rw [if_pos ⟨hs, hs⟩, eqv_self h]
theorem dNe_self {k : Nat} {d : PyData} (h : okD k d) (hk : k ≤ 64) : dNe d d = some (.bool false) := by
  have hs := h.shaped hk
  unfold dNe
  split
  · simp
  · simp
  · simp
  · rw [if_pos ⟨hs, hs⟩, eqv_self h]
    rfl
theorem cutFrom {α : Type} {l : List α} {i : Int} (h : 0 ≤ i) : cutL l (some i) none = l.drop i.toNat := by
  unfold cutL
  have e1 : HT.sIx l.length 0 (some i) = min i.toNat l.length := by
    show (if i < 0 then _ else _) = _
    rw [if_neg (by omega)]
  have e2 : HT.sIx l.length l.length none = l.length := rfl
  rw [e1, e2, List.take_of_length_le (by simp)]
  rcases Nat.le_total i.toNat l.length with q | q
  · rw [Nat.min_eq_left q]
  · rw [Nat.min_eq_right q, List.drop_length, List.drop_of_length_le q]
theorem cutTo {α : Type} {l : List α} {i : Int} (h : 0 ≤ i) : cutL l none (some i) = l.take i.toNat := by
  unfold cutL
  have e1 : HT.sIx l.length l.length (some i) = min i.toNat l.length := by
    show (if i < 0 then _ else _) = _
    rw [if_neg (by omega)]
  have e2 : HT.sIx l.length 0 none = 0 := rfl
  rw [e1, e2, List.drop_zero, Nat.sub_zero]
  rcases Nat.le_total i.toNat l.length with q | q
  · rw [Nat.min_eq_left q]
  · rw [Nat.min_eq_right q, List.take_length, List.take_of_length_le q]
theorem cut3 {α : Type} {a b c : α} {r : List α} : cutL (a :: b :: c :: r) (some 3) none = r := cutFrom (by omega)
/-! ### a drum, a program, a laying, a first order, so many orders -/
structure Sit (n : Int) (hs : List Int) (p : Prog) (l : Lay) (x : Str) (m : Nat) : Prop where
  dr : IsDrum n hs
  h3 : hs.length ≤ 3
  n0 : 0 < n
  n1 : n ≤ 24
  wf : WF p
  nm : okNm (p.map (·.1))
  ly : OkL n p l
  st : x ∈ ords p
  m1 : m ≤ 1000
section
variable {n : Int} {hs : List Int} {p : Prog} {l : Lay} {x : Str} {m : Nat} {S : Sto} {ns : List Int} {t : Int}
theorem Sit.run (h : Sit n hs p l x m) (hS : S[0]? = some (.scr ns)) : F_run [.d (dDrum n hs), .d (dProg p), .d (dLay l), .d (.str x), .d (.int t), .d (.int m)] S = .val (.d (dRun (whR n hs l) p x t m)) S :=
  run_ok hS h.n0 h.dr.ne (by have := h.h3; omega) h.wf h.ly h.st h.m1
theorem Sit.waits (h : Sit n hs p l x m) (hS : S[0]? = some (.scr ns)) : F_waits [.d (dDrum n hs), .d (dProg p), .d (dLay l), .d (.str x), .d (.int t), .d (.int m)] S = .val (.d (.int ((timed (whR n hs l) t (tr p x m).1).2 - t - (timed idW 0 (tr p x m).1).2))) S :=
  waits_ok hS h.n0 h.dr.ne (by have := h.h3; omega) h.wf h.ly h.st h.m1
theorem Sit.path (h : Sit n hs p l x m) (hS : S[0]? = some (.scr ns)) : F_path [.d (dProg p), .d (.str x), .d (.int m)] S = .val (.d (.tuple (dStrs ((tr p x m).1.map (·.x))))) S := path_ok hS h.wf h.st h.m1
theorem Sit.work (h : Sit n hs p l x m) (hS : S[0]? = some (.scr ns)) : F_work [.d (dProg p), .d (.str x), .d (.int m)] S = .val (.d (.int (timed idW 0 (tr p x m).1).2)) S := work_ok hS h.wf h.st h.m1
theorem Sit.mono (h : Sit n hs p l x m) {t t' : Int} (ht : t ≤ t') : (∀ q ∈ (timed (whR n hs l) t (tr p x m).1).1.zip (timed (whR n hs l) t' (tr p x m).1).1, rowLe q.1 q.2) ∧ (timed (whR n hs l) t (tr p x m).1).2 ≤ (timed (whR n hs l) t' (tr p x m).1).2 :=
  timed_mono (whR_mono h.n0 h.dr.ne h.ly) (tr_ev h.wf h.st) ht
theorem Sit.turn (h : Sit n hs p l x m) : timed (whR n hs l) (t + n) (tr p x m).1 = ((timed (whR n hs l) t (tr p x m).1).1.map (shR n), (timed (whR n hs l) t (tr p x m).1).2 + n) :=
  timed_shift (wh := whR n hs l) (wh' := whR n hs l) (ms := p.map (·.1)) (fun x _ t => whR_turn h.dr.ne) (tr_ev h.wf h.st)
end
end Zc
end
section
set_option Elab.async false
set_option linter.all false
set_option maxRecDepth 100000
set_option autoImplicit false
set_option maxHeartbeats 4000000
namespace Zc
open PySem Z
/-! ### one order more -/
theorem trace_add : ∀ (n m : Nat) (s : Ct), trace (n + m) s = ((trace n s).1 ++ (trace m (trace n s).2).1, (trace m (trace n s).2).2)
  | 0, m, s => by simp [trace]
  | n + 1, m, s => by
    cases hn : s.nx with
    | none =>
      rw [trace_none hn, trace_none hn]
      simp [trace_none hn]
    | some x =>
      have e : n + 1 + m = (n + m) + 1 := by omega
      rw [e, trace_some hn, trace_some hn, trace_add n m]
      simp
def timeRow (wh : Str → Int → Int) (t : Int) (e : Ev) : Row := (e.x, wh e.x t, e.w.map fun a => wh a (wh e.x t + 1))
def timeNext (wh : Str → Int → Int) (t : Int) (e : Ev) : Int := ((e.w.map fun a => wh a (wh e.x t + 1)).getD (wh e.x t)) + e.e
theorem timed_app {wh : Str → Int → Int} : ∀ {es es' : List Ev} {t : Int}, timed wh t (es ++ es') = ((timed wh t es).1 ++ (timed wh (timed wh t es).2 es').1, (timed wh (timed wh t es).2 es').2)
  | [], es', t => by simp [timed]
  | e :: es, es', t => by
    rw [List.cons_append, timed_cons, timed_cons, timed_app]
    simp
theorem timed_one {wh : Str → Int → Int} {t : Int} {e : Ev} : timed wh t [e] = ([timeRow wh t e], timeNext wh t e) := rfl
theorem timed_snoc {wh : Str → Int → Int} {es : List Ev} {e : Ev} {t : Int} : timed wh t (es ++ [e]) = ((timed wh t es).1 ++ [timeRow wh (timed wh t es).2 e], timeNext wh (timed wh t es).2 e) := by
  rw [timed_app, timed_one]
theorem trace_stay {n : Nat} {s : Ct} (h : (trace n s).2.nx = none) : trace (n + 1) s = trace n s := by
  rw [trace_add n 1, trace_none h]
  simp
theorem trace_more {n : Nat} {s : Ct} {x : Str} (h : (trace n s).2.nx = some x) : trace (n + 1) s = ((trace n s).1 ++ [(cstep (trace n s).2 x).1], (cstep (trace n s).2 x).2) := by
  rw [trace_add n 1, trace_some h]
  rfl
/-- each order's beats -/
theorem cstep_e {s : Ct} {x : Str} : 1 ≤ (cstep s x).1.e := by
  unfold cstep
  split
  · split
    · simp
    · split
      · simp
      · split
        · simp
        · split <;> simp
  · simp
theorem trace_e : ∀ {n : Nat} {s : Ct}, ∀ e ∈ (trace n s).1, 1 ≤ e.e
  | 0, s => by simp [trace]
  | n + 1, s => by
    cases hn : s.nx with
    | none => rw [trace_none hn]; simp
    | some x =>
      rw [trace_some hn]
      intro e he
      rcases List.mem_cons.mp he with rfl | he
      · exact cstep_e
      · exact trace_e e he
theorem cstep_nx {p : Prog} {s : Ct} {x : Str} (h : Sm p s.c) (hx : x ∈ ords p) : ∃ k as, lk p x = some (.o k as) ∧ (cstep s x).2.nx.isNone = (k == "stop") := by
  obtain ⟨k, as, e, o⟩ := h.wf.ordL (h.o.symm ▸ hx)
  refine ⟨k, as, (h.l x hx) ▸ e, ?_⟩
  unfold cstep
  rw [e]
  cases o with
  | stop => rfl
  | less a b h1 h2 => rfl
  | wd k a b h0 h1 h2 =>
    rcases h0 with rfl | rfl | rfl | rfl <;> rfl
theorem trace_last {p : Prog} : ∀ {n : Nat} {s : Ct}, OkC p s → (trace n s).1 ≠ [] → ∃ e k as, (trace n s).1.getLast? = some e ∧ lk p e.x = some (.o k as) ∧ (trace n s).2.nx.isNone = (k == "stop")
  | 0, s, _, h => absurd rfl h
  | n + 1, s, hs, h => by
    cases hn : s.nx with
    | none => rw [trace_none hn] at h; exact absurd rfl h
    | some x =>
      have hx := hs.nx
      rw [hn] at hx
      rw [trace_some hn]
      by_cases q : (trace n (cstep s x).2).1 = []
      · obtain ⟨k, as, a, b⟩ := cstep_nx hs.sm hx
        have e2 : (trace n (cstep s x).2).2 = (cstep s x).2 := by
          cases n with
          | zero => rfl
          | succ n =>
            cases h2 : (cstep s x).2.nx with
            | none => rw [trace_none h2]
            | some y => rw [trace_some h2] at q; cases q
        refine ⟨(cstep s x).1, k, as, by rw [q]; rfl, by rw [cstep_x]; exact a, ?_⟩
        rw [e2]
        exact b
      · obtain ⟨e, k, as, a, b, c⟩ := trace_last (cstep_ok hs.sm hx) q
        refine ⟨e, k, as, ?_, b, c⟩
        rw [List.getLast?_cons, a]
        rfl
theorem trace_ne {n : Nat} {p : Prog} {x : Str} (h : 0 < n) : (tr p x n).1 ≠ [] := by
  obtain ⟨e, es, q, _⟩ := tr_head (p := p) (x := x) h
  rw [q]
  simp
/-- each order is read no sooner than the one ahead of it was done -/
def inOrder : Int → List Row → Int → Prop
  | b, [], e => b ≤ e
  | b, r :: rs, e => b ≤ r.2.1 ∧ (∀ w, r.2.2 = some w → r.2.1 < w) ∧ inOrder (r.2.2.getD r.2.1 + 1) rs e
theorem timed_order {wh : Str → Int → Int} {ms : List Str} (hw : ∀ x ∈ ms, ∀ t, t ≤ wh x t) : ∀ {es : List Ev} {b t : Int}, (∀ e ∈ es, EvIn ms e) → (∀ e ∈ es, 1 ≤ e.e) → b ≤ t → inOrder b (timed wh t es).1 (timed wh t es).2
  | [], b, t, _, _, h => h
  | e :: es, b, t, h1, h2, h => by
    obtain ⟨a1, a2⟩ := h1 e (by simp)
    have a3 := h2 e (by simp)
    have ih := fun b t => timed_order (wh := wh) hw (es := es) (b := b) (t := t) (fun e h => h1 e (List.mem_cons_of_mem _ h)) (fun e h => h2 e (List.mem_cons_of_mem _ h))
    have r := hw _ a1 t
    rw [timed_cons]
    refine ⟨by show b ≤ wh e.x t; omega, fun w q => ?_, ih _ _ ?_⟩
    · cases q2 : e.w with
      | none => rw [q2] at q; cases q
      | some a =>
        rw [q2] at q
        have := hw a (a2 a q2) (wh e.x t + 1)
        have q : wh a (wh e.x t + 1) = w := Option.some.inj q
        show wh e.x t < w
        omega
    · show (e.w.map fun a => wh a (wh e.x t + 1)).getD (wh e.x t) + 1 ≤ (e.w.map fun a => wh a (wh e.x t + 1)).getD (wh e.x t) + e.e
      omega
theorem whR_le {n : Int} {hs : List Int} {l : Lay} {x : Str} {t : Int} (hn : 0 < n) (hne : hs ≠ []) : t ≤ whR n hs l x t := (rt_bounds hn hne).1
theorem Sit.order {n : Int} {hs : List Int} {p : Prog} {l : Lay} {x : Str} {m : Nat} {t : Int} (h : Sit n hs p l x m) : inOrder t (timed (whR n hs l) t (tr p x m).1).1 (timed (whR n hs l) t (tr p x m).1).2 :=
  timed_order (fun x _ t => whR_le h.n0 h.dr.ne) (tr_ev h.wf h.st) trace_e (Int.le_refl _)
theorem atI_last {α : Type} {l : List α} {a : α} : L2.atI (l ++ [a]) (-1) = some a := by
  unfold L2.atI L2.ixN
  rw [if_neg (by omega), if_pos (by simp; omega)]
  have e : (-1 + ((l ++ [a]).length : Int)).toNat = l.length := by
    rw [List.length_append, List.length_singleton]
    omega
  show (l ++ [a])[(-1 + ((l ++ [a]).length : Int)).toNat]? = some a
  rw [e]
  simp
end Zc
end
section
set_option Elab.async false
set_option linter.all false
set_option maxRecDepth 100000
set_option autoImplicit false
set_option maxHeartbeats 4000000
namespace Zc
open PySem Z
local macro_rules
  | `(tactic| simp_arith [$ls,*]) => `(tactic| simp -implicitDefEqProofs (disch := omega) only [kB_ap, kS_ap, xD_ap, dSeq_nx, dSeq_rt, dSeq_bk, dSeq_ct, dSeq_ex, dTry_nx, dTry_rt, dTry_bk, dTry_ct, dTry_ex, okE_bd, okS_so, okS_sq, nonD_n, nonD_i, nonD_s, nonD_b, nonD_t, nonD_l, getLast1, getLast1', setLast1, setLast1', takeLast2, zseq_ok, zdrop_ok, zset_ok, zsetF_ok, zifS_ok, ztru_ok, zop_ok, zcb_ok, zcf_ok, zacons_ok, zanil_ok, zc_ok, zv_ok, znil_ok, zret_ok, zcall_ok, zfz_ok, znew_ok, zneg_ok, zos_ok, zon_ok, zsl_ok, zslF_ok, ztup_ok, zlst_ok, zand_ok, zor_ok, znot_ok, zif_ok, zpar_ok, zpar3_ok, zasg_ok, zdnew_ok, znotV_ok, zbrk_ok, zcnt_ok, zopF_ok, zpop0_ok, zdget_ok, zdin_ok, zdnin_ok, zisi_ok, ziA_ok, ziQ_ok, ziL_ok, ziT_ok, zattr_ok, zaset_ok, zmake_ok, zpr_ok, zpr1_ok, zasgP_ok, zlset_ok, zlrg_ok, zkin_ok, zkget_ok, zraise_ok, zfor_ok, zwhile_ok, lamOf_ok, ztrue_ok, zorD_ok, zparA_ok, zdis_ok, ztst_ok, zandV_ok, zorV_ok, zchain_ok, zapp_ok, zmt1_ok, zcnt1_ok, zmeth_ok, zdget2_ok, zact_ok, zlamcall_ok, zfrz_ok, zdput_ok, zlput_ok, ztry_ok, zcatch_nil, zcatch_cons, app2_ok, gN_ap, gT2_ap, gT3_ap, wipeZ, okE_val, okE_exc, okS_nx, okS_rt, okS_bk, okS_ct, okS_ex, okE_ofOpt, rng1_ok, rng2_ok, izs_len, izr_len, List.map_cons, List.map_nil, List.cons_append, List.nil_append, List.replicate, List.length_cons, List.length_nil, List.length_append, List.length_map, List.length_set, List.getElem?_cons_zero, List.getElem?_cons_succ, List.getElem?_nil, List.set_cons_zero, List.set_cons_succ, lstAt, on1, on2, lstOnly, allD_nil, allD_cons, Option.map_some, Option.map_none, Option.bind_some, Option.bind_none, dMul_ok, dMod_ok, dDiv_ok, dEq_i, dEq_s, dEq_b, dNe_i, dNe_s, dNe_b, dEq_ti, dNe_ti, dEq_li, dNe_li, dIn, dNotIn, atI_0, atI_1, atI_2, dMin, dMax, dSum, dAll, dAny, intsOf_map, bolsOf_map, intsOf_nil, intsOf_cons, putS, lim, retN_d, getLast0, setLast0, takeLast0, takeLast1, List.take_succ_cons, List.take_zero, List.take_length, List.take_nil, decide_eq_true_eq, beq_iff_eq, if_true, if_false, Bool.not_true, Bool.not_false, Bool.not_eq_true', Bool.false_eq_true, Bool.true_eq_false, reduceIte, if_pos, if_neg, Nat.add_eq, List.isEmpty_cons, List.isEmpty_nil, Option.some.injEq, decide_true, decide_false, decide_eq_true, decide_eq_false, beq_self_eq_true, BEq.rfl, beq_eq_false_iff_ne, Nat.zero_add, Nat.reduceAdd, Int.toNat_natCast, Bool.not_eq_true, decide_eq_false_iff_not, bne_iff_ne, ne_eq, not_true_eq_false, not_false_eq_true, dAdd_e1, dAdd_e2, dAdd_e3, dSub_e1, dLt_e1, dLt_e2, dLt_e3, dLe_e1, dGt_e1, dGe_e1, dIs_e1, dIs_e2, dIsNot_e1, dIsNot_e2, dIx_e1, dIx_e2, dIx_e3, dTup_e1, dTup_e2, dInt_e1, dInt_e2, dMin2_e1, dMax2_e1, dAbs_e1, truth_e1, truth_e2, truth_e3, truth_e4, truth_e5, truth_e6, truS_e1, truS_e2, res_e1, res_e2, resD_e1, resD_e2, resD_e3, lenS_e1, lenS_e2, lenS_e3, lenS_e4, lenS_e5, itemsQ_e1, itemsQ_e2, itemsL_e1, itemsT_e1, bLst_e1, bLst_e2, dSl_e1, dSl_e2, zipOf_e1, zipOf_e2, enumOf_e1, enumOf_e2, keySl_e1, keyOf_e1, keyOf_e2, setAll_e1, setAll_e2, gNs_e1, bolOf_e1, datOf_e1, lsOf_e1, fCat_e1, fRep_e1, fExt_e1, forget_cons, forget_nil, fg_d, fg_fn, fg_none, fg_box, fg_box', insAt, putA, List.lookup_cons, List.lookup_nil, noExc, Option.isSome_some, Option.isSome_none, and_self, and_true, true_and, eq_self, Int.add_zero, fnOf, scrOf, cntI, frzOf, lputOf, $ls,*])
  | `(tactic| simp_arith [$ls,*] $l:location) => `(tactic| simp -implicitDefEqProofs (disch := omega) only [kB_ap, kS_ap, xD_ap, dSeq_nx, dSeq_rt, dSeq_bk, dSeq_ct, dSeq_ex, dTry_nx, dTry_rt, dTry_bk, dTry_ct, dTry_ex, okE_bd, okS_so, okS_sq, nonD_n, nonD_i, nonD_s, nonD_b, nonD_t, nonD_l, getLast1, getLast1', setLast1, setLast1', takeLast2, zseq_ok, zdrop_ok, zset_ok, zsetF_ok, zifS_ok, ztru_ok, zop_ok, zcb_ok, zcf_ok, zacons_ok, zanil_ok, zc_ok, zv_ok, znil_ok, zret_ok, zcall_ok, zfz_ok, znew_ok, zneg_ok, zos_ok, zon_ok, zsl_ok, zslF_ok, ztup_ok, zlst_ok, zand_ok, zor_ok, znot_ok, zif_ok, zpar_ok, zpar3_ok, zasg_ok, zdnew_ok, znotV_ok, zbrk_ok, zcnt_ok, zopF_ok, zpop0_ok, zdget_ok, zdin_ok, zdnin_ok, zisi_ok, ziA_ok, ziQ_ok, ziL_ok, ziT_ok, zattr_ok, zaset_ok, zmake_ok, zpr_ok, zpr1_ok, zasgP_ok, zlset_ok, zlrg_ok, zkin_ok, zkget_ok, zraise_ok, zfor_ok, zwhile_ok, lamOf_ok, ztrue_ok, zorD_ok, zparA_ok, zdis_ok, ztst_ok, zandV_ok, zorV_ok, zchain_ok, zapp_ok, zmt1_ok, zcnt1_ok, zmeth_ok, zdget2_ok, zact_ok, zlamcall_ok, zfrz_ok, zdput_ok, zlput_ok, ztry_ok, zcatch_nil, zcatch_cons, app2_ok, gN_ap, gT2_ap, gT3_ap, wipeZ, okE_val, okE_exc, okS_nx, okS_rt, okS_bk, okS_ct, okS_ex, okE_ofOpt, rng1_ok, rng2_ok, izs_len, izr_len, List.map_cons, List.map_nil, List.cons_append, List.nil_append, List.replicate, List.length_cons, List.length_nil, List.length_append, List.length_map, List.length_set, List.getElem?_cons_zero, List.getElem?_cons_succ, List.getElem?_nil, List.set_cons_zero, List.set_cons_succ, lstAt, on1, on2, lstOnly, allD_nil, allD_cons, Option.map_some, Option.map_none, Option.bind_some, Option.bind_none, dMul_ok, dMod_ok, dDiv_ok, dEq_i, dEq_s, dEq_b, dNe_i, dNe_s, dNe_b, dEq_ti, dNe_ti, dEq_li, dNe_li, dIn, dNotIn, atI_0, atI_1, atI_2, dMin, dMax, dSum, dAll, dAny, intsOf_map, bolsOf_map, intsOf_nil, intsOf_cons, putS, lim, retN_d, getLast0, setLast0, takeLast0, takeLast1, List.take_succ_cons, List.take_zero, List.take_length, List.take_nil, decide_eq_true_eq, beq_iff_eq, if_true, if_false, Bool.not_true, Bool.not_false, Bool.not_eq_true', Bool.false_eq_true, Bool.true_eq_false, reduceIte, if_pos, if_neg, Nat.add_eq, List.isEmpty_cons, List.isEmpty_nil, Option.some.injEq, decide_true, decide_false, decide_eq_true, decide_eq_false, beq_self_eq_true, BEq.rfl, beq_eq_false_iff_ne, Nat.zero_add, Nat.reduceAdd, Int.toNat_natCast, Bool.not_eq_true, decide_eq_false_iff_not, bne_iff_ne, ne_eq, not_true_eq_false, not_false_eq_true, dAdd_e1, dAdd_e2, dAdd_e3, dSub_e1, dLt_e1, dLt_e2, dLt_e3, dLe_e1, dGt_e1, dGe_e1, dIs_e1, dIs_e2, dIsNot_e1, dIsNot_e2, dIx_e1, dIx_e2, dIx_e3, dTup_e1, dTup_e2, dInt_e1, dInt_e2, dMin2_e1, dMax2_e1, dAbs_e1, truth_e1, truth_e2, truth_e3, truth_e4, truth_e5, truth_e6, truS_e1, truS_e2, res_e1, res_e2, resD_e1, resD_e2, resD_e3, lenS_e1, lenS_e2, lenS_e3, lenS_e4, lenS_e5, itemsQ_e1, itemsQ_e2, itemsL_e1, itemsT_e1, bLst_e1, bLst_e2, dSl_e1, dSl_e2, zipOf_e1, zipOf_e2, enumOf_e1, enumOf_e2, keySl_e1, keyOf_e1, keyOf_e2, setAll_e1, setAll_e2, gNs_e1, bolOf_e1, datOf_e1, lsOf_e1, fCat_e1, fRep_e1, fExt_e1, forget_cons, forget_nil, fg_d, fg_fn, fg_none, fg_box, fg_box', insAt, putA, List.lookup_cons, List.lookup_nil, noExc, Option.isSome_some, Option.isSome_none, and_self, and_true, true_and, eq_self, Int.add_zero, fnOf, scrOf, cntI, frzOf, lputOf, $ls,*] $l)
/-! ### layings turned -/
def tnL (n b : Int) (l : Lay) : Lay := l.map fun c => (c.1, (c.2 + b) % n)
theorem turned_ok {n b : Int} {hd : PyData} {l : Lay} {S : Sto} (hn : 0 < n) (hl : l.length ≤ 1000) : F_turned [.d (.tuple [.int n, hd]), .d (dLay l), .d (.int b)] S = .val (.d (dLay (tnL n b l))) S := by
  refine OkE.val (ok_def rfl ?_)
  unfold z_turned
  simp_arith [dLay]
  refine lc_M l dSpot (fun c => .tuple [.str c.1, .int ((c.2 + b) % n)]) (by simp_arith []) (by omega) (fun c _ => ⟨_, rfl, by simp_arith []⟩) ?_
  have e : l.map (fun c => PyData.tuple [.str c.1, .int ((c.2 + b) % n)]) = (tnL n b l).map dSpot := by
    unfold tnL
    rw [List.map_map]
    rfl
  rw [e]
  simp_arith []
theorem tnL_tnL {n a b : Int} {l : Lay} : tnL n b (tnL n a l) = tnL n (a + b) l := by
  unfold tnL
  rw [List.map_map]
  refine List.map_congr_left fun c _ => ?_
  show (c.1, ((c.2 + a) % n + b) % n) = (c.1, (c.2 + (a + b)) % n)
  rw [Int.emod_add_emod]
  congr 2
  omega
theorem tnL_id {n b : Int} {p : Prog} {l : Lay} (h : OkL n p l) (hb : ∀ s, (s + b) % n = s % n) : tnL n b l = l := by
  unfold tnL
  refine (List.map_congr_left fun c hc => ?_).trans (List.map_id' l)
  have := h.rg c hc
  rw [hb, Int.emod_eq_of_lt this.1 this.2]
theorem tnL_ok {n b : Int} {p : Prog} {l : Lay} (hn : 0 < n) (h : OkL n p l) : OkL n p (tnL n b l) := by
  refine ⟨?_, ?_, ?_⟩
  · rw [← h.nm]
    unfold tnL
    rw [List.map_map]
    rfl
  · intro x hx
    obtain ⟨c, hc, rfl⟩ := List.mem_map.mp hx
    exact mod_le hn
  · unfold tnL
    rw [List.map_map]
    have nd := h.nd
    rw [List.nodup_iff_pairwise_ne] at nd ⊢
    rw [List.pairwise_map] at nd ⊢
    exact nd.imp_of_mem fun {x y} hx hy q e => q (emod_inj2 (h.rg x hx) (h.rg y hy) e)
theorem lk_map {α β : Type} {f : α → β} {x : Str} : ∀ {l : List (Str × α)}, lk (l.map fun c => (c.1, f c.2)) x = (lk l x).map f
  | [] => rfl
  | (y, v) :: l => by
    rw [List.map_cons, lk_cons, lk_cons, lk_map]
    split <;> rfl
theorem spot_tn {n b : Int} {l : Lay} {x : Str} (h : x ∈ l.map (·.1)) : spot (tnL n b l) x = (spot l x + b) % n := by
  have e : lk (tnL n b l) x = (lk l x).map fun s => (s + b) % n := lk_map (f := fun s => (s + b) % n)
  unfold spot
  rw [e, spot_eq h]
  rfl
/-- a spot so many further is read so many beats later -/
theorem rt_tn {n b : Int} {hs : List Int} {s t : Int} (hne : hs ≠ []) : rt n hs ((s + b) % n) (t + b) = rt n hs s t + b := by
  rw [rt_same (s := s) (t := t) hne fun x _ => ?_]
  · omega
  · have e1 : (s + b) % n - x - (t + b) = (s + b) % n - (x + (t + b)) := by omega
    rw [e1, Int.emod_sub_emod]
    congr 1
    omega
/-- heads turned as well: at the same beat -/
theorem rt_hd {n b : Int} {hs : List Int} {s t : Int} (hne : hs ≠ []) : rt n (isort (hs.map fun h => (h + b) % n)) ((s + b) % n) t = rt n hs s t := by
  rw [rt_perm (isort_perm _), rt_map (s := s) (t := t) (fun h => (h + b) % n) hne fun x _ => ?_]
  · omega
  · have e1 : (s + b) % n - (x + b) % n - t = (s + b) % n - ((x + b) % n + t) := by omega
    have e2 : s + b - ((x + b) % n + t) = (s + b - t) - (x + b) % n := by omega
    rw [e1, Int.emod_sub_emod, e2, Int.sub_emod_emod]
    congr 1
    omega
def hdT (n b : Int) (hs : List Int) : List Int := isort (hs.map fun h => (h + b) % n)
theorem heads_ok {n b : Int} {hs : List Int} {S : Sto} (hn : 0 < n) (hn2 : n < 1000) (hl : hs.length ≤ 1000) : F__law_heads [.d (dDrum n hs), .d (.int b)] S = .val (.d (dDrum n (hdT n b hs))) S := by
  refine OkE.val (ok_def rfl ?_)
  unfold z__law_heads
  simp_arith []
  refine lc_M hs .int (fun h => .int ((h + b) % n)) (by simp_arith []) (by omega) (fun x hx => ⟨_, rfl, ?_⟩) ?_
  · have e : x + b - (x + b) / n * n = (x + b) % n := by rw [Int.emod_def, Int.mul_comm]
    simp_arith [e]
  · have e : (hs.map fun h => PyData.int ((h + b) % n)) = (hs.map fun h => (h + b) % n).map .int := by rw [List.map_map]; rfl
    rw [e]
    simp_arith [srtS]
    rfl
theorem hdT_ok {n b : Int} {hs : List Int} (h : IsDrum n hs) : IsDrum n (hdT n b hs) := turned_drum h
theorem hdT_len {n b : Int} {hs : List Int} : (hdT n b hs).length = hs.length := by
  unfold hdT
  rw [isort_len, List.length_map]
section
variable {n : Int} {hs : List Int} {p : Prog} {l : Lay} {x : Str} {m : Nat} {t b : Int}
theorem Sit.tn (h : Sit n hs p l x m) : Sit n hs p (tnL n b l) x m := ⟨h.dr, h.h3, h.n0, h.n1, h.wf, h.nm, tnL_ok h.n0 h.ly, h.st, h.m1⟩
theorem Sit.hd (h : Sit n hs p l x m) : Sit n (hdT n b hs) p l x m := ⟨hdT_ok h.dr, by rw [hdT_len]; exact h.h3, h.n0, h.n1, h.wf, h.nm, h.ly, h.st, h.m1⟩
theorem whR_tn (h : OkL n p l) (hne : hs ≠ []) {y : Str} (hy : y ∈ p.map (·.1)) : whR n hs (tnL n b l) y (t + b) = whR n hs l y t + b := by
  unfold whR
  rw [spot_tn (by rw [h.nm]; exact hy)]
  exact rt_tn hne
theorem whR_hd (h : OkL n p l) (hne : hs ≠ []) {y : Str} (hy : y ∈ p.map (·.1)) : whR n (hdT n b hs) (tnL n b l) y t = whR n hs l y t := by
  unfold whR
  rw [spot_tn (by rw [h.nm]; exact hy)]
  exact rt_hd hne
theorem Sit.tnT (h : Sit n hs p l x m) : timed (whR n hs (tnL n b l)) (t + b) (tr p x m).1 = ((timed (whR n hs l) t (tr p x m).1).1.map (shR b), (timed (whR n hs l) t (tr p x m).1).2 + b) :=
  timed_shift (ms := p.map (·.1)) (fun y hy t => whR_tn h.ly h.dr.ne hy) (tr_ev h.wf h.st)
theorem timed_congr {wh wh' : Str → Int → Int} {ms : List Str} (h : ∀ x ∈ ms, ∀ t, wh' x t = wh x t) : ∀ {es : List Ev} {t : Int}, (∀ e ∈ es, EvIn ms e) → timed wh' t es = timed wh t es
  | [], t, _ => rfl
  | e :: es, t, he => by
    obtain ⟨e1, e2⟩ := he e (by simp)
    have ih := fun t => timed_congr (wh := wh) (wh' := wh') h (es := es) (t := t) fun e h => he e (List.mem_cons_of_mem _ h)
    rw [timed_cons, timed_cons, h _ e1]
    cases q : e.w with
    | none => simp only [Option.map_none, Option.getD_none, ih]
    | some a => simp only [Option.map_some, Option.getD_some, h a (e2 a q), ih]
theorem Sit.hdR (h : Sit n hs p l x m) : dRun (whR n (hdT n b hs) (tnL n b l)) p x t m = dRun (whR n hs l) p x t m := by
  unfold dRun
  rw [timed_congr (wh := whR n hs l) (ms := p.map (·.1)) (fun y hy t => whR_hd h.ly h.dr.ne hy) (tr_ev h.wf h.st)]
end
/-! ### spots that are free -/
def frees (n : Int) (l : Lay) : List Int := (izs n.toNat).filter fun s => !decide (s ∈ l.map (·.2))
theorem free_ok {n : Int} {hd : PyData} {l : Lay} {S : Sto} (hn : 0 < n) (hn2 : n < 1000) (hl : l.length ≤ 1000) : F_free_spots [.d (.tuple [.int n, hd]), .d (dLay l)] S = .val (.d (.tuple ((frees n l).map .int))) S := by
  refine OkE.val (ok_def rfl ?_)
  unfold z_free_spots
  simp_arith [dLay]
  refine lc_M l dSpot (fun c => .int c.2) (by simp_arith []) (by omega) (fun c _ => ⟨_, rfl, by simp_arith []⟩) ?_
  have e : l.map (fun c => PyData.int c.2) = (l.map (·.2)).map .int := by rw [List.map_map]; rfl
  rw [e]
  simp_arith []
  refine lc_G (izs n.toNat) .int (fun s => !decide (s ∈ l.map (·.2))) .int (by simp_arith []) (by rw [izs_len]; omega) (fun s hs => ⟨_, rfl, by simp_arith [memD_lst], fun _ => by simp_arith []⟩) ?_
  simp_arith []
  rfl
theorem izs_nodup {n : Nat} : (izs n).Nodup := by
  have := izr_nodup (a := 0) (k := n)
  have e : izr 0 n = izs n := by
    unfold izr izs
    refine List.map_congr_left fun i _ => ?_
    omega
  rwa [e] at this
theorem izs_lt {n : Nat} : (izs n).Pairwise (· < ·) := by
  unfold izs
  refine List.pairwise_map.mpr (List.pairwise_lt_range.imp fun {x y} h => ?_)
  show (x : Int) < (y : Int)
  omega
theorem frees_lt {n : Int} {l : Lay} : (frees n l).Pairwise (· < ·) := izs_lt.filter _
theorem frees_mem {n : Int} {l : Lay} {s : Int} (hn : 0 ≤ n) : s ∈ frees n l ↔ (0 ≤ s ∧ s < n) ∧ s ∉ l.map (·.2) := by
  unfold frees
  rw [List.mem_filter, izs_mem]
  constructor
  · rintro ⟨a, b⟩
    exact ⟨by omega, by simpa using b⟩
  · rintro ⟨a, b⟩
    exact ⟨by omega, by simpa using b⟩
theorem frees_perm {n : Int} {p : Prog} {l : Lay} (hn : 0 ≤ n) (h : OkL n p l) : (l.map (·.2) ++ frees n l).Perm (izs n.toNat) := by
  refine (List.perm_ext_iff_of_nodup (List.nodup_append.mpr ⟨h.nd, (frees_lt.imp fun h => Int.ne_of_lt h), fun a ha b hb => ?_⟩) izs_nodup).mpr fun s => ?_
  · rintro rfl
    exact ((frees_mem hn).mp hb).2 ha
  · rw [List.mem_append, frees_mem hn, izs_mem]
    constructor
    · rintro (a | a)
      · obtain ⟨c, hc, rfl⟩ := List.mem_map.mp a
        have := h.rg c hc
        omega
      · omega
    · intro a
      by_cases q : s ∈ l.map (·.2)
      · exact .inl q
      · exact .inr ⟨by omega, q⟩
theorem frees_len {n : Int} {p : Prog} {l : Lay} (hn : 0 ≤ n) (h : OkL n p l) : ((frees n l).length : Int) = n - l.length := by
  have := (frees_perm hn h).length_eq
  rw [List.length_append, List.length_map, izs_len] at this
  omega
theorem lt_srt {l : List Int} (h : l.Pairwise (· < ·)) : isort l = l := (isort_uniq (.refl _) (h.imp fun h => Int.le_of_lt h)).symm
theorem frees_srt {n : Int} {p : Prog} {l : Lay} (hn : 0 ≤ n) (h : OkL n p l) : isort (l.map (·.2) ++ frees n l) = izs n.toNat :=
  (isort_uniq (frees_perm hn h).symm (izs_lt.imp fun h => Int.le_of_lt h)).symm
/-! ### by names -/
def byN (p : Prog) : Lay := (nms p).mapIdx fun i x => (x, (i : Int))
end Zc
end
section
set_option Elab.async false
set_option linter.all false
set_option maxRecDepth 100000
set_option autoImplicit false
set_option maxHeartbeats 4000000
namespace Zc
open PySem Z
local macro_rules
  | `(tactic| simp_arith [$ls,*]) => `(tactic| simp -implicitDefEqProofs (disch := omega) only [kB_ap, kS_ap, xD_ap, dSeq_nx, dSeq_rt, dSeq_bk, dSeq_ct, dSeq_ex, dTry_nx, dTry_rt, dTry_bk, dTry_ct, dTry_ex, okE_bd, okS_so, okS_sq, nonD_n, nonD_i, nonD_s, nonD_b, nonD_t, nonD_l, getLast1, getLast1', setLast1, setLast1', takeLast2, zseq_ok, zdrop_ok, zset_ok, zsetF_ok, zifS_ok, ztru_ok, zop_ok, zcb_ok, zcf_ok, zacons_ok, zanil_ok, zc_ok, zv_ok, znil_ok, zret_ok, zcall_ok, zfz_ok, znew_ok, zneg_ok, zos_ok, zon_ok, zsl_ok, zslF_ok, ztup_ok, zlst_ok, zand_ok, zor_ok, znot_ok, zif_ok, zpar_ok, zpar3_ok, zasg_ok, zdnew_ok, znotV_ok, zbrk_ok, zcnt_ok, zopF_ok, zpop0_ok, zdget_ok, zdin_ok, zdnin_ok, zisi_ok, ziA_ok, ziQ_ok, ziL_ok, ziT_ok, zattr_ok, zaset_ok, zmake_ok, zpr_ok, zpr1_ok, zasgP_ok, zlset_ok, zlrg_ok, zkin_ok, zkget_ok, zraise_ok, zfor_ok, zwhile_ok, lamOf_ok, ztrue_ok, zorD_ok, zparA_ok, zdis_ok, ztst_ok, zandV_ok, zorV_ok, zchain_ok, zapp_ok, zmt1_ok, zcnt1_ok, zmeth_ok, zdget2_ok, zact_ok, zlamcall_ok, zfrz_ok, zdput_ok, zlput_ok, ztry_ok, zcatch_nil, zcatch_cons, app2_ok, gN_ap, gT2_ap, gT3_ap, wipeZ, okE_val, okE_exc, okS_nx, okS_rt, okS_bk, okS_ct, okS_ex, okE_ofOpt, rng1_ok, rng2_ok, izs_len, izr_len, List.map_cons, List.map_nil, List.cons_append, List.nil_append, List.replicate, List.length_cons, List.length_nil, List.length_append, List.length_map, List.length_set, List.getElem?_cons_zero, List.getElem?_cons_succ, List.getElem?_nil, List.set_cons_zero, List.set_cons_succ, lstAt, on1, on2, lstOnly, allD_nil, allD_cons, Option.map_some, Option.map_none, Option.bind_some, Option.bind_none, dMul_ok, dMod_ok, dDiv_ok, dEq_i, dEq_s, dEq_b, dNe_i, dNe_s, dNe_b, dEq_ti, dNe_ti, dEq_li, dNe_li, dIn, dNotIn, atI_0, atI_1, atI_2, dMin, dMax, dSum, dAll, dAny, intsOf_map, bolsOf_map, intsOf_nil, intsOf_cons, putS, lim, retN_d, getLast0, setLast0, takeLast0, takeLast1, List.take_succ_cons, List.take_zero, List.take_length, List.take_nil, decide_eq_true_eq, beq_iff_eq, if_true, if_false, Bool.not_true, Bool.not_false, Bool.not_eq_true', Bool.false_eq_true, Bool.true_eq_false, reduceIte, if_pos, if_neg, Nat.add_eq, List.isEmpty_cons, List.isEmpty_nil, Option.some.injEq, decide_true, decide_false, decide_eq_true, decide_eq_false, beq_self_eq_true, BEq.rfl, beq_eq_false_iff_ne, Nat.zero_add, Nat.reduceAdd, Int.toNat_natCast, Bool.not_eq_true, decide_eq_false_iff_not, bne_iff_ne, ne_eq, not_true_eq_false, not_false_eq_true, dAdd_e1, dAdd_e2, dAdd_e3, dSub_e1, dLt_e1, dLt_e2, dLt_e3, dLe_e1, dGt_e1, dGe_e1, dIs_e1, dIs_e2, dIsNot_e1, dIsNot_e2, dIx_e1, dIx_e2, dIx_e3, dTup_e1, dTup_e2, dInt_e1, dInt_e2, dMin2_e1, dMax2_e1, dAbs_e1, truth_e1, truth_e2, truth_e3, truth_e4, truth_e5, truth_e6, truS_e1, truS_e2, res_e1, res_e2, resD_e1, resD_e2, resD_e3, lenS_e1, lenS_e2, lenS_e3, lenS_e4, lenS_e5, itemsQ_e1, itemsQ_e2, itemsL_e1, itemsT_e1, bLst_e1, bLst_e2, dSl_e1, dSl_e2, zipOf_e1, zipOf_e2, enumOf_e1, enumOf_e2, keySl_e1, keyOf_e1, keyOf_e2, setAll_e1, setAll_e2, gNs_e1, bolOf_e1, datOf_e1, lsOf_e1, fCat_e1, fRep_e1, fExt_e1, forget_cons, forget_nil, fg_d, fg_fn, fg_none, fg_box, fg_box', insAt, putA, List.lookup_cons, List.lookup_nil, noExc, Option.isSome_some, Option.isSome_none, and_self, and_true, true_and, eq_self, Int.add_zero, fnOf, scrOf, cntI, frzOf, lputOf, $ls,*])
  | `(tactic| simp_arith [$ls,*] $l:location) => `(tactic| simp -implicitDefEqProofs (disch := omega) only [kB_ap, kS_ap, xD_ap, dSeq_nx, dSeq_rt, dSeq_bk, dSeq_ct, dSeq_ex, dTry_nx, dTry_rt, dTry_bk, dTry_ct, dTry_ex, okE_bd, okS_so, okS_sq, nonD_n, nonD_i, nonD_s, nonD_b, nonD_t, nonD_l, getLast1, getLast1', setLast1, setLast1', takeLast2, zseq_ok, zdrop_ok, zset_ok, zsetF_ok, zifS_ok, ztru_ok, zop_ok, zcb_ok, zcf_ok, zacons_ok, zanil_ok, zc_ok, zv_ok, znil_ok, zret_ok, zcall_ok, zfz_ok, znew_ok, zneg_ok, zos_ok, zon_ok, zsl_ok, zslF_ok, ztup_ok, zlst_ok, zand_ok, zor_ok, znot_ok, zif_ok, zpar_ok, zpar3_ok, zasg_ok, zdnew_ok, znotV_ok, zbrk_ok, zcnt_ok, zopF_ok, zpop0_ok, zdget_ok, zdin_ok, zdnin_ok, zisi_ok, ziA_ok, ziQ_ok, ziL_ok, ziT_ok, zattr_ok, zaset_ok, zmake_ok, zpr_ok, zpr1_ok, zasgP_ok, zlset_ok, zlrg_ok, zkin_ok, zkget_ok, zraise_ok, zfor_ok, zwhile_ok, lamOf_ok, ztrue_ok, zorD_ok, zparA_ok, zdis_ok, ztst_ok, zandV_ok, zorV_ok, zchain_ok, zapp_ok, zmt1_ok, zcnt1_ok, zmeth_ok, zdget2_ok, zact_ok, zlamcall_ok, zfrz_ok, zdput_ok, zlput_ok, ztry_ok, zcatch_nil, zcatch_cons, app2_ok, gN_ap, gT2_ap, gT3_ap, wipeZ, okE_val, okE_exc, okS_nx, okS_rt, okS_bk, okS_ct, okS_ex, okE_ofOpt, rng1_ok, rng2_ok, izs_len, izr_len, List.map_cons, List.map_nil, List.cons_append, List.nil_append, List.replicate, List.length_cons, List.length_nil, List.length_append, List.length_map, List.length_set, List.getElem?_cons_zero, List.getElem?_cons_succ, List.getElem?_nil, List.set_cons_zero, List.set_cons_succ, lstAt, on1, on2, lstOnly, allD_nil, allD_cons, Option.map_some, Option.map_none, Option.bind_some, Option.bind_none, dMul_ok, dMod_ok, dDiv_ok, dEq_i, dEq_s, dEq_b, dNe_i, dNe_s, dNe_b, dEq_ti, dNe_ti, dEq_li, dNe_li, dIn, dNotIn, atI_0, atI_1, atI_2, dMin, dMax, dSum, dAll, dAny, intsOf_map, bolsOf_map, intsOf_nil, intsOf_cons, putS, lim, retN_d, getLast0, setLast0, takeLast0, takeLast1, List.take_succ_cons, List.take_zero, List.take_length, List.take_nil, decide_eq_true_eq, beq_iff_eq, if_true, if_false, Bool.not_true, Bool.not_false, Bool.not_eq_true', Bool.false_eq_true, Bool.true_eq_false, reduceIte, if_pos, if_neg, Nat.add_eq, List.isEmpty_cons, List.isEmpty_nil, Option.some.injEq, decide_true, decide_false, decide_eq_true, decide_eq_false, beq_self_eq_true, BEq.rfl, beq_eq_false_iff_ne, Nat.zero_add, Nat.reduceAdd, Int.toNat_natCast, Bool.not_eq_true, decide_eq_false_iff_not, bne_iff_ne, ne_eq, not_true_eq_false, not_false_eq_true, dAdd_e1, dAdd_e2, dAdd_e3, dSub_e1, dLt_e1, dLt_e2, dLt_e3, dLe_e1, dGt_e1, dGe_e1, dIs_e1, dIs_e2, dIsNot_e1, dIsNot_e2, dIx_e1, dIx_e2, dIx_e3, dTup_e1, dTup_e2, dInt_e1, dInt_e2, dMin2_e1, dMax2_e1, dAbs_e1, truth_e1, truth_e2, truth_e3, truth_e4, truth_e5, truth_e6, truS_e1, truS_e2, res_e1, res_e2, resD_e1, resD_e2, resD_e3, lenS_e1, lenS_e2, lenS_e3, lenS_e4, lenS_e5, itemsQ_e1, itemsQ_e2, itemsL_e1, itemsT_e1, bLst_e1, bLst_e2, dSl_e1, dSl_e2, zipOf_e1, zipOf_e2, enumOf_e1, enumOf_e2, keySl_e1, keyOf_e1, keyOf_e2, setAll_e1, setAll_e2, gNs_e1, bolOf_e1, datOf_e1, lsOf_e1, fCat_e1, fRep_e1, fExt_e1, forget_cons, forget_nil, fg_d, fg_fn, fg_none, fg_box, fg_box', insAt, putA, List.lookup_cons, List.lookup_nil, noExc, Option.isSome_some, Option.isSome_none, and_self, and_true, true_and, eq_self, Int.add_zero, fnOf, scrOf, cntI, frzOf, lputOf, $ls,*] $l)
theorem nd_inj {α β : Type} {f : α → β} : ∀ {l : List α} {a b : α}, (l.map f).Nodup → a ∈ l → b ∈ l → f a = f b → a = b
  | x :: l, a, b, h, ha, hb, e => by
    rw [List.map_cons] at h
    obtain ⟨h1, h2⟩ := List.nodup_cons.mp h
    rcases List.mem_cons.mp ha with e1 | h3
    · rcases List.mem_cons.mp hb with e2 | h4
      · rw [e1, e2]
      · exact absurd (show f x ∈ l.map f from List.mem_map.mpr ⟨b, h4, by rw [← e, e1]⟩) h1
    · rcases List.mem_cons.mp hb with e2 | h4
      · exact absurd (show f x ∈ l.map f from List.mem_map.mpr ⟨a, h3, by rw [e, e2]⟩) h1
      · exact nd_inj h2 h3 h4 e
theorem OkL.okD {n : Int} {p : Prog} {l : Lay} (h : OkL n p l) (hm : okNm (p.map (·.1))) : okD 2 (dLay l) := okD_lay hm fun c hc => by
  rw [← h.nm]
  exact List.mem_map.mpr ⟨c, hc, rfl⟩
theorem lenS_lay {S : Sto} {l : Lay} : lenS S [.d (dLay l)] = some (.int l.length) := by
  unfold dLay
  rw [lenS_e1, List.length_map]
theorem itemsQ_lay {l : Lay} : itemsQ (.d (dLay l)) = some (l.map dSpot) := rfl
/-- a laying whose names and spots are right is one just if no spot is twice -/
theorem is_laying_nd {n : Int} {hd : PyData} {p : Prog} {l : Lay} {S : Sto} (hl : p.length ≤ 60) (hnm : l.map (·.1) = p.map (·.1)) (hrg : ∀ x ∈ l, 0 ≤ x.2 ∧ x.2 < n) : F_is_laying [.d (.tuple [.int n, hd]), .d (dProg p), .d (dLay l)] S = .val (.d (.bool (decide (l.map (·.2)).Nodup))) S := by
  have ln : l.length = p.length := by simpa using congrArg List.length hnm
  refine OkE.val (ok_def rfl ?_)
  unfold z_is_laying
  have e := names_ok (p := p) (S := S) (by omega)
  have nm : nms p = l.map (·.1) := hnm.symm
  rw [nm] at e
  simp_arith [dLay, tyN, show isOf "tuple" "tuple" = true from by decide, e, ln, dStrs_len, zip_lay]
  refine ok_for (fun _ Γ S1 => S1 = S ∧ ∃ (g3 g4 g5 g6 : Option Sl), Γ = [some (.d (.tuple [.int n, hd])), some (.d (dProg p)), some (.d (.tuple (l.map dSpot))), g3, g4, g5, g6]) ⟨rfl, _, _, _, _, rfl⟩ ?_ ?_
  · rintro i d Γ S1 hd ⟨rfl, g3, g4, g5, g6, rfl⟩
    obtain ⟨c, hc, rfl⟩ := List.mem_map.mp (List.mem_of_getElem? hd)
    refine ⟨_, rfl, ?_⟩
    have rg := hrg c hc
    unfold b1_is_laying dSpot
    simp_arith [tyN, show isOf "tuple" "tuple" = true from by decide, show isOf "str" "str" = true from by decide, show isOf "int" "int" = true from by decide, show isOf "bool" "int" = false from by decide]
    exact ⟨_, _, _, _, rfl⟩
  · rintro Γ S1 ⟨rfl, g3, g4, g5, g6, rfl⟩
    simp_arith []
    refine lc_M l dSpot (fun c => .int c.2) (by simp_arith []) (by omega) (fun c _ => ⟨_, rfl, by simp_arith []⟩) ?_
    have e3 : (l.map fun c => PyData.int c.2) = (l.map (·.2)).map .int := by rw [List.map_map]; rfl
    rw [e3]
    have e4 : (((ddup (l.map (·.2))).length : Int) == ((l.map (·.2)).length : Int)) = decide (l.map (·.2)).Nodup := by
      rw [Bool.eq_iff_iff, beq_iff_eq, decide_eq_true_eq, ← ddup_len]
      omega
    rw [List.length_map] at e4
    simp_arith [e4]
theorem is_laying_len {dr : PyData} {p : Prog} {ds : List PyData} {S : Sto} (hl : p.length ≤ 60) (h : ds.length ≠ p.length) : F_is_laying [.d dr, .d (dProg p), .d (.tuple ds)] S = .val (.d (.bool false)) S := by
  have e := names_ok (p := p) (S := S) (by omega)
  have h2 : ¬ ((ds.length : Int) = ((dStrs (nms p)).length : Int)) := by
    rw [dStrs_len]
    unfold nms
    rw [List.length_map]
    omega
  refine OkE.val (ok_def rfl ?_)
  unfold z_is_laying
  simp_arith [tyN, show isOf "tuple" "tuple" = true from by decide, e, h2]
theorem byN_map {p : Prog} : (byN p).map (·.1) = p.map (·.1) := by
  unfold byN nms
  refine List.ext_getElem? fun i => ?_
  rw [List.getElem?_map, List.getElem?_mapIdx]
  cases (p.map (·.1))[i]? <;> rfl
theorem byN_mem {p : Prog} {c : Str × Int} (h : c ∈ byN p) : ∃ i : Nat, (byN p)[i]? = some c ∧ c.2 = i ∧ i < p.length := by
  obtain ⟨i, hi⟩ := List.mem_iff_getElem?.mp h
  refine ⟨i, hi, ?_⟩
  unfold byN nms at hi
  rw [List.getElem?_mapIdx] at hi
  obtain ⟨y, hy, rfl⟩ := Option.map_eq_some_iff.mp hi
  have := (List.getElem?_eq_some_iff.mp hy).1
  exact ⟨rfl, by simpa using this⟩
theorem byN_ok {n : Int} {p : Prog} (h : (p.length : Int) ≤ n) : OkL n p (byN p) := by
  refine ⟨byN_map, fun c hc => ?_, ?_⟩
  · obtain ⟨i, _, e, hi⟩ := byN_mem hc
    omega
  · have e : (byN p).map (·.2) = izs p.length := by
      unfold byN nms izs
      refine List.ext_getElem? fun i => ?_
      rw [List.getElem?_map, List.getElem?_mapIdx, List.getElem?_map, List.getElem?_map]
      by_cases q : i < p.length
      · rw [List.getElem?_range q, List.getElem?_eq_getElem q]
        rfl
      · rw [List.getElem?_eq_none (by omega), List.getElem?_eq_none (by simpa using q)]
        rfl
    rw [e]
    exact izs_nodup
theorem by_names_ok {p : Prog} {S : Sto} (hl : p.length ≤ 60) : F_by_names [.d (dProg p)] S = .val (.d (dLay (byN p))) S := by
  have e := names_ok (p := p) (S := S) (by omega)
  have en : enumD (dStrs (nms p)) = (byN p).map fun c => .tuple [.int c.2, .str c.1] := by
    unfold enumD byN dStrs
    refine List.ext_getElem? fun i => ?_
    rw [List.getElem?_mapIdx, List.getElem?_map, List.getElem?_map, List.getElem?_mapIdx]
    cases (nms p)[i]? <;> rfl
  have ln : (byN p).length = p.length := by simp [byN, nms]
  refine OkE.val (ok_def rfl ?_)
  unfold z_by_names
  simp_arith []
  refine lc_M (byN p) (fun c => .tuple [.int c.2, .str c.1]) dSpot (by simp_arith [e, en]) (by omega) (fun c _ => ⟨_, rfl, by simp_arith [dSpot]⟩) ?_
  simp_arith []
  rfl
end Zc
end
section
set_option Elab.async false
set_option linter.all false
set_option maxRecDepth 100000
set_option autoImplicit false
set_option maxHeartbeats 4000000
namespace Zc
open PySem Z
local macro_rules
  | `(tactic| simp_arith [$ls,*]) => `(tactic| simp -implicitDefEqProofs (disch := omega) only [kB_ap, kS_ap, xD_ap, dSeq_nx, dSeq_rt, dSeq_bk, dSeq_ct, dSeq_ex, dTry_nx, dTry_rt, dTry_bk, dTry_ct, dTry_ex, okE_bd, okS_so, okS_sq, nonD_n, nonD_i, nonD_s, nonD_b, nonD_t, nonD_l, getLast1, getLast1', setLast1, setLast1', takeLast2, zseq_ok, zdrop_ok, zset_ok, zsetF_ok, zifS_ok, ztru_ok, zop_ok, zcb_ok, zcf_ok, zacons_ok, zanil_ok, zc_ok, zv_ok, znil_ok, zret_ok, zcall_ok, zfz_ok, znew_ok, zneg_ok, zos_ok, zon_ok, zsl_ok, zslF_ok, ztup_ok, zlst_ok, zand_ok, zor_ok, znot_ok, zif_ok, zpar_ok, zpar3_ok, zasg_ok, zdnew_ok, znotV_ok, zbrk_ok, zcnt_ok, zopF_ok, zpop0_ok, zdget_ok, zdin_ok, zdnin_ok, zisi_ok, ziA_ok, ziQ_ok, ziL_ok, ziT_ok, zattr_ok, zaset_ok, zmake_ok, zpr_ok, zpr1_ok, zasgP_ok, zlset_ok, zlrg_ok, zkin_ok, zkget_ok, zraise_ok, zfor_ok, zwhile_ok, lamOf_ok, ztrue_ok, zorD_ok, zparA_ok, zdis_ok, ztst_ok, zandV_ok, zorV_ok, zchain_ok, zapp_ok, zmt1_ok, zcnt1_ok, zmeth_ok, zdget2_ok, zact_ok, zlamcall_ok, zfrz_ok, zdput_ok, zlput_ok, ztry_ok, zcatch_nil, zcatch_cons, app2_ok, gN_ap, gT2_ap, gT3_ap, wipeZ, okE_val, okE_exc, okS_nx, okS_rt, okS_bk, okS_ct, okS_ex, okE_ofOpt, rng1_ok, rng2_ok, izs_len, izr_len, List.map_cons, List.map_nil, List.cons_append, List.nil_append, List.replicate, List.length_cons, List.length_nil, List.length_append, List.length_map, List.length_set, List.getElem?_cons_zero, List.getElem?_cons_succ, List.getElem?_nil, List.set_cons_zero, List.set_cons_succ, lstAt, on1, on2, lstOnly, allD_nil, allD_cons, Option.map_some, Option.map_none, Option.bind_some, Option.bind_none, dMul_ok, dMod_ok, dDiv_ok, dEq_i, dEq_s, dEq_b, dNe_i, dNe_s, dNe_b, dEq_ti, dNe_ti, dEq_li, dNe_li, dIn, dNotIn, atI_0, atI_1, atI_2, dMin, dMax, dSum, dAll, dAny, intsOf_map, bolsOf_map, intsOf_nil, intsOf_cons, putS, lim, retN_d, getLast0, setLast0, takeLast0, takeLast1, List.take_succ_cons, List.take_zero, List.take_length, List.take_nil, decide_eq_true_eq, beq_iff_eq, if_true, if_false, Bool.not_true, Bool.not_false, Bool.not_eq_true', Bool.false_eq_true, Bool.true_eq_false, reduceIte, if_pos, if_neg, Nat.add_eq, List.isEmpty_cons, List.isEmpty_nil, Option.some.injEq, decide_true, decide_false, decide_eq_true, decide_eq_false, beq_self_eq_true, BEq.rfl, beq_eq_false_iff_ne, Nat.zero_add, Nat.reduceAdd, Int.toNat_natCast, Bool.not_eq_true, decide_eq_false_iff_not, bne_iff_ne, ne_eq, not_true_eq_false, not_false_eq_true, dAdd_e1, dAdd_e2, dAdd_e3, dSub_e1, dLt_e1, dLt_e2, dLt_e3, dLe_e1, dGt_e1, dGe_e1, dIs_e1, dIs_e2, dIsNot_e1, dIsNot_e2, dIx_e1, dIx_e2, dIx_e3, dTup_e1, dTup_e2, dInt_e1, dInt_e2, dMin2_e1, dMax2_e1, dAbs_e1, truth_e1, truth_e2, truth_e3, truth_e4, truth_e5, truth_e6, truS_e1, truS_e2, res_e1, res_e2, resD_e1, resD_e2, resD_e3, lenS_e1, lenS_e2, lenS_e3, lenS_e4, lenS_e5, itemsQ_e1, itemsQ_e2, itemsL_e1, itemsT_e1, bLst_e1, bLst_e2, dSl_e1, dSl_e2, zipOf_e1, zipOf_e2, enumOf_e1, enumOf_e2, keySl_e1, keyOf_e1, keyOf_e2, setAll_e1, setAll_e2, gNs_e1, bolOf_e1, datOf_e1, lsOf_e1, fCat_e1, fRep_e1, fExt_e1, forget_cons, forget_nil, fg_d, fg_fn, fg_none, fg_box, fg_box', insAt, putA, List.lookup_cons, List.lookup_nil, noExc, Option.isSome_some, Option.isSome_none, and_self, and_true, true_and, eq_self, Int.add_zero, fnOf, scrOf, cntI, frzOf, lputOf, $ls,*])
  | `(tactic| simp_arith [$ls,*] $l:location) => `(tactic| simp -implicitDefEqProofs (disch := omega) only [kB_ap, kS_ap, xD_ap, dSeq_nx, dSeq_rt, dSeq_bk, dSeq_ct, dSeq_ex, dTry_nx, dTry_rt, dTry_bk, dTry_ct, dTry_ex, okE_bd, okS_so, okS_sq, nonD_n, nonD_i, nonD_s, nonD_b, nonD_t, nonD_l, getLast1, getLast1', setLast1, setLast1', takeLast2, zseq_ok, zdrop_ok, zset_ok, zsetF_ok, zifS_ok, ztru_ok, zop_ok, zcb_ok, zcf_ok, zacons_ok, zanil_ok, zc_ok, zv_ok, znil_ok, zret_ok, zcall_ok, zfz_ok, znew_ok, zneg_ok, zos_ok, zon_ok, zsl_ok, zslF_ok, ztup_ok, zlst_ok, zand_ok, zor_ok, znot_ok, zif_ok, zpar_ok, zpar3_ok, zasg_ok, zdnew_ok, znotV_ok, zbrk_ok, zcnt_ok, zopF_ok, zpop0_ok, zdget_ok, zdin_ok, zdnin_ok, zisi_ok, ziA_ok, ziQ_ok, ziL_ok, ziT_ok, zattr_ok, zaset_ok, zmake_ok, zpr_ok, zpr1_ok, zasgP_ok, zlset_ok, zlrg_ok, zkin_ok, zkget_ok, zraise_ok, zfor_ok, zwhile_ok, lamOf_ok, ztrue_ok, zorD_ok, zparA_ok, zdis_ok, ztst_ok, zandV_ok, zorV_ok, zchain_ok, zapp_ok, zmt1_ok, zcnt1_ok, zmeth_ok, zdget2_ok, zact_ok, zlamcall_ok, zfrz_ok, zdput_ok, zlput_ok, ztry_ok, zcatch_nil, zcatch_cons, app2_ok, gN_ap, gT2_ap, gT3_ap, wipeZ, okE_val, okE_exc, okS_nx, okS_rt, okS_bk, okS_ct, okS_ex, okE_ofOpt, rng1_ok, rng2_ok, izs_len, izr_len, List.map_cons, List.map_nil, List.cons_append, List.nil_append, List.replicate, List.length_cons, List.length_nil, List.length_append, List.length_map, List.length_set, List.getElem?_cons_zero, List.getElem?_cons_succ, List.getElem?_nil, List.set_cons_zero, List.set_cons_succ, lstAt, on1, on2, lstOnly, allD_nil, allD_cons, Option.map_some, Option.map_none, Option.bind_some, Option.bind_none, dMul_ok, dMod_ok, dDiv_ok, dEq_i, dEq_s, dEq_b, dNe_i, dNe_s, dNe_b, dEq_ti, dNe_ti, dEq_li, dNe_li, dIn, dNotIn, atI_0, atI_1, atI_2, dMin, dMax, dSum, dAll, dAny, intsOf_map, bolsOf_map, intsOf_nil, intsOf_cons, putS, lim, retN_d, getLast0, setLast0, takeLast0, takeLast1, List.take_succ_cons, List.take_zero, List.take_length, List.take_nil, decide_eq_true_eq, beq_iff_eq, if_true, if_false, Bool.not_true, Bool.not_false, Bool.not_eq_true', Bool.false_eq_true, Bool.true_eq_false, reduceIte, if_pos, if_neg, Nat.add_eq, List.isEmpty_cons, List.isEmpty_nil, Option.some.injEq, decide_true, decide_false, decide_eq_true, decide_eq_false, beq_self_eq_true, BEq.rfl, beq_eq_false_iff_ne, Nat.zero_add, Nat.reduceAdd, Int.toNat_natCast, Bool.not_eq_true, decide_eq_false_iff_not, bne_iff_ne, ne_eq, not_true_eq_false, not_false_eq_true, dAdd_e1, dAdd_e2, dAdd_e3, dSub_e1, dLt_e1, dLt_e2, dLt_e3, dLe_e1, dGt_e1, dGe_e1, dIs_e1, dIs_e2, dIsNot_e1, dIsNot_e2, dIx_e1, dIx_e2, dIx_e3, dTup_e1, dTup_e2, dInt_e1, dInt_e2, dMin2_e1, dMax2_e1, dAbs_e1, truth_e1, truth_e2, truth_e3, truth_e4, truth_e5, truth_e6, truS_e1, truS_e2, res_e1, res_e2, resD_e1, resD_e2, resD_e3, lenS_e1, lenS_e2, lenS_e3, lenS_e4, lenS_e5, itemsQ_e1, itemsQ_e2, itemsL_e1, itemsT_e1, bLst_e1, bLst_e2, dSl_e1, dSl_e2, zipOf_e1, zipOf_e2, enumOf_e1, enumOf_e2, keySl_e1, keyOf_e1, keyOf_e2, setAll_e1, setAll_e2, gNs_e1, bolOf_e1, datOf_e1, lsOf_e1, fCat_e1, fRep_e1, fExt_e1, forget_cons, forget_nil, fg_d, fg_fn, fg_none, fg_box, fg_box', insAt, putA, List.lookup_cons, List.lookup_nil, noExc, Option.isSome_some, Option.isSome_none, and_self, and_true, true_and, eq_self, Int.add_zero, fnOf, scrOf, cntI, frzOf, lputOf, $ls,*] $l)
/-! ### an order done, and its cell -/
inductive EvOk (p : Prog) (e : Ev) : Prop
  | stop : lk p e.x = some (.o "stop" []) → e.w = none → e.e = 1 → EvOk p e
  | less (a b : Str) : lk p e.x = some (.o "less" [a, b]) → a ∈ ords p → b ∈ ords p → e.w = none → e.e = 2 → EvOk p e
  | put (a b : Str) : lk p e.x = some (.o "put" [a, b]) → a ∈ wrds p → b ∈ ords p → e.w = some a → e.e = 1 → EvOk p e
  | add (a b : Str) : lk p e.x = some (.o "add" [a, b]) → a ∈ wrds p → b ∈ ords p → e.w = some a → e.e = 2 → EvOk p e
  | sub (a b : Str) : lk p e.x = some (.o "sub" [a, b]) → a ∈ wrds p → b ∈ ords p → e.w = some a → e.e = 2 → EvOk p e
  | save (a b : Str) : lk p e.x = some (.o "save" [a, b]) → a ∈ wrds p → b ∈ ords p → e.w = some a → e.e = 1 → EvOk p e
theorem cstep_evok {p : Prog} {s : Ct} {x : Str} (h : Sm p s.c) (hx : x ∈ ords p) : EvOk p (cstep s x).1 := by
  obtain ⟨k, as, e, o⟩ := h.wf.ordL (h.o.symm ▸ hx)
  have ep : lk p (cstep s x).1.x = some (.o k as) := by rw [cstep_x, ← h.l x hx, e]
  have ew : (cstep s x).1 = (cstep s x).1 := rfl
  conv at ew => rhs; unfold cstep; rw [e]
  cases o with
  | stop => exact .stop ep (by rw [ew]) (by rw [ew])
  | less a b h1 h2 =>
    rw [h.o] at h1 h2
    exact .less a b ep h1 h2 (by rw [ew]; rfl) (by rw [ew]; rfl)
  | wd k a b h0 h1 h2 =>
    rw [h.o] at h2
    rw [h.w] at h1
    rcases h0 with rfl | rfl | rfl | rfl
    · exact .put a b ep h1 h2 (by rw [ew]; rfl) (by rw [ew]; rfl)
    · exact .add a b ep h1 h2 (by rw [ew]; rfl) (by rw [ew]; rfl)
    · exact .sub a b ep h1 h2 (by rw [ew]; rfl) (by rw [ew]; rfl)
    · exact .save a b ep h1 h2 (by rw [ew]; rfl) (by rw [ew]; rfl)
theorem trace_all {p : Prog} {P : Ev → Prop} (hP : ∀ s x, Sm p s.c → x ∈ ords p → P (cstep s x).1) : ∀ {n : Nat} {s : Ct}, OkC p s → ∀ e ∈ (trace n s).1, P e
  | 0, s, _ => by simp [Zc.trace]
  | n + 1, s, h => by
    cases hn : s.nx with
    | none => rw [trace_none hn]; simp
    | some x =>
      rw [trace_some hn]
      have hx := h.nx
      rw [hn] at hx
      intro e he
      rcases List.mem_cons.mp he with rfl | he
      · exact hP s x h.sm hx
      · exact trace_all hP (cstep_ok h.sm hx) e he
theorem tr_evok {p : Prog} {x : Str} {m : Nat} (hp : WF p) (hx : x ∈ ords p) : ∀ e ∈ (tr p x m).1, EvOk p e := trace_all (fun s x h hx => cstep_evok h hx) (st0_ok hp hx)
theorem tr_ox {p : Prog} {x : Str} {m : Nat} (hp : WF p) (hx : x ∈ ords p) : ∀ e ∈ (tr p x m).1, e.x ∈ ords p := trace_all (P := fun e => e.x ∈ ords p) (fun s x _ hx => by rw [cstep_x]; exact hx) (st0_ok hp hx)
/-! ### how often each is wanted -/
def one? (b : Prop) [Decidable b] : Int := if b then 1 else 0
def cntE (y : Str) : List Ev → Int
  | [] => 0
  | e :: es => one? (e.x = y) + one? (e.w = some y) + cntE y es
theorem cntE_app {y : Str} : ∀ {es es' : List Ev}, cntE y (es ++ es') = cntE y es + cntE y es'
  | [], es' => by simp [cntE]
  | e :: es, es' => by
    rw [List.cons_append, cntE, cntE, cntE_app]
    omega
def askL (p : Prog) (es : List Ev) : Lay := (nms p).map fun y => (y, cntE y es)
theorem askL_nm {p : Prog} {es : List Ev} : (askL p es).map (·.1) = nms p := by
  unfold askL
  rw [List.map_map]
  exact List.map_id' _
theorem lk_fun {α : Type} {f : Str → α} {y : Str} : ∀ {l : List Str}, y ∈ l → lk (l.map fun y => (y, f y)) y = some (f y)
  | z :: l, h => by
    rw [List.map_cons, lk_cons]
    split
    · rename_i q
      rw [q]
    · rename_i q
      rcases List.mem_cons.mp h with r | r
      · exact absurd r.symm q
      · exact lk_fun r
theorem setC_fun {α : Type} {f : Str → α} {y : Str} {v : α} {l : List Str} : setC (l.map fun y => (y, f y)) y v = l.map fun z => (z, if z = y then v else f z) := by
  unfold setC
  rw [List.map_map]
  refine List.map_congr_left fun z _ => ?_
  show (if z = y then (z, v) else (z, f z)) = _
  split <;> rfl
theorem askL_step {p : Prog} {es : List Ev} {e : Ev} : askL p (es ++ [e]) = (nms p).map fun z => (z, cntE z es + one? (e.x = z) + one? (e.w = some z)) := by
  unfold askL
  refine List.map_congr_left fun z _ => ?_
  rw [cntE_app, cntE, cntE]
  congr 1
  omega
theorem put_i {l : Lay} {a : Str} {v : Int} (h : a ∈ l.map (·.1)) : putD (kv PyData.int l) (.inr a) (.int v) = kv PyData.int (setC l a v) := put_kv (f := PyData.int) h
theorem ask_body {p : Prog} {es : List Ev} {e : Ev} {R : Sto} {g1 g2 g5 : Option Sl} {D : Po} (hp : WF p) (he : EvOk p e) (hx : e.x ∈ ords p)
    (hD : ∀ g5, D.nx [some (.d (dProg p)), g1, g2, some (.box R.length), some (.d (.str e.x)), g5] (R ++ [.dic (kv PyData.int (askL p (es ++ [e])))])) :
    OkS (b1_asked [some (.d (dProg p)), g1, g2, some (.box R.length), some (.d (.str e.x)), g5] (R ++ [.dic (kv PyData.int (askL p es))])) D := by
  have hxn : e.x ∈ nms p := ords_nm hx
  have pl := hp.len
  have ln : ∀ f : Str → Int, ((nms p).map fun y => (y, f y)).length = p.length := fun f => by simp [nms]
  have v1 : lk (askL p es) e.x = some (cntE e.x es) := lk_fun hxn
  have s1 : setC (askL p es) e.x (cntE e.x es + 1) = (nms p).map fun z => (z, if z = e.x then cntE e.x es + 1 else cntE z es) := setC_fun
  have mem1 : e.x ∈ (askL p es).map (·.1) := by rw [askL_nm]; exact hxn
  have la : (askL p es).length = p.length := ln _
  rw [askL_step] at hD
  have nw : e.w = none → (nms p).map (fun z => (z, if z = e.x then cntE e.x es + 1 else cntE z es)) = (nms p).map fun z => (z, cntE z es + one? (e.x = z) + one? (e.w = some z)) := fun q => by
    refine List.map_congr_left fun z _ => ?_
    rw [q]
    unfold one?
    by_cases r : z = e.x
    · subst r
      simp
    · rw [if_neg r, if_neg (fun h => r h.symm)]
      simp
  have ww : ∀ a, e.w = some a → a ∈ nms p → a ≠ e.x → lk ((nms p).map fun z => (z, if z = e.x then cntE e.x es + 1 else cntE z es)) a = some (cntE a es) ∧ setC ((nms p).map fun z => (z, if z = e.x then cntE e.x es + 1 else cntE z es)) a (cntE a es + 1) = (nms p).map fun z => (z, cntE z es + one? (e.x = z) + one? (e.w = some z)) := fun a q ha hne => by
    refine ⟨?_, ?_⟩
    · rw [lk_fun (f := fun z => if z = e.x then cntE e.x es + 1 else cntE z es) ha, if_neg hne]
    · rw [setC_fun (f := fun z => if z = e.x then cntE e.x es + 1 else cntE z es)]
      refine List.map_congr_left fun z _ => ?_
      rw [q]
      unfold one?
      by_cases r : z = e.x
      · subst r
        rw [if_neg (fun h => hne h.symm), if_pos rfl, if_pos rfl, if_neg (fun h => hne (Option.some.inj h))]
        simp
      · by_cases r2 : z = a
        · subst r2
          have r' : ¬ e.x = z := fun h => r h.symm
          simp [r']
        · rw [if_neg r2, if_neg r, if_neg (fun h => r h.symm), if_neg (fun h => r2 (Option.some.inj h).symm)]
          simp
  unfold b1_asked
  cases he with
  | stop h1 h2 h3 =>
    have co := fun S => content_ok (S := S) hp.nd h1
    rw [nw h2] at s1
    simp_arith [val_kv, v1, put_i mem1, s1, Zc.kv_len, la, co, dCell, kin_stop, kno_stop]
    exact hD _
  | less a b h1 _ _ h2 h3 =>
    have co := fun S => content_ok (S := S) hp.nd h1
    rw [nw h2] at s1
    simp_arith [val_kv, v1, put_i mem1, s1, Zc.kv_len, la, co, dCell, kin_less, kno_less]
    exact hD _
  | put a b h1 h4 h5 h2 h3 =>
    have co := fun S => content_ok (S := S) hp.nd h1
    obtain ⟨w1, w2⟩ := ww a h2 (wrds_nm h4) (fun z => ow_ne hp hx h4 z.symm)
    have bk := kin_wd (k := "put") (.inl rfl)
    have mem2 : a ∈ ((nms p).map fun z => (z, if z = e.x then cntE e.x es + 1 else cntE z es)).map (·.1) := by
      rw [List.map_map]
      exact List.mem_map.mpr ⟨a, wrds_nm h4, rfl⟩
    simp_arith [val_kv, v1, put_i mem1, s1, Zc.kv_len, la, co, dCell, bk, w1, put_i mem2, w2, ln]
    exact hD _
  | add a b h1 h4 h5 h2 h3 =>
    have co := fun S => content_ok (S := S) hp.nd h1
    obtain ⟨w1, w2⟩ := ww a h2 (wrds_nm h4) (fun z => ow_ne hp hx h4 z.symm)
    have bk := kin_wd (k := "add") (.inr (.inl rfl))
    have mem2 : a ∈ ((nms p).map fun z => (z, if z = e.x then cntE e.x es + 1 else cntE z es)).map (·.1) := by
      rw [List.map_map]
      exact List.mem_map.mpr ⟨a, wrds_nm h4, rfl⟩
    simp_arith [val_kv, v1, put_i mem1, s1, Zc.kv_len, la, co, dCell, bk, w1, put_i mem2, w2, ln]
    exact hD _
  | sub a b h1 h4 h5 h2 h3 =>
    have co := fun S => content_ok (S := S) hp.nd h1
    obtain ⟨w1, w2⟩ := ww a h2 (wrds_nm h4) (fun z => ow_ne hp hx h4 z.symm)
    have bk := kin_wd (k := "sub") (.inr (.inr (.inl rfl)))
    have mem2 : a ∈ ((nms p).map fun z => (z, if z = e.x then cntE e.x es + 1 else cntE z es)).map (·.1) := by
      rw [List.map_map]
      exact List.mem_map.mpr ⟨a, wrds_nm h4, rfl⟩
    simp_arith [val_kv, v1, put_i mem1, s1, Zc.kv_len, la, co, dCell, bk, w1, put_i mem2, w2, ln]
    exact hD _
  | save a b h1 h4 h5 h2 h3 =>
    have co := fun S => content_ok (S := S) hp.nd h1
    obtain ⟨w1, w2⟩ := ww a h2 (wrds_nm h4) (fun z => ow_ne hp hx h4 z.symm)
    have bk := kin_wd (k := "save") (.inr (.inr (.inr rfl)))
    have mem2 : a ∈ ((nms p).map fun z => (z, if z = e.x then cntE e.x es + 1 else cntE z es)).map (·.1) := by
      rw [List.map_map]
      exact List.mem_map.mpr ⟨a, wrds_nm h4, rfl⟩
    simp_arith [val_kv, v1, put_i mem1, s1, Zc.kv_len, la, co, dCell, bk, w1, put_i mem2, w2, ln]
    exact hD _
theorem asked_ok {p : Prog} {x : Str} {m : Nat} {S : Sto} {ns : List Int} (hS : S[0]? = some (.scr ns)) (hp : WF p) (hx : x ∈ ords p) (hm : m ≤ 1000) :
    F_asked [.d (dProg p), .d (.str x), .d (.int m)] S = .val (.d (dLay (askL p (tr p x m).1))) S := by
  have e1 := names_ok (p := p) (S := S) (by have := hp.len; omega)
  have pl := hp.len
  have nd : ((askL p []).map (·.1)).Nodup := by rw [askL_nm]; exact hp.nd
  have eb := bDic_lay nd
  have hS' : ∀ b, (S ++ [b])[0]? = some (.scr ns) := fun b => by rw [List.getElem?_append_left (by cases S with | nil => simp at hS | cons a S => simp), hS]
  have pt := fun b => path_ok (S := S ++ [b]) (hS' b) hp hx hm
  have evs := tr_evok (m := m) hp hx
  have oxs := tr_ox (m := m) hp hx
  refine OkE.val (ok_def rfl ?_)
  unfold z_asked
  simp_arith []
  refine lc_M (nms p) .str (fun y => .tuple [.str y, .int 0]) (by simp_arith [e1, dStrs]) (by unfold nms; rw [List.length_map]; omega) (fun y _ => ⟨_, rfl, by simp_arith []⟩) ?_
  have e2 : (nms p).map (fun y => PyData.tuple [.str y, .int 0]) = (askL p []).map dSpot := by
    unfold askL
    rw [List.map_map]
    rfl
  have eb2 : bDic (.list ((askL p []).map dSpot)) = some (.dic (kv PyData.int (askL p []))) := eb
  rw [e2]
  simp_arith [eb2, pt, dStrs, List.map_map]
  refine ok_for (fun i Γ S1 => ∃ g4 g5, Γ = [some (.d (dProg p)), some (.d (.str x)), some (.d (.int m)), some (.box S.length), g4, g5] ∧ S1 = S ++ [.dic (kv PyData.int (askL p ((tr p x m).1.take i)))]) ⟨_, _, rfl, rfl⟩ ?_ ?_
  · rintro i d Γ S1 hd ⟨g4, g5, rfl, rfl⟩
    rw [List.getElem?_map] at hd
    obtain ⟨e, he, rfl⟩ := Option.map_eq_some_iff.mp hd
    have hmem := List.mem_of_getElem? he
    have ht : (tr p x m).1.take (i + 1) = (tr p x m).1.take i ++ [e] := by
      rw [List.take_add_one, he]
      rfl
    refine ⟨_, rfl, ask_body (es := (tr p x m).1.take i) hp (evs e hmem) (oxs e hmem) fun g5 => ?_⟩
    rw [← ht]
    exact ⟨fg (S.length + 1) (some (.d (.str e.x))), fg (S.length + 1) g5, by simp_arith [], by simp_arith []⟩
  · rintro Γ S1 ⟨g4, g5, rfl, rfl⟩
    rw [List.length_map, List.take_length]
    have hne : askL p (tr p x m).1 ≠ [] := by
      intro z
      have := askL_nm (p := p) (es := (tr p x m).1)
      rw [z] at this
      exact ords_ne hx (List.map_eq_nil_iff.mp this.symm)
    have ln : (askL p (tr p x m).1).length = p.length := by simp [askL, nms]
    have hup : ((askL p (tr p x m).1).map (·.1)).Pairwise slt := by rw [askL_nm]; exact hp.up
    simp_arith []
    refine lc_M (askL p (tr p x m).1) (fun c => .str c.1) dSpot ?_ (by omega) (fun c hc => ⟨_, rfl, ?_⟩) ?_
    · simp_arith [srtS, keysI_kv hne, keysS_kv, up_srt hup, List.map_map, ln]
      rfl
    · have hk := lk_of_mem (show ((askL p (tr p x m).1).map (·.1)).Nodup from up_nd hup) (show (c.1, c.2) ∈ askL p (tr p x m).1 from hc)
      simp_arith [val_kv, hk, dSpot]
    · simp_arith []
      rfl
end Zc
end
section
set_option Elab.async false
set_option linter.all false
set_option maxRecDepth 100000
set_option autoImplicit false
set_option maxHeartbeats 1000000
namespace Q_drumwords_k32_whole_bounds_of_sums
open Z Zc PySem
local macro_rules
  | `(tactic| simp_arith [$ls,*]) => `(tactic| simp -implicitDefEqProofs (disch := omega) only [kB_ap, kS_ap, xD_ap, dSeq_nx, dSeq_rt, dSeq_bk, dSeq_ct, dSeq_ex, dTry_nx, dTry_rt, dTry_bk, dTry_ct, dTry_ex, okE_bd, okS_so, okS_sq, nonD_n, nonD_i, nonD_s, nonD_b, nonD_t, nonD_l, getLast1, getLast1', setLast1, setLast1', takeLast2, zseq_ok, zdrop_ok, zset_ok, zsetF_ok, zifS_ok, ztru_ok, zop_ok, zcb_ok, zcf_ok, zacons_ok, zanil_ok, zc_ok, zv_ok, znil_ok, zret_ok, zcall_ok, zfz_ok, znew_ok, zneg_ok, zos_ok, zon_ok, zsl_ok, zslF_ok, ztup_ok, zlst_ok, zand_ok, zor_ok, znot_ok, zif_ok, zpar_ok, zpar3_ok, zasg_ok, zdnew_ok, znotV_ok, zbrk_ok, zcnt_ok, zopF_ok, zpop0_ok, zdget_ok, zdin_ok, zdnin_ok, zisi_ok, ziA_ok, ziQ_ok, ziL_ok, ziT_ok, zattr_ok, zaset_ok, zmake_ok, zpr_ok, zpr1_ok, zasgP_ok, zlset_ok, zlrg_ok, zkin_ok, zkget_ok, zraise_ok, zfor_ok, zwhile_ok, lamOf_ok, ztrue_ok, zorD_ok, zparA_ok, zdis_ok, ztst_ok, zandV_ok, zorV_ok, zchain_ok, zapp_ok, zmt1_ok, zcnt1_ok, zmeth_ok, zdget2_ok, zact_ok, zlamcall_ok, zfrz_ok, zdput_ok, zlput_ok, ztry_ok, zcatch_nil, zcatch_cons, app2_ok, gN_ap, gT2_ap, gT3_ap, wipeZ, okE_val, okE_exc, okS_nx, okS_rt, okS_bk, okS_ct, okS_ex, okE_ofOpt, rng1_ok, rng2_ok, izs_len, izr_len, List.map_cons, List.map_nil, List.cons_append, List.nil_append, List.replicate, List.length_cons, List.length_nil, List.length_append, List.length_map, List.length_set, List.getElem?_cons_zero, List.getElem?_cons_succ, List.getElem?_nil, List.set_cons_zero, List.set_cons_succ, lstAt, on1, on2, lstOnly, allD_nil, allD_cons, Option.map_some, Option.map_none, Option.bind_some, Option.bind_none, dMul_ok, dMod_ok, dDiv_ok, dEq_i, dEq_s, dEq_b, dNe_i, dNe_s, dNe_b, dEq_ti, dNe_ti, dEq_li, dNe_li, dIn, dNotIn, atI_0, atI_1, atI_2, dMin, dMax, dSum, dAll, dAny, intsOf_map, bolsOf_map, intsOf_nil, intsOf_cons, putS, lim, retN_d, getLast0, setLast0, takeLast0, takeLast1, List.take_succ_cons, List.take_zero, List.take_length, List.take_nil, decide_eq_true_eq, beq_iff_eq, if_true, if_false, Bool.not_true, Bool.not_false, Bool.not_eq_true', Bool.false_eq_true, Bool.true_eq_false, reduceIte, if_pos, if_neg, Nat.add_eq, List.isEmpty_cons, List.isEmpty_nil, Option.some.injEq, decide_true, decide_false, decide_eq_true, decide_eq_false, beq_self_eq_true, BEq.rfl, beq_eq_false_iff_ne, Nat.zero_add, Nat.reduceAdd, Int.toNat_natCast, Bool.not_eq_true, decide_eq_false_iff_not, bne_iff_ne, ne_eq, not_true_eq_false, not_false_eq_true, dAdd_e1, dAdd_e2, dAdd_e3, dSub_e1, dLt_e1, dLt_e2, dLt_e3, dLe_e1, dGt_e1, dGe_e1, dIs_e1, dIs_e2, dIsNot_e1, dIsNot_e2, dIx_e1, dIx_e2, dIx_e3, dTup_e1, dTup_e2, dInt_e1, dInt_e2, dMin2_e1, dMax2_e1, dAbs_e1, truth_e1, truth_e2, truth_e3, truth_e4, truth_e5, truth_e6, truS_e1, truS_e2, res_e1, res_e2, resD_e1, resD_e2, resD_e3, lenS_e1, lenS_e2, lenS_e3, lenS_e4, lenS_e5, itemsQ_e1, itemsQ_e2, itemsL_e1, itemsT_e1, bLst_e1, bLst_e2, dSl_e1, dSl_e2, zipOf_e1, zipOf_e2, enumOf_e1, enumOf_e2, keySl_e1, keyOf_e1, keyOf_e2, setAll_e1, setAll_e2, gNs_e1, bolOf_e1, datOf_e1, lsOf_e1, fCat_e1, fRep_e1, fExt_e1, forget_cons, forget_nil, fg_d, fg_fn, fg_none, fg_box, fg_box', insAt, putA, List.lookup_cons, List.lookup_nil, noExc, Option.isSome_some, Option.isSome_none, and_self, and_true, true_and, eq_self, Int.add_zero, fnOf, scrOf, cntI, frzOf, lputOf, $ls,*])
  | `(tactic| simp_arith [$ls,*] $l:location) => `(tactic| simp -implicitDefEqProofs (disch := omega) only [kB_ap, kS_ap, xD_ap, dSeq_nx, dSeq_rt, dSeq_bk, dSeq_ct, dSeq_ex, dTry_nx, dTry_rt, dTry_bk, dTry_ct, dTry_ex, okE_bd, okS_so, okS_sq, nonD_n, nonD_i, nonD_s, nonD_b, nonD_t, nonD_l, getLast1, getLast1', setLast1, setLast1', takeLast2, zseq_ok, zdrop_ok, zset_ok, zsetF_ok, zifS_ok, ztru_ok, zop_ok, zcb_ok, zcf_ok, zacons_ok, zanil_ok, zc_ok, zv_ok, znil_ok, zret_ok, zcall_ok, zfz_ok, znew_ok, zneg_ok, zos_ok, zon_ok, zsl_ok, zslF_ok, ztup_ok, zlst_ok, zand_ok, zor_ok, znot_ok, zif_ok, zpar_ok, zpar3_ok, zasg_ok, zdnew_ok, znotV_ok, zbrk_ok, zcnt_ok, zopF_ok, zpop0_ok, zdget_ok, zdin_ok, zdnin_ok, zisi_ok, ziA_ok, ziQ_ok, ziL_ok, ziT_ok, zattr_ok, zaset_ok, zmake_ok, zpr_ok, zpr1_ok, zasgP_ok, zlset_ok, zlrg_ok, zkin_ok, zkget_ok, zraise_ok, zfor_ok, zwhile_ok, lamOf_ok, ztrue_ok, zorD_ok, zparA_ok, zdis_ok, ztst_ok, zandV_ok, zorV_ok, zchain_ok, zapp_ok, zmt1_ok, zcnt1_ok, zmeth_ok, zdget2_ok, zact_ok, zlamcall_ok, zfrz_ok, zdput_ok, zlput_ok, ztry_ok, zcatch_nil, zcatch_cons, app2_ok, gN_ap, gT2_ap, gT3_ap, wipeZ, okE_val, okE_exc, okS_nx, okS_rt, okS_bk, okS_ct, okS_ex, okE_ofOpt, rng1_ok, rng2_ok, izs_len, izr_len, List.map_cons, List.map_nil, List.cons_append, List.nil_append, List.replicate, List.length_cons, List.length_nil, List.length_append, List.length_map, List.length_set, List.getElem?_cons_zero, List.getElem?_cons_succ, List.getElem?_nil, List.set_cons_zero, List.set_cons_succ, lstAt, on1, on2, lstOnly, allD_nil, allD_cons, Option.map_some, Option.map_none, Option.bind_some, Option.bind_none, dMul_ok, dMod_ok, dDiv_ok, dEq_i, dEq_s, dEq_b, dNe_i, dNe_s, dNe_b, dEq_ti, dNe_ti, dEq_li, dNe_li, dIn, dNotIn, atI_0, atI_1, atI_2, dMin, dMax, dSum, dAll, dAny, intsOf_map, bolsOf_map, intsOf_nil, intsOf_cons, putS, lim, retN_d, getLast0, setLast0, takeLast0, takeLast1, List.take_succ_cons, List.take_zero, List.take_length, List.take_nil, decide_eq_true_eq, beq_iff_eq, if_true, if_false, Bool.not_true, Bool.not_false, Bool.not_eq_true', Bool.false_eq_true, Bool.true_eq_false, reduceIte, if_pos, if_neg, Nat.add_eq, List.isEmpty_cons, List.isEmpty_nil, Option.some.injEq, decide_true, decide_false, decide_eq_true, decide_eq_false, beq_self_eq_true, BEq.rfl, beq_eq_false_iff_ne, Nat.zero_add, Nat.reduceAdd, Int.toNat_natCast, Bool.not_eq_true, decide_eq_false_iff_not, bne_iff_ne, ne_eq, not_true_eq_false, not_false_eq_true, dAdd_e1, dAdd_e2, dAdd_e3, dSub_e1, dLt_e1, dLt_e2, dLt_e3, dLe_e1, dGt_e1, dGe_e1, dIs_e1, dIs_e2, dIsNot_e1, dIsNot_e2, dIx_e1, dIx_e2, dIx_e3, dTup_e1, dTup_e2, dInt_e1, dInt_e2, dMin2_e1, dMax2_e1, dAbs_e1, truth_e1, truth_e2, truth_e3, truth_e4, truth_e5, truth_e6, truS_e1, truS_e2, res_e1, res_e2, resD_e1, resD_e2, resD_e3, lenS_e1, lenS_e2, lenS_e3, lenS_e4, lenS_e5, itemsQ_e1, itemsQ_e2, itemsL_e1, itemsT_e1, bLst_e1, bLst_e2, dSl_e1, dSl_e2, zipOf_e1, zipOf_e2, enumOf_e1, enumOf_e2, keySl_e1, keyOf_e1, keyOf_e2, setAll_e1, setAll_e2, gNs_e1, bolOf_e1, datOf_e1, lsOf_e1, fCat_e1, fRep_e1, fExt_e1, forget_cons, forget_nil, fg_d, fg_fn, fg_none, fg_box, fg_box', insAt, putA, List.lookup_cons, List.lookup_nil, noExc, Option.isSome_some, Option.isSome_none, and_self, and_true, true_and, eq_self, Int.add_zero, fnOf, scrOf, cntI, frzOf, lputOf, $ls,*] $l)
theorem hold_ok {n : Int} {S : Sto} : F__law_held [.d (.int n)] S = .val (.d (.int (hold n))) S := by
  refine OkE.val (ok_def rfl ?_)
  unfold z__law_held
  simp_arith []
  rfl
def nm6 : Nat → Str
  | 0 => "a"
  | 1 => "b"
  | 2 => "c"
  | 3 => "d"
  | 4 => "e"
  | _ => "f"
def sg (up : Bool) (v : Int) : Int := if up = true then v else 0 - v
def k1 (up : Bool) : Str := if up = true then "add" else "sub"
def k2 (up : Bool) : Str := if up = true then "sub" else "add"
def prog (up : Bool) (n z : Int) : Prog := [("a", .o "put" ["z", "b"]), ("b", .o (k1 up) ["y", "c"]), ("c", .o (k1 up) ["y", "d"]), ("d", .o "save" ["z", "e"]), ("e", .o (k1 up) ["z", "f"]), ("f", .o (k2 up) ["y", "b"]), ("y", .w n), ("z", .w z)]
structure St6 where
  t : Int
  z : Int
  i : Nat
def step6 (up : Bool) (n : Int) (s : St6) : St6 := match s.i with
  | 0 => ⟨s.z, s.z, 1⟩
  | 1 => ⟨hold (s.t + sg up n), s.z, 2⟩
  | 2 => ⟨hold (s.t + sg up n), s.z, 3⟩
  | 3 => ⟨s.t, s.t, 4⟩
  | 4 => ⟨hold (s.t + sg up s.z), s.z, 5⟩
  | _ => ⟨hold (s.t - sg up n), s.z, 1⟩
def sim (up : Bool) (n : Int) : Nat → St6
  | 0 => ⟨0, 0, 0⟩
  | k + 1 => step6 up n (sim up n k)
theorem step6_i {up : Bool} {n : Int} {s : St6} (h : s.i < 6) : (step6 up n s).i < 6 := by
  obtain ⟨t, z, i⟩ := s
  have h : i < 6 := h
  unfold step6
  match i, h with
  | 0, _ => simp
  | 1, _ => simp
  | 2, _ => simp
  | 3, _ => simp
  | 4, _ => simp
  | 5, _ => simp
theorem sim_i {up : Bool} {n : Int} : ∀ {k : Nat}, (sim up n k).i < 6
  | 0 => by simp [sim]
  | k + 1 => step6_i sim_i
def ct (up : Bool) (n : Int) (s : St6) : Ct := ⟨prog up n s.z, s.t, some (nm6 s.i)⟩
theorem cstep6 {up : Bool} {n : Int} {s : St6} (h : s.i < 6) : (cstep (ct up n s) (nm6 s.i)).2 = ct up n (step6 up n s) := by
  obtain ⟨t, z, i⟩ := s
  have h : i < 6 := h
  have e1 : ∀ v : Int, t + (0 - v) = t - v := fun v => by omega
  have e2 : ∀ v : Int, t - (0 - v) = t + v := fun v => by omega
  cases up with
  | true =>
    match i, h with
    | 0, _ => rfl
    | 1, _ => rfl
    | 2, _ => rfl
    | 3, _ => rfl
    | 4, _ => rfl
    | 5, _ => rfl
  | false =>
    match i, h with
    | 0, _ => rfl
    | 1, _ =>
      show (⟨_, hold (t - n), _⟩ : Ct) = ⟨_, hold (t + (0 - n)), _⟩
      rw [e1]
      rfl
    | 2, _ =>
      show (⟨_, hold (t - n), _⟩ : Ct) = ⟨_, hold (t + (0 - n)), _⟩
      rw [e1]
      rfl
    | 3, _ => rfl
    | 4, _ =>
      show (⟨_, hold (t - z), _⟩ : Ct) = ⟨_, hold (t + (0 - z)), _⟩
      rw [e1]
      rfl
    | 5, _ =>
      show (⟨_, hold (t + n), _⟩ : Ct) = ⟨_, hold (t - (0 - n)), _⟩
      rw [e2]
      rfl
theorem trace6 {up : Bool} {n : Int} : ∀ {k : Nat}, (tr (prog up n 0) "a" k).2 = ct up n (sim up n k)
  | 0 => rfl
  | k + 1 => by
    have ih := trace6 (up := up) (n := n) (k := k)
    have hn : (tr (prog up n 0) "a" k).2.nx = some (nm6 (sim up n k).i) := by rw [ih]; rfl
    rw [tr, trace_more hn]
    show (cstep (tr (prog up n 0) "a" k).2 _).2 = _
    rw [ih, cstep6 sim_i]
    rfl
theorem prog_wf {up : Bool} {n z : Int} : WF (prog up n z) := by
  refine ⟨fun c hc => ?_, ?_, by simp [prog]⟩
  · have ho : ords (prog up n z) = (["a", "b", "c", "d", "e", "f"] : List Str) := rfl
    have hw : wrds (prog up n z) = (["y", "z"] : List Str) := rfl
    rw [ho, hw]
    have k1w : isWk (k1 up) := by cases up <;> simp [k1, isWk]
    have k2w : isWk (k2 up) := by cases up <;> simp [k2, isWk]
    unfold prog at hc
    simp only [List.mem_cons, List.not_mem_nil, or_false] at hc
    rcases hc with rfl | rfl | rfl | rfl | rfl | rfl | rfl | rfl
    · exact .wd _ _ _ (.inl rfl) (by simp) (by simp)
    · exact .wd _ _ _ k1w (by simp) (by simp)
    · exact .wd _ _ _ k1w (by simp) (by simp)
    · exact .wd _ _ _ (.inr (.inr (.inr rfl))) (by simp) (by simp)
    · exact .wd _ _ _ k1w (by simp) (by simp)
    · exact .wd _ _ _ k2w (by simp) (by simp)
    · exact .w _
    · exact .w _
  · show [("a" : Str), "b", "c", "d", "e", "f", "y", "z"].Pairwise slt
    unfold slt
    decide
theorem prog_nm {up : Bool} {n z : Int} : okNm ((prog up n z).map (·.1)) := by
  intro x hx
  have hx : x ∈ [("a" : Str), "b", "c", "d", "e", "f", "y", "z"] := hx
  simp only [List.mem_cons, List.not_mem_nil, or_false] at hx
  rcases hx with rfl | rfl | rfl | rfl | rfl | rfl | rfl | rfl <;> decide +kernel
theorem nx6 {i : Nat} (h : i < 6) : valD (mergeD [] ((([("a", .str "b"), ("b", .str "c"), ("c", .str "d"), ("d", .str "e"), ("e", .str "f"), ("f", .str "b")] : List (Str × PyData)).map fun u => ((Sum.inr u.1 : L2.Key), u.2)))) (.inr (nm6 i)) = some (.str (nm6 (step6 true 0 ⟨0, 0, i⟩).i)) := by
  match i, h with
  | 0, _ => rfl
  | 1, _ => rfl
  | 2, _ => rfl
  | 3, _ => rfl
  | 4, _ => rfl
  | 5, _ => rfl
theorem step6_ix {up up' : Bool} {n n' : Int} {s s' : St6} (h : s.i = s'.i) : (step6 up n s).i = (step6 up' n' s').i := by
  obtain ⟨t, z, i⟩ := s
  obtain ⟨t', z', i'⟩ := s'
  cases h
  unfold step6
  match i with
  | 0 => rfl
  | 1 => rfl
  | 2 => rfl
  | 3 => rfl
  | 4 => rfl
  | _ + 5 => rfl
theorem b1_ok {up : Bool} {n : Int} {s : St6} {S : Sto} {g0 g1 g2 g3 g5 g6 g8 g9 g10 g14 g15 g16 g17 g18 g19 : Option Sl} {D : Po} (h : s.i < 6)
    (hD : D.nx [g0, g1, g2, g3, some (.d (.bool up)), g5, g6, some (.d (.int n)), g8, g9, g10, some (.d (.int (step6 up n s).t)), some (.d (.int (step6 up n s).z)), some (.d (.str (nm6 (step6 up n s).i))), g14, g15, g16, g17, g18, g19] (S ++ [.dic (mergeD [] ((([("a", .str "b"), ("b", .str "c"), ("c", .str "d"), ("d", .str "e"), ("e", .str "f"), ("f", .str "b")] : List (Str × PyData)).map fun u => ((Sum.inr u.1 : L2.Key), u.2))))])) :
    OkS (b1_law [g0, g1, g2, g3, some (.d (.bool up)), g5, g6, some (.d (.int n)), g8, g9, g10, some (.d (.int s.t)), some (.d (.int s.z)), some (.d (.str (nm6 s.i))), g14, g15, g16, g17, g18, g19] S) D := by
  have nx := nx6 h
  rw [show (step6 true 0 ⟨0, 0, s.i⟩).i = (step6 up n s).i from step6_ix rfl] at nx
  obtain ⟨t, z, i⟩ := s
  have h : i < 6 := h
  unfold b1_law
  cases up with
  | true =>
    match i, h with
    | 0, _ =>
      simp_arith [show (nm6 0 == ("a" : Str)) = true from by decide, nx]
      exact hD
    | 1, _ =>
      simp_arith [show (nm6 1 == ("a" : Str)) = false from by decide, show memD (.str (nm6 1)) (.str "bc") = some true from rfl, hold_ok, nx]
      exact hD
    | 2, _ =>
      simp_arith [show (nm6 2 == ("a" : Str)) = false from by decide, show memD (.str (nm6 2)) (.str "bc") = some true from rfl, hold_ok, nx]
      exact hD
    | 3, _ =>
      simp_arith [show (nm6 3 == ("a" : Str)) = false from by decide, show memD (.str (nm6 3)) (.str "bc") = some false from rfl, show (nm6 3 == ("d" : Str)) = true from by decide, nx]
      exact hD
    | 4, _ =>
      simp_arith [show (nm6 4 == ("a" : Str)) = false from by decide, show memD (.str (nm6 4)) (.str "bc") = some false from rfl, show (nm6 4 == ("d" : Str)) = false from by decide, show (nm6 4 == ("e" : Str)) = true from by decide, hold_ok, nx]
      exact hD
    | 5, _ =>
      simp_arith [show (nm6 5 == ("a" : Str)) = false from by decide, show memD (.str (nm6 5)) (.str "bc") = some false from rfl, show (nm6 5 == ("d" : Str)) = false from by decide, show (nm6 5 == ("e" : Str)) = false from by decide, hold_ok, nx]
      exact hD
  | false =>
    match i, h with
    | 0, _ =>
      simp_arith [show (nm6 0 == ("a" : Str)) = true from by decide, nx]
      exact hD
    | 1, _ =>
      simp_arith [show (nm6 1 == ("a" : Str)) = false from by decide, show memD (.str (nm6 1)) (.str "bc") = some true from rfl, hold_ok, nx]
      exact hD
    | 2, _ =>
      simp_arith [show (nm6 2 == ("a" : Str)) = false from by decide, show memD (.str (nm6 2)) (.str "bc") = some true from rfl, hold_ok, nx]
      exact hD
    | 3, _ =>
      simp_arith [show (nm6 3 == ("a" : Str)) = false from by decide, show memD (.str (nm6 3)) (.str "bc") = some false from rfl, show (nm6 3 == ("d" : Str)) = true from by decide, nx]
      exact hD
    | 4, _ =>
      simp_arith [show (nm6 4 == ("a" : Str)) = false from by decide, show memD (.str (nm6 4)) (.str "bc") = some false from rfl, show (nm6 4 == ("d" : Str)) = false from by decide, show (nm6 4 == ("e" : Str)) = true from by decide, hold_ok, nx]
      exact hD
    | 5, _ =>
      simp_arith [show (nm6 5 == ("a" : Str)) = false from by decide, show memD (.str (nm6 5)) (.str "bc") = some false from rfl, show (nm6 5 == ("d" : Str)) = false from by decide, show (nm6 5 == ("e" : Str)) = false from by decide, hold_ok, nx]
      exact hD
theorem dr32 : IsDrum 10 [0, 3, 6] := ⟨by simp, by simp, by simp⟩
theorem b2_ok {up : Bool} {n : Int} {m : Nat} {p : Prog} {l : Lay} (hp : p = prog up n 0) (hl : l = byN p) {ns : List Int} {tw : List PyData} {g3 g5 g6 g11 g12 g13 g14 g15 g16 g17 g18 g19 : Option Sl} {D : Po} (hm : m ≤ 1000)
    (hD : ∀ (g3 g5 g6 g11 g12 g13 g14 g15 g16 g17 g18 g19 : Option Sl), D.nx [some (.box 0), some (.box 1), some (.d (dDrum 10 [0, 3, 6])), g3, some (.d (.bool up)), g5, g6, some (.d (.int n)), some (.d (dProg p)), some (.d (dLay l)), some (.d (.int m)), g11, g12, g13, g14, g15, g16, g17, g18, g19] [.scr ns, .lst tw]) :
    OkS (b2_law [some (.box 0), some (.box 1), some (.d (dDrum 10 [0, 3, 6])), g3, some (.d (.bool up)), g5, g6, some (.d (.int n)), some (.d (dProg p)), some (.d (dLay l)), some (.d (.int m)), g11, g12, g13, g14, g15, g16, g17, g18, g19] [.scr ns, .lst tw]) D := by
  subst hl
  subst hp
  have sit : Sit 10 [0, 3, 6] (prog up n 0) (byN (prog up n 0)) "a" m := ⟨dr32, by simp, by omega, by omega, prog_wf, prog_nm, byN_ok (by simp [prog]), List.mem_cons_self, hm⟩
  have r := sit.run (t := 0) (S := [.scr ns, .lst tw]) rfl
  have tr6 := trace6 (up := up) (n := n) (k := m)
  unfold dRun at r
  rw [tr6] at r
  have a3 : ∀ {a b c d e : PyData}, L2.atI [a, b, c, d, e] 3 = some d := rfl
  have a4 : ∀ {a b c d e : PyData}, L2.atI [a, b, c, d, e] 4 = some e := rfl
  unfold b2_law
  simp_arith []
  refine ok_for (fun i Γ S => S = [.scr ns, .lst tw] ∧ ∃ (g3 g5 g6 g14 g15 g16 g17 g18 g19 : Option Sl), Γ = [some (.box 0), some (.box 1), some (.d (dDrum 10 [0, 3, 6])), g3, some (.d (.bool up)), g5, g6, some (.d (.int n)), some (.d (dProg (prog up n 0))), some (.d (dLay (byN (prog up n 0)))), some (.d (.int m)), some (.d (.int (sim up n i).t)), some (.d (.int (sim up n i).z)), some (.d (.str (nm6 (sim up n i).i))), g14, g15, g16, g17, g18, g19]) ?_ ?_ ?_
  · exact ⟨rfl, _, _, _, _, _, _, _, _, _, rfl⟩
  · rintro i d Γ S hd ⟨rfl, g3, g5, g6, g14, g15, g16, g17, g18, g19, rfl⟩
    obtain ⟨y, hy, rfl⟩ := List.mem_map.mp (List.mem_of_getElem? hd)
    refine ⟨_, rfl, b1_ok sim_i ?_⟩
    exact ⟨rfl, _, _, _, _, _, _, _, _, _, rfl⟩
  · rintro Γ S ⟨rfl, g3, g5, g6, g14, g15, g16, g17, g18, g19, rfl⟩
    simp only [List.length_map, izs_len, Int.toNat_natCast]
    have ew : Zc.wordsOf (ct up n (sim up n m)).c = ([("y", n), ("z", (sim up n m).z)] : Lay) := rfl
    have eh : (ct up n (sim up n m)).h = (sim up n m).t := rfl
    have ed : dLay ([("y", n), ("z", (sim up n m).z)] : Lay) = .tuple [.tuple [.str "y", .int n], .tuple [.str "z", .int (sim up n m).z]] := rfl
    rw [ew, eh, ed] at r
    have ne : dNe (.tuple [.tuple [.str "y", .int n], .tuple [.str "z", .int (sim up n m).z]]) (.tuple [.tuple [.str "y", .int n], .tuple [.str "z", .int (sim up n m).z]]) = some (.bool false) := by
      refine dNe_self (k := 2) (d := dLay [("y", n), ("z", (sim up n m).z)]) (okD_lay (ms := ["y", "z"]) (fun x hx => ?_) (fun c hc => ?_)) (by omega)
      · simp only [List.mem_cons, List.not_mem_nil, or_false] at hx
        rcases hx with rfl | rfl <;> decide +kernel
      · simp only [List.mem_cons, List.not_mem_nil, or_false] at hc
        rcases hc with rfl | rfl <;> simp
    simp_arith [r, a3, a4, ne]
    exact hD _ _ _ _ _ _ _ _ _ _ _ _
theorem enum_rows {p : Prog} : enumD (p.map dRow) = (p.mapIdx fun i c => (i, c)).map fun q => .tuple [.int (q.1 : Nat), dRow q.2] := by
  unfold enumD
  refine List.ext_getElem? fun i => ?_
  rw [List.getElem?_mapIdx, List.getElem?_map, List.getElem?_map, List.getElem?_mapIdx]
  cases p[i]? <;> rfl
theorem lay_ok {p : Prog} {S : Sto} {g0 g1 g2 g3 g4 g5 g6 g7 g9 g10 g11 g12 g13 g14 g15 g16 g17 g18 g19 : Option Sl} {X : XP} {P : Sl → Sto → Prop} (hl : p.length ≤ 60) (hP : P (.d (dLay (byN p))) S) :
    OkE (zcb (on1 dTup) (zacons (zfz (zlc (ziA enumOf (zacons (zv 8) (zanil))) (gT2 (gN 18) (gN 19)) (ztrue) (ztup (zacons (zop dIx (zv 19) (zc (.int 0))) (zacons (zv 18) (zanil)))) [18, 19])) (zanil)) [g0, g1, g2, g3, g4, g5, g6, g7, some (.d (dProg p)), g9, g10, g11, g12, g13, g14, g15, g16, g17, g18, g19] S) X P := by
  have en := enum_rows (p := p)
  have ix : ∀ c : Str × Cell, dIx (dRow c) (.int 0) = some (.str c.1) := fun c => atI_0
  simp_arith []
  refine lc_M (p.mapIdx fun i c => (i, c)) (fun q => .tuple [.int (q.1 : Nat), dRow q.2]) (fun q => dSpot (q.2.1, (q.1 : Int))) (by unfold dProg; simp_arith [en]) (by simp; omega) (fun q _ => ⟨_, rfl, by simp_arith [ix, dSpot]⟩) ?_
  have eb : (p.mapIdx fun i c => (i, c)).map (fun q => dSpot (q.2.1, (q.1 : Int))) = (byN p).map dSpot := by
    unfold byN nms
    refine List.ext_getElem? fun i => ?_
    rw [List.getElem?_map, List.getElem?_map, List.getElem?_mapIdx, List.getElem?_mapIdx, List.getElem?_map]
    cases p[i]? <;> rfl
  rw [eb]
  simp_arith []
  exact hP
theorem loop_ok {up : Bool} {n : Int} {p : Prog} {l : Lay} (hp : p = prog up n 0) (hl : l = byN p) {ns : List Int} {tw : List PyData} {g3 g5 g6 g10 g11 g12 g13 g14 g15 g16 g17 g18 g19 : Option Sl} {D : Po} (hD : ∀ (g3 g4 g5 g6 g7 g8 g9 g10 g11 g12 g13 g14 g15 g16 g17 g18 g19 : Option Sl), D.nx [some (.box 0), some (.box 1), some (.d (dDrum 10 [0, 3, 6])), g3, g4, g5, g6, g7, g8, g9, g10, g11, g12, g13, g14, g15, g16, g17, g18, g19] [.scr ns, .lst tw]) :
    OkS (zfor (ziQ (ztup (zacons (zc (.int 1)) (zacons (zc (.int 2)) (zacons (zc (.int 3)) (zacons (zc (.int 6)) (zacons (zc (.int 31)) (zacons (zc (.int 60)) (zacons (zc (.int 121)) (zacons (zc (.int 200)) (zanil))))))))))) (gN 10) (b2_law) [some (.box 0), some (.box 1), some (.d (dDrum 10 [0, 3, 6])), g3, some (.d (.bool up)), g5, g6, some (.d (.int n)), some (.d (dProg p)), some (.d (dLay l)), g10, g11, g12, g13, g14, g15, g16, g17, g18, g19] [.scr ns, .lst tw]) D := by
  simp_arith []
  refine ok_for (fun i Γ S => S = [.scr ns, .lst tw] ∧ ∃ (g3 g5 g6 g10 g11 g12 g13 g14 g15 g16 g17 g18 g19 : Option Sl), Γ = [some (.box 0), some (.box 1), some (.d (dDrum 10 [0, 3, 6])), g3, some (.d (.bool up)), g5, g6, some (.d (.int n)), some (.d (dProg p)), some (.d (dLay l)), g10, g11, g12, g13, g14, g15, g16, g17, g18, g19]) ?_ ?_ ?_
  · exact ⟨rfl, _, _, _, _, _, _, _, _, _, _, _, _, _, rfl⟩
  · rintro i d Γ S hd ⟨rfl, g3, g5, g6, g10, g11, g12, g13, g14, g15, g16, g17, g18, g19, rfl⟩
    obtain ⟨m, rfl, hm1⟩ : ∃ m : Nat, d = .int m ∧ m ≤ 1000 := by
      have := List.mem_of_getElem? hd
      simp at this
      rcases this with rfl | rfl | rfl | rfl | rfl | rfl | rfl | rfl
      · exact ⟨1, rfl, by omega⟩
      · exact ⟨2, rfl, by omega⟩
      · exact ⟨3, rfl, by omega⟩
      · exact ⟨6, rfl, by omega⟩
      · exact ⟨31, rfl, by omega⟩
      · exact ⟨60, rfl, by omega⟩
      · exact ⟨121, rfl, by omega⟩
      · exact ⟨200, rfl, by omega⟩
    exact ⟨_, rfl, b2_ok hp hl hm1 fun g3 g5 g6 g11 g12 g13 g14 g15 g16 g17 g18 g19 => ⟨rfl, _, _, _, _, _, _, _, _, _, _, _, _, _, rfl⟩⟩
  · rintro Γ S ⟨rfl, g3, g5, g6, g10, g11, g12, g13, g14, g15, g16, g17, g18, g19, rfl⟩
    exact hD _ _ _ _ _ _ _ _ _ _ _ _ _ _ _ _ _
theorem body_ok {ns : List Int} {tw : List PyData} {g3 g4 g5 g6 g7 g8 g9 g10 g11 g12 g13 g14 g15 g16 g17 g18 g19 : Option Sl} {D : Po} (ht : tw.length < 1000) (hD : ∀ (tw' : List PyData) (g3 g4 g5 g6 g7 g8 g9 g10 g11 g12 g13 g14 g15 g16 g17 g18 g19 : Option Sl), tw'.length ≤ tw.length + 2 → D.nx [some (.box 0), some (.box 1), some (.d (dDrum 10 [0, 3, 6])), g3, g4, g5, g6, g7, g8, g9, g10, g11, g12, g13, g14, g15, g16, g17, g18, g19] [.scr ns, .lst tw']) :
    OkS (b3_law [some (.box 0), some (.box 1), some (.d (dDrum 10 [0, 3, 6])), g3, g4, g5, g6, g7, g8, g9, g10, g11, g12, g13, g14, g15, g16, g17, g18, g19] [.scr ns, .lst tw]) D := by
  unfold b3_law
  generalize hlc : (zcb (on1 dTup) (zacons (zfz (zlc (ziA enumOf (zacons (zv 8) (zanil))) (gT2 (gN 18) (gN 19)) (ztrue) (ztup (zacons (zop dIx (zv 19) (zc (.int 0))) (zacons (zv 18) (zanil)))) [18, 19])) (zanil)) : ZE) = lc
  generalize hfr : (zfor (ziQ (ztup (zacons (zc (.int 1)) (zacons (zc (.int 2)) (zacons (zc (.int 3)) (zacons (zc (.int 6)) (zacons (zc (.int 31)) (zacons (zc (.int 60)) (zacons (zc (.int 121)) (zacons (zc (.int 200)) (zanil))))))))))) (gN 10) (b2_law) : ZS) = fr
  simp_arith []
  refine draw_ok (by omega) (by omega) fun v v0 v1 => ?_
  by_cases hv : v = 0
  · subst hv
    simp_arith []
    refine draw_ok (by simp; omega) (by omega) fun u u0 u1 => ?_
    obtain ⟨n, hn⟩ : ∃ n, 99 - u = n := ⟨_, rfl⟩
    obtain ⟨p, hp⟩ : ∃ p, p = prog true n 0 := ⟨_, rfl⟩
    have ep : PyData.tuple [.tuple [.str "a", .tuple [.str "put", .str "z", .str "b"]], .tuple [.str "b", .tuple [.str "add", .str "y", .str "c"]], .tuple [.str "c", .tuple [.str "add", .str "y", .str "d"]], .tuple [.str "d", .tuple [.str "save", .str "z", .str "e"]], .tuple [.str "e", .tuple [.str "add", .str "z", .str "f"]], .tuple [.str "f", .tuple [.str "sub", .str "y", .str "b"]], .tuple [.str "y", .int n], .tuple [.str "z", .int 0]] = dProg p := by rw [hp]; rfl
    have pl : p.length ≤ 60 := by rw [hp]; simp [prog]
    simp_arith [hn, ep]
    rw [← hlc]
    refine lay_ok pl ?_
    simp_arith []
    rw [← hfr]
    exact loop_ok (up := true) hp rfl fun g3 g4 g5 g6 g7 g8 g9 g10 g11 g12 g13 g14 g15 g16 g17 g18 g19 => hD _ _ _ _ _ _ _ _ _ _ _ _ _ _ _ _ _ _ (by simp)
  · have hv0 : (v == 0) = false := by simpa using hv
    simp_arith [hv0]
    refine draw_ok (by simp; omega) (by omega) fun u u0 u1 => ?_
    obtain ⟨n, hn⟩ : ∃ n, 99 - u = n := ⟨_, rfl⟩
    obtain ⟨p, hp⟩ : ∃ p, p = prog false n 0 := ⟨_, rfl⟩
    have ep : PyData.tuple [.tuple [.str "a", .tuple [.str "put", .str "z", .str "b"]], .tuple [.str "b", .tuple [.str "sub", .str "y", .str "c"]], .tuple [.str "c", .tuple [.str "sub", .str "y", .str "d"]], .tuple [.str "d", .tuple [.str "save", .str "z", .str "e"]], .tuple [.str "e", .tuple [.str "sub", .str "z", .str "f"]], .tuple [.str "f", .tuple [.str "add", .str "y", .str "b"]], .tuple [.str "y", .int n], .tuple [.str "z", .int 0]] = dProg p := by rw [hp]; rfl
    have pl : p.length ≤ 60 := by rw [hp]; simp [prog]
    simp_arith [hn, ep]
    rw [← hlc]
    refine lay_ok pl ?_
    simp_arith []
    rw [← hfr]
    exact loop_ok (up := false) hp rfl fun g3 g4 g5 g6 g7 g8 g9 g10 g11 g12 g13 g14 g15 g16 g17 g18 g19 => hD _ _ _ _ _ _ _ _ _ _ _ _ _ _ _ _ _ _ (by simp)
/-! ### one order, again and again -/
def prog2 (up : Bool) : Prog := [("a", .o (k1 up) ["y", "a"]), ("y", .w 99)]
def hv (up : Bool) : Nat → Int
  | 0 => 0
  | k + 1 => hold (hv up k + sg up 99)
theorem cstep2 {up : Bool} {h : Int} : (cstep ⟨prog2 up, h, some "a"⟩ "a").2 = ⟨prog2 up, hold (h + sg up 99), some "a"⟩ := by
  cases up with
  | true => rfl
  | false =>
    have e : h + (0 - 99) = h - 99 := by omega
    show (⟨_, hold (h - 99), _⟩ : Ct) = ⟨_, hold (h + (0 - 99)), _⟩
    rw [e]
theorem trace2 {up : Bool} : ∀ {k : Nat}, (tr (prog2 up) "a" k).2 = ⟨prog2 up, hv up k, some "a"⟩
  | 0 => rfl
  | k + 1 => by
    have ih := trace2 (up := up) (k := k)
    have hn : (tr (prog2 up) "a" k).2.nx = some ("a" : Str) := by rw [ih]
    rw [tr, trace_more hn]
    show (cstep (tr (prog2 up) "a" k).2 _).2 = _
    rw [ih, cstep2]
    rfl
theorem hv_up : ∀ {k : Nat}, hv true k = if 99 * (k : Int) < 9999 then 99 * (k : Int) else 9999
  | 0 => rfl
  | k + 1 => by
    have e : sg true 99 = 99 := rfl
    rw [hv, hv_up, e]
    unfold hold
    (repeat' split) <;> omega
theorem hv_dn : ∀ {k : Nat}, hv false k = if -99 * (k : Int) > -9999 then -99 * (k : Int) else -9999
  | 0 => rfl
  | k + 1 => by
    have e : sg false 99 = -99 := rfl
    rw [hv, hv_dn, e]
    unfold hold
    (repeat' split) <;> omega
theorem prog2_wf {up : Bool} : WF (prog2 up) := by
  refine ⟨fun c hc => ?_, ?_, by simp [prog2]⟩
  · have ho : ords (prog2 up) = (["a"] : List Str) := rfl
    have hw : wrds (prog2 up) = (["y"] : List Str) := rfl
    rw [ho, hw]
    have k1w : isWk (k1 up) := by cases up <;> simp [k1, isWk]
    unfold prog2 at hc
    simp only [List.mem_cons, List.not_mem_nil, or_false] at hc
    rcases hc with rfl | rfl
    · exact .wd _ _ _ k1w (by simp) (by simp)
    · exact .w _
  · show [("a" : Str), "y"].Pairwise slt
    unfold slt
    decide
theorem run2 {up : Bool} {m : Nat} {ns : List Int} {R : Sto} (hm : m ≤ 1000) : F_run [.d (dDrum 4 [0]), .d (dProg (prog2 up)), .d (dLay ([("a", 0), ("y", 1)] : Lay)), .d (.str "a"), .d (.int 0), .d (.int m)] (.scr ns :: R) = .val (.d (.tuple [dSteps (timed (whR 4 [0] ([("a", 0), ("y", 1)] : Lay)) 0 (tr (prog2 up) "a" m).1).1, .bool (some ("a" : Str)).isNone, .int (timed (whR 4 [0] ([("a", 0), ("y", 1)] : Lay)) 0 (tr (prog2 up) "a" m).1).2, .int (hv up m), dLay (Zc.wordsOf (prog2 up))])) (.scr ns :: R) := by
  have hl : OkL 4 (prog2 up) ([("a", 0), ("y", 1)] : Lay) := ⟨rfl, fun c hc => by
    simp only [List.mem_cons, List.not_mem_nil, or_false] at hc
    rcases hc with rfl | rfl <;> simp, by simp⟩
  have r := run_ok (n := 4) (hs := [0]) (p := prog2 up) (l := ([("a", 0), ("y", 1)] : Lay)) (x := "a") (t := 0) (m := m) (S := .scr ns :: R) rfl (by omega) (by simp) (by simp) prog2_wf hl List.mem_cons_self hm
  unfold dRun at r
  rw [trace2] at r
  exact r
theorem b4_ok {m : Nat} {ns : List Int} {R : Sto} {g0 g1 g2 g3 g4 g5 g6 g7 g8 g9 g11 g12 g13 g14 g15 g17 g18 g19 : Option Sl} {D : Po} {tp : PyData} (htp : tp = .tuple [.tuple [.str "a", .tuple [.str "add", .str "y", .str "a"]], .tuple [.str "y", .int 99]]) (hm : m ≤ 1000)
    (hD : D.nx [g0, g1, g2, g3, g4, g5, g6, g7, g8, g9, some (.d (.int m)), g11, g12, g13, g14, g15, some (.d tp), g17, g18, g19] (.scr ns :: R)) :
    OkS (b4_law [g0, g1, g2, g3, g4, g5, g6, g7, g8, g9, some (.d (.int m)), g11, g12, g13, g14, g15, some (.d tp), g17, g18, g19] (.scr ns :: R)) D := by
  subst htp
  have r := run2 (up := true) (m := m) (ns := ns) (R := R) hm
  have e1 : dProg (prog2 true) = .tuple [.tuple [.str "a", .tuple [.str "add", .str "y", .str "a"]], .tuple [.str "y", .int 99]] := rfl
  have e2 : dLay ([("a", 0), ("y", 1)] : Lay) = .tuple [.tuple [.str "a", .int 0], .tuple [.str "y", .int 1]] := rfl
  have e3 : dDrum 4 [0] = .tuple [.int 4, .tuple [.int 0]] := rfl
  rw [e1, e2, e3] at r
  rw [hv_up] at r
  have a3 : ∀ {a b c d e : PyData}, L2.atI [a, b, c, d, e] 3 = some d := rfl
  unfold b4_law
  simp_arith [r, a3]
  exact hD
theorem b5_ok {m : Nat} {ns : List Int} {R : Sto} {g0 g1 g2 g3 g4 g5 g6 g7 g8 g9 g11 g12 g13 g14 g15 g16 g18 g19 : Option Sl} {D : Po} {tp : PyData} (htp : tp = .tuple [.tuple [.str "a", .tuple [.str "sub", .str "y", .str "a"]], .tuple [.str "y", .int 99]]) (hm : m ≤ 1000)
    (hD : D.nx [g0, g1, g2, g3, g4, g5, g6, g7, g8, g9, some (.d (.int m)), g11, g12, g13, g14, g15, g16, some (.d tp), g18, g19] (.scr ns :: R)) :
    OkS (b5_law [g0, g1, g2, g3, g4, g5, g6, g7, g8, g9, some (.d (.int m)), g11, g12, g13, g14, g15, g16, some (.d tp), g18, g19] (.scr ns :: R)) D := by
  subst htp
  have r := run2 (up := false) (m := m) (ns := ns) (R := R) hm
  have e1 : dProg (prog2 false) = .tuple [.tuple [.str "a", .tuple [.str "sub", .str "y", .str "a"]], .tuple [.str "y", .int 99]] := rfl
  have e2 : dLay ([("a", 0), ("y", 1)] : Lay) = .tuple [.tuple [.str "a", .int 0], .tuple [.str "y", .int 1]] := rfl
  have e3 : dDrum 4 [0] = .tuple [.int 4, .tuple [.int 0]] := rfl
  rw [e1, e2, e3] at r
  rw [hv_dn] at r
  have a3 : ∀ {a b c d e : PyData}, L2.atI [a, b, c, d, e] 3 = some d := rfl
  unfold b5_law
  simp_arith [r, a3]
  exact hD
theorem law_true (ns : List Int) (h : ns.length ≤ 63) : ∃ S', F_law [.box 0] [.scr ns] = .val (.d (.bool true)) S' := by
  suffices hz : OkE (F_law [.box 0] [.scr ns]) noX fun x _ => x = .d (.bool true) by
    obtain ⟨a, S, e, rfl⟩ := hz.eq
    exact ⟨S, e⟩
  have four : ∀ (i : Nat) (d : PyData), ([.int 100, .int 101, .int 102, .int 200] : List PyData)[i]? = some d → ∃ m : Nat, d = .int m ∧ m ≤ 1000 := fun i d hd => by
    have := List.mem_of_getElem? hd
    simp at this
    rcases this with rfl | rfl | rfl | rfl
    · exact ⟨100, rfl, by omega⟩
    · exact ⟨101, rfl, by omega⟩
    · exact ⟨102, rfl, by omega⟩
    · exact ⟨200, rfl, by omega⟩
  have e3 : PyData.tuple [.int 10, .tuple [.int 0, .int 3, .int 6]] = dDrum 10 [0, 3, 6] := rfl
  obtain ⟨ta, hta⟩ : ∃ ta : PyData, ta = .tuple [.tuple [.str "a", .tuple [.str "add", .str "y", .str "a"]], .tuple [.str "y", .int 99]] := ⟨_, rfl⟩
  obtain ⟨ts, hts⟩ : ∃ ts : PyData, ts = .tuple [.tuple [.str "a", .tuple [.str "sub", .str "y", .str "a"]], .tuple [.str "y", .int 99]] := ⟨_, rfl⟩
  refine ok_def rfl ?_
  unfold z_law
  simp_arith []
  rw [e3]
  refine ok_for (fun i Γ S => ∃ (tw : List PyData) (g3 g4 g5 g6 g7 g8 g9 g10 g11 g12 g13 g14 g15 g16 g17 g18 g19 : Option Sl), tw.length ≤ 2 * i ∧ Γ = [some (.box 0), some (.box 1), some (.d (dDrum 10 [0, 3, 6])), g3, g4, g5, g6, g7, g8, g9, g10, g11, g12, g13, g14, g15, g16, g17, g18, g19] ∧ S = [.scr ns, .lst tw]) ?_ ?_ ?_
  · exact ⟨[], _, _, _, _, _, _, _, _, _, _, _, _, _, _, _, _, _, by simp, rfl, rfl⟩
  · rintro i d Γ S hd ⟨tw, g3, g4, g5, g6, g7, g8, g9, g10, g11, g12, g13, g14, g15, g16, g17, g18, g19, a1, rfl, rfl⟩
    have hi : i < 6 := by
      have := (List.getElem?_eq_some_iff.mp hd).1
      simpa [izs] using this
    exact ⟨_, rfl, body_ok (by omega) fun tw' g3 g4 g5 g6 g7 g8 g9 g10 g11 g12 g13 g14 g15 g16 g17 g18 g19 hl => ⟨tw', _, _, _, _, _, _, _, _, _, _, _, _, _, _, _, _, _, by omega, rfl, rfl⟩⟩
  · rintro Γ S ⟨tw, g3, g4, g5, g6, g7, g8, g9, g10, g11, g12, g13, g14, g15, g16, g17, g18, g19, a1, rfl, rfl⟩
    simp_arith [← hta]
    refine ok_for (fun i Γ S => S = [.scr ns, .lst tw] ∧ ∃ (g2 g3 g4 g5 g6 g7 g8 g9 g10 g11 g12 g13 g14 g15 g17 g18 g19 : Option Sl), Γ = [some (.box 0), some (.box 1), g2, g3, g4, g5, g6, g7, g8, g9, g10, g11, g12, g13, g14, g15, some (.d ta), g17, g18, g19]) ?_ ?_ ?_
    · exact ⟨rfl, _, _, _, _, _, _, _, _, _, _, _, _, _, _, _, _, _, rfl⟩
    · rintro i d Γ S hd ⟨rfl, g2, g3, g4, g5, g6, g7, g8, g9, g10, g11, g12, g13, g14, g15, g17, g18, g19, rfl⟩
      obtain ⟨m, rfl, hm⟩ := four i d hd
      exact ⟨_, rfl, b4_ok hta hm ⟨rfl, _, _, _, _, _, _, _, _, _, _, _, _, _, _, _, _, _, rfl⟩⟩
    · rintro Γ S ⟨rfl, g2, g3, g4, g5, g6, g7, g8, g9, g10, g11, g12, g13, g14, g15, g17, g18, g19, rfl⟩
      simp_arith [← hts]
      refine ok_for (fun i Γ S => S = [.scr ns, .lst tw] ∧ ∃ (g2 g3 g4 g5 g6 g7 g8 g9 g10 g11 g12 g13 g14 g15 g16 g18 g19 : Option Sl), Γ = [some (.box 0), some (.box 1), g2, g3, g4, g5, g6, g7, g8, g9, g10, g11, g12, g13, g14, g15, g16, some (.d ts), g18, g19]) ?_ ?_ ?_
      · exact ⟨rfl, _, _, _, _, _, _, _, _, _, _, _, _, _, _, _, _, _, rfl⟩
      · rintro i d Γ S hd ⟨rfl, g2, g3, g4, g5, g6, g7, g8, g9, g10, g11, g12, g13, g14, g15, g16, g18, g19, rfl⟩
        obtain ⟨m, rfl, hm⟩ := four i d hd
        exact ⟨_, rfl, b5_ok hts hm ⟨rfl, _, _, _, _, _, _, _, _, _, _, _, _, _, _, _, _, _, rfl⟩⟩
      · rintro Γ S ⟨rfl, g2, g3, g4, g5, g6, g7, g8, g9, g10, g11, g12, g13, g14, g15, g16, g18, g19, rfl⟩
        simp_arith []
end Q_drumwords_k32_whole_bounds_of_sums
end
section
set_option Elab.async false
set_option linter.all false
set_option maxRecDepth 100000
set_option maxHeartbeats 0
namespace Q_drumwords_k32_whole_bounds_of_sums
open PySem PySem.Spec PyProof.Rows L2 Z Zc
def d_read_time : He.DefD := ⟨("read_time", none), "read_time", "read_time", defArgs s_read_time, defBody s_read_time, defScope s_read_time, [], []⟩
def d_names : He.DefD := ⟨("names", none), "names", "names", defArgs s_names, defBody s_names, defScope s_names, [], []⟩
def d_orders : He.DefD := ⟨("orders", none), "orders", "orders", defArgs s_orders, defBody s_orders, defScope s_orders, [], []⟩
def d_need_order : He.DefD := ⟨("need_order", none), "need_order", "need_order", defArgs s_need_order, defBody s_need_order, defScope s_need_order, [], []⟩
def d_is_laying : He.DefD := ⟨("is_laying", none), "is_laying", "is_laying", defArgs s_is_laying, defBody s_is_laying, defScope s_is_laying, [], []⟩
def d_held : He.DefD := ⟨("held", none), "held", "held", defArgs s_held, defBody s_held, defScope s_held, [], []⟩
def d_Machine___init__ : He.DefD := ⟨("Machine", some "__init__"), "__init__", "Machine.__init__", defArgs s_Machine___init__, defBody s_Machine___init__, defScope s_Machine___init__, [], []⟩
def d_Machine_done : He.DefD := ⟨("Machine", some "done"), "done", "Machine.done", defArgs s_Machine_done, defBody s_Machine_done, defScope s_Machine_done, [], []⟩
def d_Machine_step : He.DefD := ⟨("Machine", some "step"), "step", "Machine.step", defArgs s_Machine_step, defBody s_Machine_step, defScope s_Machine_step, [], []⟩
def d_Machine_words : He.DefD := ⟨("Machine", some "words"), "words", "Machine.words", defArgs s_Machine_words, defBody s_Machine_words, defScope s_Machine_words, [], []⟩
def d_steps_of : He.DefD := ⟨("steps_of", none), "steps_of", "steps_of", defArgs s_steps_of, defBody s_steps_of, defScope s_steps_of, [], []⟩
def d_run : He.DefD := ⟨("run", none), "run", "run", defArgs s_run, defBody s_run, defScope s_run, [], []⟩
def d__law_draw : He.DefD := ⟨("_law_draw", none), "_law_draw", "_law_draw", defArgs s__law_draw, defBody s__law_draw, defScope s__law_draw, [], []⟩
def d__law_pick : He.DefD := ⟨("_law_pick", none), "_law_pick", "_law_pick", defArgs s__law_pick, defBody s__law_pick, defScope s__law_pick, [], []⟩
def d__law_held : He.DefD := ⟨("_law_held", none), "_law_held", "_law_held", defArgs s__law_held, defBody s__law_held, defScope s__law_held, [], []⟩
def d_law : He.DefD := ⟨("law", none), "law", "law", defArgs s_law, defBody s_law, defScope s_law, [], []⟩
def fn : List He.DefD := [d_read_time, d_names, d_orders, d_need_order, d_is_laying, d_held, d_Machine___init__, d_Machine_done, d_Machine_step, d_Machine_words, d_steps_of, d_run, d__law_draw, d__law_pick, d__law_held, d_law]
def fa : List He.Fa := [.glo "read_time", .glo "names", .glo "orders", .glo "need_order", .glo "is_laying", .glo "held", .glo "steps_of", .glo "run", .glo "_law_draw", .glo "_law_pick", .glo "_law_held", .glo "law", .glo "Machine", .glo "DrumError", .glo "NoName", .glo "BadLaying", .glo "BEATS", .free "bool", .free "dict", .free "enumerate", .free "int", .free "isinstance", .free "len", .free "max", .free "min", .free "range", .free "set", .free "sorted", .free "str", .free "tuple", .free "zip", .int "CAP" 9999, .exc "DrumError", .exc "NoName", .exc "BadLaying", .noat "Machine" "cells", .noat "Machine" "held", .noat "Machine" "next", .noat "Machine" "time", .cls "Machine", .mkr "Machine", .meth "Machine" "done", .meth "Machine" "step", .meth "Machine" "words"]
def tf : List (Str × Option Str) := [("run", none)]
def ts : List He.Tab := [(fun K => He.ga K "BEATS", ["put", "add", "sub", "save"])]
def exmB (K : PySem.W.Frag) : Bool := excs.all fun c => excs.all fun x => decide (PySem.W.exmOne K (.ref (He.ga K c)) (.ref (He.ga K x)) = some (isSub c x))
def ex (K : PySem.W.Frag) : Bool := (headB tf K && (ktabB K "BEATS" t_BEATS o_BEATS && exmB K))
abbrev R : PySem.W.OpenRow := PySem.W.OpenLaw.row PySem.Challenge.rw_drumwords_k32_whole_bounds_of_sums
abbrev hk : PySem.W.Hook := He.hookX 6 fa fn ts tf ex
def ob (s : PySem.W.SharedT) : He.AlX := He.obsX 6 fa fn ts tf ex (HandSHeadRun.getT s)
theorem ob_eq (s : PySem.W.SharedT) : ob s = hk.obs s.abs := He.obsX_eq (HandSHeadRun.getT_eq s)
def loose : List PySem.Str := ["read_time", "DrumError", "NoName", "BadLaying", "names", "orders", "need_order", "is_laying", "held", "Machine", "steps_of", "run", "_law_draw", "_law_pick", "_law_held", "BEATS", "CAP"]

theorem run0 (w : World) : HandSHeadRun.RunEq R (PySem.W.view R.prog [22]) hk ob 8000 loose (w.withFollow "special-get-raises" false) := by
  intro os
  kernel_rfl
theorem run1 (w : World) : HandSHeadRun.RunEq R (PySem.W.view R.prog [22]) hk ob 8000 loose (w.withFollow "special-get-raises" true) := by
  intro os
  kernel_rfl
theorem run (w : World) : HandSHeadRun.RunEq R (PySem.W.view R.prog [22]) hk ob 8000 loose w := PySem.W.byRow2 "special-get-raises" (P := fun w => HandSHeadRun.RunEq R (PySem.W.view R.prog [22]) hk ob 8000 loose w) run0 run1 w
theorem facts {P : Program} {w : World} {K : PySem.W.Frag} {h : Heap} {mg : Str → Option Value} {f : Addr} (X : K.In h) (G : h.Ns mainGlobals mg) (hfa : mg ("law" : Str) = some (.ref f)) (c : He.SaysX fa fn ts tf ex w h K) :
    HdOk tf K ∧ ∃ fd : FuncData, (∀ (s : Shared) (v : Value), BindsTo s fd ⟨[v], []⟩ [("script", v)]) ∧ ∀ base : Heap, K.In base → base.Ns mainGlobals mg → (∀ p ∈ tfOf K, LamX.TabB base mg (He.cT K p).1 (He.cT K p).2) → FnOk P w K mg base (L2.CX P w) 6 f fd ["script"] (spOf K 1 F_law) := by
  obtain ⟨hB, r0⟩ := He.ba (show (_ && _) = true from c.more)
  obtain ⟨kt_BEATS, r1⟩ := He.ba (show (_ && _) = true from r0)
  have hX : exmB K = true := r1
  have hk := headB_ok hB
  have xm : ∀ c ∈ excs, ∀ x ∈ excs, PySem.W.exmOne K (.ref (He.ga K c)) (.ref (He.ga K x)) = some (isSub c x) := fun c hc x hx => of_decide_eq_true (List.all_eq_true.mp (List.all_eq_true.mp hX c hc) x hx)
  obtain ⟨fd_read_time, D_read_time⟩ := c.t.d.def_ 0 (d := d_read_time) rfl
  obtain ⟨fd_names, D_names⟩ := c.t.d.def_ 1 (d := d_names) rfl
  obtain ⟨fd_orders, D_orders⟩ := c.t.d.def_ 2 (d := d_orders) rfl
  obtain ⟨fd_need_order, D_need_order⟩ := c.t.d.def_ 3 (d := d_need_order) rfl
  obtain ⟨fd_is_laying, D_is_laying⟩ := c.t.d.def_ 4 (d := d_is_laying) rfl
  obtain ⟨fd_held, D_held⟩ := c.t.d.def_ 5 (d := d_held) rfl
  obtain ⟨fd_Machine___init__, D_Machine___init__⟩ := c.t.d.def_ 6 (d := d_Machine___init__) rfl
  obtain ⟨fd_Machine_done, D_Machine_done⟩ := c.t.d.def_ 7 (d := d_Machine_done) rfl
  obtain ⟨fd_Machine_step, D_Machine_step⟩ := c.t.d.def_ 8 (d := d_Machine_step) rfl
  obtain ⟨fd_Machine_words, D_Machine_words⟩ := c.t.d.def_ 9 (d := d_Machine_words) rfl
  obtain ⟨fd_steps_of, D_steps_of⟩ := c.t.d.def_ 10 (d := d_steps_of) rfl
  obtain ⟨fd_run, D_run⟩ := c.t.d.def_ 11 (d := d_run) rfl
  obtain ⟨fd__law_draw, D__law_draw⟩ := c.t.d.def_ 12 (d := d__law_draw) rfl
  obtain ⟨fd__law_pick, D__law_pick⟩ := c.t.d.def_ 13 (d := d__law_pick) rfl
  obtain ⟨fd__law_held, D__law_held⟩ := c.t.d.def_ 14 (d := d__law_held) rfl
  obtain ⟨fd_law, D_law⟩ := c.t.d.def_ 15 (d := d_law) rfl
  have g_read_time := He.glo_ok X G (c.t.d.fact 0 (f := .glo "read_time") rfl)
  have g_names := He.glo_ok X G (c.t.d.fact 1 (f := .glo "names") rfl)
  have g_orders := He.glo_ok X G (c.t.d.fact 2 (f := .glo "orders") rfl)
  have g_need_order := He.glo_ok X G (c.t.d.fact 3 (f := .glo "need_order") rfl)
  have g_is_laying := He.glo_ok X G (c.t.d.fact 4 (f := .glo "is_laying") rfl)
  have g_held := He.glo_ok X G (c.t.d.fact 5 (f := .glo "held") rfl)
  have g_steps_of := He.glo_ok X G (c.t.d.fact 6 (f := .glo "steps_of") rfl)
  have g_run := He.glo_ok X G (c.t.d.fact 7 (f := .glo "run") rfl)
  have g__law_draw := He.glo_ok X G (c.t.d.fact 8 (f := .glo "_law_draw") rfl)
  have g__law_pick := He.glo_ok X G (c.t.d.fact 9 (f := .glo "_law_pick") rfl)
  have g__law_held := He.glo_ok X G (c.t.d.fact 10 (f := .glo "_law_held") rfl)
  have g_law := He.glo_ok X G (c.t.d.fact 11 (f := .glo "law") rfl)
  have g_Machine := He.glo_ok X G (c.t.d.fact 12 (f := .glo "Machine") rfl)
  have g_DrumError := He.glo_ok X G (c.t.d.fact 13 (f := .glo "DrumError") rfl)
  have g_NoName := He.glo_ok X G (c.t.d.fact 14 (f := .glo "NoName") rfl)
  have g_BadLaying := He.glo_ok X G (c.t.d.fact 15 (f := .glo "BadLaying") rfl)
  have g_BEATS := He.glo_ok X G (c.t.d.fact 16 (f := .glo "BEATS") rfl)
  have no_Machine : ∀ f ∈ (["cells", "held", "next", "time"] : List Str), NoAttr K (He.ga K "Machine") f := by
    simp only [List.mem_cons, List.not_mem_nil, or_false, forall_eq_or_imp, forall_eq]
    exact ⟨He.noat_ok (c.t.d.fact 35 (f := .noat "Machine" "cells") rfl), He.noat_ok (c.t.d.fact 36 (f := .noat "Machine" "held") rfl), He.noat_ok (c.t.d.fact 37 (f := .noat "Machine" "next") rfl), He.noat_ok (c.t.d.fact 38 (f := .noat "Machine" "time") rfl)⟩
  have T : Fx K w mg := ⟨trivial, He.free_ok X G (c.t.d.fact 17 (f := .free "bool") rfl), He.free_ok X G (c.t.d.fact 18 (f := .free "dict") rfl), He.free_ok X G (c.t.d.fact 19 (f := .free "enumerate") rfl), He.free_ok X G (c.t.d.fact 20 (f := .free "int") rfl), He.free_ok X G (c.t.d.fact 21 (f := .free "isinstance") rfl), He.free_ok X G (c.t.d.fact 22 (f := .free "len") rfl), He.free_ok X G (c.t.d.fact 23 (f := .free "max") rfl), He.free_ok X G (c.t.d.fact 24 (f := .free "min") rfl), He.free_ok X G (c.t.d.fact 25 (f := .free "range") rfl), He.free_ok X G (c.t.d.fact 26 (f := .free "set") rfl), He.free_ok X G (c.t.d.fact 27 (f := .free "sorted") rfl), He.free_ok X G (c.t.d.fact 28 (f := .free "str") rfl), He.free_ok X G (c.t.d.fact 29 (f := .free "tuple") rfl), He.free_ok X G (c.t.d.fact 30 (f := .free "zip") rfl), He.int_ok X G (c.t.d.fact 31 (f := .int "CAP" 9999) rfl), g_DrumError, exO_of g_DrumError (c.t.d.fact 32 (f := .exc "DrumError") rfl), g_NoName, exO_of g_NoName (c.t.d.fact 33 (f := .exc "NoName") rfl), g_BadLaying, exO_of g_BadLaying (c.t.d.fact 34 (f := .exc "BadLaying") rfl), xm, ⟨He.cls_ok (c.t.d.fact 39 (f := .cls "Machine") rfl), no_Machine⟩, ktab_of g_BEATS (c.t.tab 0 (t := (fun K => He.ga K "BEATS", ["put", "add", "sub", "save"])) rfl) kt_BEATS, tf_mem hk (by decide) (c.hd _ (by decide)) (c.out _ (by decide))⟩
  have e := hfa.symm.trans g_law
  cases e
  have b := FunD.bindsA (ps := ["script"]) D_law fun _ _ _ _ _ _ us hl => match us, hl with | [_], _ => rfl
  refine ⟨hk, fd_law, fun s v => b s [v] rfl, fun base _ _ hT => ?_⟩
  have c_read_time : Cal P w K mg base "read_time" 1 F_read_time := cal_read_time T D_read_time g_read_time 
  have c_names : Cal P w K mg base "names" 1 F_names := cal_names T D_names g_names 
  have c_orders : Cal P w K mg base "orders" 1 F_orders := cal_orders T D_orders g_orders 
  have c_need_order : Cal P w K mg base "need_order" 2 F_need_order := cal_need_order T D_need_order g_need_order c_orders
  have c_is_laying : Cal P w K mg base "is_laying" 2 F_is_laying := cal_is_laying T D_is_laying g_is_laying c_names
  have c_held : Cal P w K mg base "held" 1 F_held := cal_held T D_held g_held 
  have c_Machine___init__ : CalI P w K mg base "Machine" "cells" 1 4 iniM := cal_Machine___init__ T D_Machine___init__ g_Machine (He.mkr_ok (c.t.d.fact 40 (f := .mkr "Machine") rfl))
  have c_Machine_done : CalM P w K mg base "Machine" "done" 2 2 F_Machine_done := cal_Machine_done T D_Machine_done (He.meth_ok (c.t.d.fact 41 (f := .meth "Machine" "done") rfl)) c_held
  have c_Machine_step : CalM P w K mg base "Machine" "step" 3 3 F_Machine_step := cal_Machine_step T D_Machine_step (He.meth_ok (c.t.d.fact 42 (f := .meth "Machine" "step") rfl)) c_Machine_done
  have c_Machine_words : CalM P w K mg base "Machine" "words" 1 1 F_Machine_words := cal_Machine_words T D_Machine_words (He.meth_ok (c.t.d.fact 43 (f := .meth "Machine" "words") rfl)) 
  have c_steps_of : CalL P w K mg base "steps_of" 3 "when" 4 6 z_steps_of := cal_steps_of T D_steps_of g_steps_of c_Machine___init__ c_Machine_step
  have c_run : Cal P w K mg base "run" 5 F_run := cal_run T D_run g_run hT c_Machine_words c_is_laying c_need_order c_read_time c_steps_of
  have c__law_draw : Cal P w K mg base "_law_draw" 1 F__law_draw := cal__law_draw T D__law_draw g__law_draw 
  have c__law_pick : Cal P w K mg base "_law_pick" 2 F__law_pick := cal__law_pick T D__law_pick g__law_pick c__law_draw
  have c__law_held : Cal P w K mg base "_law_held" 1 F__law_held := cal__law_held T D__law_held g__law_held 
  exact ok_law T D_law c__law_draw c__law_held c_run
end Q_drumwords_k32_whole_bounds_of_sums
open PySem PySem.W PySem.Calls PyProof.Rows
theorem PySem.Challenge.cw_drumwords_k32_whole_bounds_of_sums_holds : PySem.Challenge.rw_drumwords_k32_whole_bounds_of_sums.Holds := by
  w_on; o_law
  refine HandSHeadRun.head_any (r := OpenLaw.row PySem.Challenge.rw_drumwords_k32_whole_bounds_of_sums) (q := view (OpenLaw.row PySem.Challenge.rw_drumwords_k32_whole_bounds_of_sums).prog [22]) (H := Q_drumwords_k32_whole_bounds_of_sums.hk) (ob := Q_drumwords_k32_whole_bounds_of_sums.ob) (M := 8000) (loose := Q_drumwords_k32_whole_bounds_of_sums.loose) (d := HandSHeadRun.topDef (OpenLaw.row PySem.Challenge.rw_drumwords_k32_whole_bounds_of_sums).prog 22) (kwd := []) Q_drumwords_k32_whole_bounds_of_sums.ob_eq
    (by kernel_rfl) (fun s => by kernel_rfl) Q_drumwords_k32_whole_bounds_of_sums.run (by kernel_rfl) (by kernel_rfl) (by kernel_rfl) (by rfl) (by first | assumption | decide +kernel) (by decide +kernel) ⟨rfl, rfl, rfl, rfl, rfl, by decide +kernel⟩ ?hw ?hc
  case hw => w_witness2
  case hc =>
    refine Z.walk_z (l := PySem.Challenge.rw_drumwords_k32_whole_bounds_of_sums) (n := 63) (k := 6) (x := "script") (F := Q_drumwords_k32_whole_bounds_of_sums.F_law) (tf := Q_drumwords_k32_whole_bounds_of_sums.tf) rfl (by decide) (by kernel_rfl) ⟨rfl, by decide, by decide⟩ Q_drumwords_k32_whole_bounds_of_sums.law_true ?F
    intro w mg fa h Y G hmg0
    obtain ⟨K, KX, c⟩ := Y
    have hmg : mg ("law" : PySem.Str) = some (.ref fa) := by
      have e : (HandSHeadRun.topDef (OpenLaw.row PySem.Challenge.rw_drumwords_k32_whole_bounds_of_sums).prog 22).name = ("law" : PySem.Str) := by kernel_rfl
      rw [← e]
      exact hmg0
    obtain ⟨hk, fd, hb, hF⟩ := Q_drumwords_k32_whole_bounds_of_sums.facts (P := (PySem.Challenge.rw_drumwords_k32_whole_bounds_of_sums).prog) (w := w) KX G hmg c
    exact ⟨K, fd, hk, c.empty, c.out, c.hd, KX, hb, hF⟩
end
