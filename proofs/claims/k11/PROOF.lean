import PyProof.Rows.All
import Wide.All
import OpenK.AllK
import Wide.FinOn
import HandS.ForMost
import HandS.Wide
import HandS.IsInst
import HandS.NoneIn
import HandS.Walk
import HandS.Zip
import HandS.Gcd
import HandS.Flow
import PySem.Challenge.RW_everypath_k11_whole_least_strips
set_option Elab.async false
set_option linter.all false
set_option maxRecDepth 100000
set_option maxHeartbeats 1000000
set_option autoImplicit false
/-! DL: a layer of plain data over the hand layer: judgements whose readings speak of data alone, no heap, no addresses. -/
namespace DL
open PySem PySem.Spec L2

/-- plain data; strm: the law's stream of draws -/
inductive Dt where
  | non | bl (b : Bool) | int (i : Int) | str (s : Str)
  | tup (xs : List Dt) | lst (xs : List Dt)
  | strm
deriving Inhabited
mutual
/-- v bears the datum in h; ss: where the stream stands -/
def Rp (ss : Option Addr) (h : Hp) : Dt → V → Prop
  | .non, v => v = .non
  | .bl b, v => v = .bl b
  | .int i, v => v = .int i
  | .str x, v => v = .str x
  | .tup ds, v => ∃ a vs, v = .ref a ∧ h a = some (.tup vs) ∧ RpL ss h ds vs
  | .lst ds, v => ∃ a vs, v = .ref a ∧ h a = some (.lst vs) ∧ RpL ss h ds vs
  | .strm, v => ∃ a, ss = some a ∧ v = .ref a
def RpL (ss : Option Addr) (h : Hp) : List Dt → List V → Prop
  | [], vs => vs = []
  | d :: ds, vs => ∃ v r, vs = v :: r ∧ Rp ss h d v ∧ RpL ss h ds r
end
def Sub (h h' : Hp) : Prop := ∀ a o, h a = some o → h' a = some o
mutual
theorem Rp.mono {ss : Option Addr} {h h' : Hp} (S : Sub h h') : ∀ {d : Dt} {v : V}, Rp ss h d v → Rp ss h' d v
  | .non, v, r => by simpa only [Rp] using r
  | .bl _, v, r => by simpa only [Rp] using r
  | .int _, v, r => by simpa only [Rp] using r
  | .str _, v, r => by simpa only [Rp] using r
  | .tup ds, v, r => by
    simp only [Rp] at r ⊢
    obtain ⟨a, vs, e, g, q⟩ := r
    exact ⟨a, vs, e, S _ _ g, RpL.mono S q⟩
  | .lst ds, v, r => by
    simp only [Rp] at r ⊢
    obtain ⟨a, vs, e, g, q⟩ := r
    exact ⟨a, vs, e, S _ _ g, RpL.mono S q⟩
  | .strm, v, r => by simpa only [Rp] using r
theorem RpL.mono {ss : Option Addr} {h h' : Hp} (S : Sub h h') : ∀ {ds : List Dt} {vs : List V}, RpL ss h ds vs → RpL ss h' ds vs
  | [], vs, r => by simpa only [RpL] using r
  | d :: ds, vs, r => by
    simp only [RpL] at r ⊢
    obtain ⟨v, t, e, q, z⟩ := r
    exact ⟨v, t, e, Rp.mono S q, RpL.mono S z⟩
end
section
variable {ss : Option Addr} {h : Hp} {v : V} {vs ws : List V} {ds es : List Dt} {d : Dt}
theorem RpL.nil : RpL ss h [] [] := by simp only [RpL]
theorem RpL.cons (r : Rp ss h d v) (t : RpL ss h ds vs) : RpL ss h (d :: ds) (v :: vs) := by
  simp only [RpL]
  exact ⟨v, vs, rfl, r, t⟩
theorem RpL.inv_nil (r : RpL ss h [] vs) : vs = [] := by simpa only [RpL] using r
theorem RpL.inv_cons (r : RpL ss h (d :: ds) vs) : ∃ v t, vs = v :: t ∧ Rp ss h d v ∧ RpL ss h ds t := by simpa only [RpL] using r
theorem RpL.append (a : RpL ss h ds vs) (b : RpL ss h es ws) : RpL ss h (ds ++ es) (vs ++ ws) := by
  induction ds generalizing vs with
  | nil => rw [a.inv_nil]; exact b
  | cons d ds ih =>
    obtain ⟨v, t, rfl, r, q⟩ := a.inv_cons
    exact .cons r (ih q)
theorem RpL.length (a : RpL ss h ds vs) : vs.length = ds.length := by
  induction ds generalizing vs with
  | nil => rw [a.inv_nil]; rfl
  | cons d ds ih =>
    obtain ⟨v, t, rfl, r, q⟩ := a.inv_cons
    simp [ih q]
theorem RpL.get (a : RpL ss h ds vs) : ∀ {i : Nat} {d : Dt}, ds[i]? = some d → ∃ v, vs[i]? = some v ∧ Rp ss h d v := by
  induction ds generalizing vs with
  | nil => intro i d e; simp at e
  | cons x ds ih =>
    intro i d e
    obtain ⟨v, t, rfl, r, q⟩ := a.inv_cons
    cases i with
    | zero => simp at e; subst e; exact ⟨v, rfl, r⟩
    | succ i => exact ih q (i := i) (by simpa using e)
theorem RpL.get' (a : RpL ss h ds vs) : ∀ {i : Nat} {v : V}, vs[i]? = some v → ∃ d, ds[i]? = some d ∧ Rp ss h d v := by
  induction ds generalizing vs with
  | nil => intro i d e; rw [a.inv_nil] at e; simp at e
  | cons x ds ih =>
    intro i d e
    obtain ⟨v, t, rfl, r, q⟩ := a.inv_cons
    cases i with
    | zero => simp at e; subst e; exact ⟨x, rfl, r⟩
    | succ i => exact ih q (i := i) (by simpa using e)
theorem RpL.take (a : RpL ss h ds vs) (n : Nat) : RpL ss h (ds.take n) (vs.take n) := by
  induction ds generalizing vs n with
  | nil => rw [a.inv_nil]; simp; exact .nil
  | cons x ds ih =>
    obtain ⟨v, t, rfl, r, q⟩ := a.inv_cons
    cases n with
    | zero => exact .nil
    | succ n => exact .cons r (ih q n)
theorem RpL.drop (a : RpL ss h ds vs) (n : Nat) : RpL ss h (ds.drop n) (vs.drop n) := by
  induction ds generalizing vs n with
  | nil => rw [a.inv_nil]; simp; exact .nil
  | cons x ds ih =>
    obtain ⟨v, t, rfl, r, q⟩ := a.inv_cons
    cases n with
    | zero => exact .cons r q
    | succ n => exact ih q n
theorem RpL.ints {ns : List Int} : RpL ss h (ns.map Dt.int) (ns.map V.int) := by
  induction ns with
  | nil => exact .nil
  | cons n ns ih => exact .cons (by simp only [Rp]) ih
theorem RpL.ints_inv {ns : List Int} (a : RpL ss h (ns.map Dt.int) vs) : vs = ns.map V.int := by
  induction ns generalizing vs with
  | nil => exact a.inv_nil
  | cons n ns ih =>
    obtain ⟨v, t, rfl, r, q⟩ := a.inv_cons
    simp only [Rp] at r
    rw [r, ih q]; rfl
theorem RpL.bls_inv {ns : List Bool} (a : RpL ss h (ns.map Dt.bl) vs) : vs = ns.map V.bl := by
  induction ns generalizing vs with
  | nil => exact a.inv_nil
  | cons n ns ih =>
    obtain ⟨v, t, rfl, r, q⟩ := a.inv_cons
    simp only [Rp] at r
    rw [r, ih q]; rfl
end

/-! ### worlds -/
def hid (M : List Addr) (H : Hp) : Hp := fun a => if a ∈ M then none else H a
theorem hid_some {M : List Addr} {H : Hp} {a : Addr} {o : HO} : hid M H a = some o ↔ a ∉ M ∧ H a = some o := by
  unfold hid
  by_cases h : a ∈ M
  · simp [h]
  · simp [h]
/-- the stream as it stands: n draws were made -/
def StrmOk (s c : Addr) (n : Nat) (H : Hp) : Prop := s ≠ c ∧ ∃ (ns : List Int) (a e : Int), H s = some (.lst [.ref c, .int a, .int n, .int e]) ∧ H c = some (.lst (ns.map V.int)) ∧ ns.length ≤ 63 ∧ 0 ≤ a ∧ 0 ≤ e ∧ e < 2147483647
/-- ss: the stream's two lists; fz: what must stay as it stands in H0 -/
structure Wd where
  ss : Option (Addr × Addr)
  fz : List Addr
  H0 : Hp
def ssM : Option (Addr × Addr) → List Addr
  | none => []
  | some (s, c) => [s, c]
def Wd.M (W : Wd) : List Addr := ssM W.ss ++ W.fz
def Wd.sa (W : Wd) : Option Addr := W.ss.map (·.1)
def ssJ (n : Nat) (H : Hp) (fz : List Addr) : Option (Addr × Addr) → Prop
  | none => True
  | some (s, c) => StrmOk s c n H ∧ s ∉ fz ∧ c ∉ fz
def Wd.J (W : Wd) (n : Nat) (H : Hp) : Prop := (∀ a ∈ W.fz, H a = W.H0 a ∧ W.H0 a ≠ none) ∧ ssJ n H W.fz W.ss
theorem Wd.J.live {W : Wd} {n : Nat} {H : Hp} (j : W.J n H) : ∀ a ∈ W.M, H a ≠ none := by
  intro a ha
  rcases List.mem_append.mp ha with h | h
  · obtain ⟨ss, fz, H0⟩ := W
    cases ss with
    | none => simp [ssM] at h
    | some p =>
      obtain ⟨s, c⟩ := p
      obtain ⟨_, ⟨_, ns, x, e, h1, h2, _⟩, _⟩ := j
      simp [ssM] at h
      rcases h with rfl | rfl
      · rw [h1]; simp
      · rw [h2]; simp
  · obtain ⟨e, q⟩ := j.1 a h
    rw [e]; exact q
/-- what does not touch the world's own objects keeps it -/
theorem Wd.J.keep {W : Wd} {n : Nat} {H H' : Hp} (j : W.J n H) (h : ∀ a ∈ W.M, H' a = H a) : W.J n H' := by
  obtain ⟨ss, fz, H0⟩ := W
  refine ⟨fun a ha => ?_, ?_⟩
  · have := j.1 a ha
    rw [h a (List.mem_append_right _ ha)]
    exact this
  · cases ss with
    | none => trivial
    | some p =>
      obtain ⟨s, c⟩ := p
      obtain ⟨_, ⟨ne, ns, x, e, h1, h2, r⟩, q⟩ := j
      refine ⟨⟨ne, ns, x, e, ?_, ?_, r⟩, q⟩
      · rw [h s (by simp [Wd.M, ssM])]; exact h1
      · rw [h c (by simp [Wd.M, ssM])]; exact h2

/-! ### environments -/
inductive SV where
  | un
  | d (x : Dt)
  | own (a : Addr) (xs : List Dt)
structure En where
  n : Nat
  sl : List SV
def ownOf : SV → Option Addr
  | .own a _ => some a
  | _ => none
def owns (sl : List SV) : List Addr := sl.filterMap ownOf
theorem mem_owns {sl : List SV} {a : Addr} : a ∈ owns sl ↔ ∃ (i : Nat) (xs : List Dt), sl[i]? = some (.own a xs) := by
  unfold owns
  rw [List.mem_filterMap]
  constructor
  · rintro ⟨s, hs, e⟩
    obtain ⟨i, hi⟩ := List.mem_iff_getElem?.mp hs
    cases s with
    | own b xs => simp [ownOf] at e; subst e; exact ⟨i, xs, hi⟩
    | _ => simp [ownOf] at e
  · rintro ⟨i, xs, e⟩
    exact ⟨_, List.mem_of_getElem? e, rfl⟩
/-- the heap in which data stand: without the world's own and the frame's own -/
abbrev vw (W : Wd) (ρ : En) (H : Hp) : Hp := hid (W.M ++ owns ρ.sl) H
theorem vw_some {W : Wd} {ρ : En} {H : Hp} {a : Addr} {o : HO} : vw W ρ H a = some o ↔ a ∉ W.M ∧ a ∉ owns ρ.sl ∧ H a = some o := by
  rw [hid_some, List.mem_append]
  constructor
  · rintro ⟨h, e⟩; exact ⟨fun q => h (.inl q), fun q => h (.inr q), e⟩
  · rintro ⟨h, g, e⟩; exact ⟨fun q => q.elim h g, e⟩
structure DRel (W : Wd) (ρ : En) (σ : St) (H : Hp) : Prop where
  len : σ.length = ρ.sl.length
  j : W.J ρ.n H
  dat : ∀ (i : Nat) x, ρ.sl[i]? = some (.d x) → ∃ v, σ[i]? = some (some v) ∧ Rp W.sa (vw W ρ H) x v
  own : ∀ (i : Nat) a xs, ρ.sl[i]? = some (.own a xs) → σ[i]? = some (some (.ref a)) ∧ a ∉ W.M ∧ ∃ vs, H a = some (.lst vs) ∧ RpL W.sa (vw W ρ H) xs vs
  inj : ∀ (i j : Nat) a xs ys, ρ.sl[i]? = some (.own a xs) → ρ.sl[j]? = some (.own a ys) → i = j
structure Step (W : Wd) (ρ : En) (H : Hp) (ρ' : En) (H' : Hp) : Prop where
  ext : ∀ a o, a ∉ W.M → a ∉ owns ρ.sl → H a = some o → H' a = some o
  dom : ∀ a, H a ≠ none → H' a ≠ none
  new : ∀ a ∈ owns ρ'.sl, a ∈ owns ρ.sl ∨ H a = none
section
variable {W : Wd} {ρ ρ1 ρ2 : En} {H H1 H2 : Hp} {σ : St}
theorem Step.refl : Step W ρ H ρ H := ⟨fun _ _ _ _ e => e, fun _ e => e, fun _ h => .inl h⟩
theorem Step.trans (s : Step W ρ H ρ1 H1) (t : Step W ρ1 H1 ρ2 H2) : Step W ρ H ρ2 H2 where
  ext := fun a o hm ho e => t.ext a o hm (fun q => by
    rcases s.new a q with z | z
    · exact ho z
    · rw [z] at e; cases e) (s.ext a o hm ho e)
  dom := fun a e => t.dom a (s.dom a e)
  new := fun a h => by
    rcases t.new a h with z | z
    · exact s.new a z
    · exact .inr (Classical.byContradiction fun q => s.dom a q z)
theorem Step.sub (s : Step W ρ H ρ1 H1) : Sub (vw W ρ H) (vw W ρ1 H1) := fun a o e => by
  rw [vw_some] at e ⊢
  obtain ⟨h, g, e⟩ := e
  refine ⟨h, fun q => ?_, s.ext a o h g e⟩
  rcases s.new a q with z | z
  · exact g z
  · rw [z] at e; cases e
theorem Rp.step {d : Dt} {v : V} (r : Rp W.sa (vw W ρ H) d v) (s : Step W ρ H ρ1 H1) : Rp W.sa (vw W ρ1 H1) d v := r.mono s.sub
theorem RpL.step {d : List Dt} {v : List V} (r : RpL W.sa (vw W ρ H) d v) (s : Step W ρ H ρ1 H1) : RpL W.sa (vw W ρ1 H1) d v := r.mono s.sub
theorem DRel.live (R : DRel W ρ σ H) {a : Addr} (h : a ∈ W.M ∨ a ∈ owns ρ.sl) : H a ≠ none := by
  rcases h with h | h
  · exact R.j.live a h
  · obtain ⟨i, xs, e⟩ := mem_owns.mp h
    obtain ⟨_, _, vs, q, _⟩ := R.own i a xs e
    rw [q]; simp
/-- the heap grows at fresh places, the environment stays -/
theorem DRel.grow (R : DRel W ρ σ H) (h : ∀ a o, H a = some o → H1 a = some o) : DRel W ρ σ H1 ∧ Step W ρ H ρ H1 := by
  have eqM : ∀ a, (a ∈ W.M ∨ a ∈ owns ρ.sl) → H1 a = H a := fun a ha => by
    cases e : H a with
    | none => exact absurd e (R.live ha)
    | some o => exact h a o e
  have S : Step W ρ H ρ H1 := ⟨fun a o _ _ e => h a o e, fun a e => by
    cases q : H a with
    | none => exact absurd q e
    | some o => rw [h a o q]; simp, fun a q => .inl q⟩
  refine ⟨⟨R.len, R.j.keep fun a ha => eqM a (.inl ha), fun i x e => ?_, fun i a xs e => ?_, R.inj⟩, S⟩
  · obtain ⟨v, h1, h2⟩ := R.dat i x e
    exact ⟨v, h1, h2.step S⟩
  · obtain ⟨h1, h2, vs, h3, h4⟩ := R.own i a xs e
    exact ⟨h1, h2, vs, h _ _ h3, h4.step S⟩
theorem DRel.alloc (R : DRel W ρ σ H) {p : Addr} {o : HO} (hp : H p = none) : DRel W ρ σ (upd H p o) ∧ Step W ρ H ρ (upd H p o) :=
  R.grow fun a u e => by rw [upd_ne (ne_of_none e hp)]; exact e
theorem DRel.fresh (R : DRel W ρ σ H) {p : Addr} (hp : H p = none) : p ∉ W.M ∧ p ∉ owns ρ.sl := ⟨fun q => R.live (.inl q) hp, fun q => R.live (.inr q) hp⟩
/-- a new object bears what it is made of -/
theorem DRel.new_tup (R : DRel W ρ σ H) {p : Addr} {ds : List Dt} {vs : List V} (hp : H p = none) (r : RpL W.sa (vw W ρ H) ds vs) : Rp W.sa (vw W ρ (upd H p (.tup vs))) (.tup ds) (.ref p) := by
  obtain ⟨R1, S⟩ := R.alloc (o := .tup vs) hp
  simp only [Rp]
  refine ⟨p, vs, rfl, ?_, r.step S⟩
  rw [vw_some]
  exact ⟨(R.fresh hp).1, (R.fresh hp).2, upd_same⟩
theorem DRel.new_lst (R : DRel W ρ σ H) {p : Addr} {ds : List Dt} {vs : List V} (hp : H p = none) (r : RpL W.sa (vw W ρ H) ds vs) : Rp W.sa (vw W ρ (upd H p (.lst vs))) (.lst ds) (.ref p) := by
  obtain ⟨R1, S⟩ := R.alloc (o := .lst vs) hp
  simp only [Rp]
  refine ⟨p, vs, rfl, ?_, r.step S⟩
  rw [vw_some]
  exact ⟨(R.fresh hp).1, (R.fresh hp).2, upd_same⟩
end
/-- a slot gets another datum; an own list that stood there is forgotten -/
def En.put (ρ : En) (i : Nat) (s : SV) : En := ⟨ρ.n, ρ.sl.set i s⟩
theorem get_set {sl : List SV} {i j : Nat} {s t : SV} (h : (sl.set i s)[j]? = some t) : (j = i ∧ t = s ∧ i < sl.length) ∨ (j ≠ i ∧ sl[j]? = some t) := by
  by_cases e : i = j
  · subst e
    by_cases hl : i < sl.length
    · rw [List.getElem?_set_self hl] at h; cases h
      exact .inl ⟨rfl, rfl, hl⟩
    · rw [List.getElem?_eq_none (by simpa using hl)] at h; cases h
  · rw [List.getElem?_set_ne e] at h
    exact .inr ⟨fun q => e q.symm, h⟩
section
variable {W : Wd} {ρ ρ1 ρ2 : En} {H H1 H2 : Hp} {σ : St}
theorem owns_put {i : Nat} {x : Dt} {a : Addr} (h : a ∈ owns (ρ.put i (.d x)).sl) : a ∈ owns ρ.sl := by
  obtain ⟨j, xs, e⟩ := mem_owns.mp h
  rcases get_set e with ⟨_, z, _⟩ | ⟨_, z⟩
  · cases z
  · exact mem_owns.mpr ⟨j, xs, z⟩
theorem owns_put_un {i : Nat} {a : Addr} (h : a ∈ owns (ρ.put i .un).sl) : a ∈ owns ρ.sl := by
  obtain ⟨j, xs, e⟩ := mem_owns.mp h
  rcases get_set e with ⟨_, z, _⟩ | ⟨_, z⟩
  · cases z
  · exact mem_owns.mpr ⟨j, xs, z⟩
theorem step_of_owns (h : ∀ a ∈ owns ρ1.sl, a ∈ owns ρ.sl) : Step W ρ H ρ1 H := ⟨fun _ _ _ _ e => e, fun _ e => e, fun a q => .inl (h a q)⟩
/-- σ's slot i holds v, that bears x -/
theorem DRel.set (R : DRel W ρ σ H) {i : Nat} {x : Dt} {v : V} (r : Rp W.sa (vw W ρ H) x v) : DRel W (ρ.put i (.d x)) (σ.set i (some v)) H ∧ Step W ρ H (ρ.put i (.d x)) H := by
  have S : Step W ρ H (ρ.put i (.d x)) H := step_of_owns fun a => owns_put
  refine ⟨⟨by simp [En.put, R.len], R.j, fun j y e => ?_, fun j a xs e => ?_, fun j k a xs ys e1 e2 => ?_⟩, S⟩
  · rcases get_set e with ⟨rfl, z, hl⟩ | ⟨hj, z⟩
    · cases z
      exact ⟨v, List.getElem?_set_self (by rw [R.len]; exact hl), r.step S⟩
    · obtain ⟨w, h1, h2⟩ := R.dat j y z
      exact ⟨w, by rw [List.getElem?_set_ne (Ne.symm hj)]; exact h1, h2.step S⟩
  · rcases get_set e with ⟨rfl, z, hl⟩ | ⟨hj, z⟩
    · cases z
    · obtain ⟨h1, h2, vs, h3, h4⟩ := R.own j a xs z
      exact ⟨by rw [List.getElem?_set_ne (Ne.symm hj)]; exact h1, h2, vs, h3, h4.step S⟩
  · rcases get_set e1 with ⟨_, z, _⟩ | ⟨_, z⟩
    · cases z
    · rcases get_set e2 with ⟨_, z2, _⟩ | ⟨_, z2⟩
      · cases z2
      · exact R.inj j k a xs ys z z2
/-- a slot is forgotten (σ keeps or loses it) -/
theorem DRel.forget (R : DRel W ρ σ H) {i : Nat} {σ' : St} (hl : σ'.length = σ.length) (h : ∀ j, j ≠ i → σ'[j]? = σ[j]?) : DRel W (ρ.put i .un) σ' H ∧ Step W ρ H (ρ.put i .un) H := by
  have S : Step W ρ H (ρ.put i .un) H := step_of_owns fun a => owns_put_un
  refine ⟨⟨by simp [En.put, hl, R.len], R.j, fun j y e => ?_, fun j a xs e => ?_, fun j k a xs ys e1 e2 => ?_⟩, S⟩
  · rcases get_set e with ⟨rfl, z, _⟩ | ⟨hj, z⟩
    · cases z
    · obtain ⟨w, h1, h2⟩ := R.dat j y z
      exact ⟨w, by rw [h j hj]; exact h1, h2.step S⟩
  · rcases get_set e with ⟨rfl, z, _⟩ | ⟨hj, z⟩
    · cases z
    · obtain ⟨h1, h2, vs, h3, h4⟩ := R.own j a xs z
      exact ⟨by rw [h j hj]; exact h1, h2, vs, h3, h4.step S⟩
  · rcases get_set e1 with ⟨_, z, _⟩ | ⟨_, z⟩
    · cases z
    · rcases get_set e2 with ⟨_, z2, _⟩ | ⟨_, z2⟩
      · cases z2
      · exact R.inj j k a xs ys z z2
/-- an own list becomes a datum -/
theorem DRel.freeze (R : DRel W ρ σ H) {i : Nat} {a : Addr} {xs : List Dt} (e : ρ.sl[i]? = some (.own a xs)) :
    DRel W (ρ.put i (.d (.lst xs))) σ H ∧ Step W ρ H (ρ.put i (.d (.lst xs))) H ∧ Rp W.sa (vw W (ρ.put i (.d (.lst xs))) H) (.lst xs) (.ref a) := by
  have S : Step W ρ H (ρ.put i (.d (.lst xs))) H := step_of_owns fun a => owns_put
  obtain ⟨h1, h2, vs, h3, h4⟩ := R.own i a xs e
  have na : a ∉ owns (ρ.put i (.d (.lst xs))).sl := fun q => by
    obtain ⟨j, ys, q⟩ := mem_owns.mp q
    rcases get_set q with ⟨_, z, _⟩ | ⟨hj, z⟩
    · cases z
    · exact hj (R.inj j i a ys xs z e)
  have rp : Rp W.sa (vw W (ρ.put i (.d (.lst xs))) H) (.lst xs) (.ref a) := by
    simp only [Rp]
    exact ⟨a, vs, rfl, vw_some.mpr ⟨h2, na, h3⟩, h4.step S⟩
  refine ⟨⟨by simp [En.put, R.len], R.j, fun j y q => ?_, fun j b ys q => ?_, fun j k b ys zs e1 e2 => ?_⟩, S, rp⟩
  · rcases get_set q with ⟨rfl, z, _⟩ | ⟨hj, z⟩
    · cases z; exact ⟨_, h1, rp⟩
    · obtain ⟨w, g1, g2⟩ := R.dat j y z
      exact ⟨w, g1, g2.step S⟩
  · rcases get_set q with ⟨rfl, z, _⟩ | ⟨hj, z⟩
    · cases z
    · obtain ⟨g1, g2, us, g3, g4⟩ := R.own j b ys z
      exact ⟨g1, g2, us, g3, g4.step S⟩
  · rcases get_set e1 with ⟨_, z, _⟩ | ⟨_, z⟩
    · cases z
    · rcases get_set e2 with ⟨_, z2, _⟩ | ⟨_, z2⟩
      · cases z2
      · exact R.inj j k b ys zs z z2
/-- a new list (at a: fresh ahead of it) is owned by slot i -/
theorem DRel.take (R : DRel W ρ σ H) {i : Nat} {a : Addr} {xs : List Dt} {vs : List V} (hm : a ∉ W.M) (hn : a ∉ owns ρ.sl) (hi : i < ρ.sl.length) (ha : H a = some (.lst vs)) (r : RpL W.sa (hid (a :: (W.M ++ owns ρ.sl)) H) xs vs)
    (hd : ∀ (j : Nat) x, j ≠ i → ρ.sl[j]? = some (.d x) → ∃ v, σ[j]? = some (some v) ∧ Rp W.sa (hid (a :: (W.M ++ owns ρ.sl)) H) x v)
    (ho : ∀ (j : Nat) b ys, j ≠ i → ρ.sl[j]? = some (.own b ys) → ∃ us, H b = some (.lst us) ∧ RpL W.sa (hid (a :: (W.M ++ owns ρ.sl)) H) ys us) :
    DRel W (ρ.put i (.own a xs)) (σ.set i (some (.ref a))) H := by
  have S : Sub (hid (a :: (W.M ++ owns ρ.sl)) H) (vw W (ρ.put i (.own a xs)) H) := fun b o e => by
    rw [hid_some] at e
    rw [vw_some]
    obtain ⟨h, e⟩ := e
    refine ⟨fun q => h (by simp [q]), fun q => ?_, e⟩
    obtain ⟨j, ys, q⟩ := mem_owns.mp q
    rcases get_set q with ⟨_, z, _⟩ | ⟨_, z⟩
    · cases z; exact h (by simp)
    · exact h (by simp [mem_owns.mpr ⟨j, ys, z⟩])
  refine ⟨by simp [En.put, R.len], R.j, fun j y q => ?_, fun j b ys q => ?_, fun j k b ys zs e1 e2 => ?_⟩
  · rcases get_set q with ⟨rfl, z, _⟩ | ⟨hj, z⟩
    · cases z
    · obtain ⟨w, g1, g2⟩ := hd j y hj z
      exact ⟨w, by rw [List.getElem?_set_ne (Ne.symm hj)]; exact g1, g2.mono S⟩
  · rcases get_set q with ⟨rfl, z, hl⟩ | ⟨hj, z⟩
    · cases z
      exact ⟨List.getElem?_set_self (by rw [R.len]; exact hl), hm, vs, ha, r.mono S⟩
    · obtain ⟨us, g3, g4⟩ := ho j b ys hj z
      obtain ⟨g1, g2, _⟩ := R.own j b ys z
      exact ⟨by rw [List.getElem?_set_ne (Ne.symm hj)]; exact g1, g2, us, g3, g4.mono S⟩
  · rcases get_set e1 with ⟨rfl, z, _⟩ | ⟨hj, z⟩
    · rcases get_set e2 with ⟨rfl, z2, _⟩ | ⟨hk, z2⟩
      · rfl
      · cases z; exact absurd (mem_owns.mpr ⟨k, zs, z2⟩) hn
    · rcases get_set e2 with ⟨rfl, z2, _⟩ | ⟨hk, z2⟩
      · cases z2; exact absurd (mem_owns.mpr ⟨j, ys, z⟩) hn
      · exact R.inj j k b ys zs z z2
/-- an own list is written -/
theorem DRel.write (R : DRel W ρ σ H) {i : Nat} {a : Addr} {xs ys : List Dt} {vs : List V} (e : ρ.sl[i]? = some (.own a xs)) (r : RpL W.sa (vw W ρ H) ys vs) :
    DRel W (ρ.put i (.own a ys)) σ (upd H a (.lst vs)) ∧ Step W ρ H (ρ.put i (.own a ys)) (upd H a (.lst vs)) := by
  obtain ⟨h1, h2, us, h3, h4⟩ := R.own i a xs e
  have hi : i < ρ.sl.length := (List.getElem?_eq_some_iff.mp e).1
  have ow : ∀ b, b ∈ owns (ρ.put i (.own a ys)).sl → b ∈ owns ρ.sl := fun b q => by
    obtain ⟨j, zs, q⟩ := mem_owns.mp q
    rcases get_set q with ⟨_, z, _⟩ | ⟨hj, z⟩
    · cases z; exact mem_owns.mpr ⟨i, xs, e⟩
    · exact mem_owns.mpr ⟨j, zs, z⟩
  have S : Step W ρ H (ρ.put i (.own a ys)) (upd H a (.lst vs)) := ⟨fun b o _ hb q => by
      rw [upd_ne]; exact q
      rintro rfl
      exact hb (mem_owns.mpr ⟨i, xs, e⟩), fun b q => by
      by_cases hb : b = a
      · subst hb; rw [upd_same]; simp
      · rw [upd_ne hb]; exact q, fun b q => .inl (ow b q)⟩
  refine ⟨⟨by simp [En.put, R.len], R.j.keep fun b hb => upd_ne (fun z => h2 (z ▸ hb)), fun j y q => ?_, fun j b zs q => ?_, fun j k b zs ws e1 e2 => ?_⟩, S⟩
  · rcases get_set q with ⟨_, z, _⟩ | ⟨hj, z⟩
    · cases z
    · obtain ⟨w, g1, g2⟩ := R.dat j y z
      exact ⟨w, g1, g2.step S⟩
  · rcases get_set q with ⟨rfl, z, _⟩ | ⟨hj, z⟩
    · cases z
      exact ⟨h1, h2, vs, upd_same, r.step S⟩
    · obtain ⟨g1, g2, us', g3, g4⟩ := R.own j b zs z
      refine ⟨g1, g2, us', ?_, g4.step S⟩
      rw [upd_ne]; exact g3
      rintro rfl
      exact hj (R.inj j i b zs xs z e)
  · rcases get_set e1 with ⟨rfl, z, _⟩ | ⟨hj, z⟩
    · rcases get_set e2 with ⟨rfl, z2, _⟩ | ⟨hk, z2⟩
      · rfl
      · cases z; exact R.inj j k a xs ws e z2
    · rcases get_set e2 with ⟨rfl, z2, _⟩ | ⟨hk, z2⟩
      · cases z2; exact R.inj j k a zs xs z e
      · exact R.inj j k b zs ws z z2
end
end DL

set_option Elab.async false
set_option linter.all false
set_option maxRecDepth 100000
set_option maxHeartbeats 1000000
set_option autoImplicit false
/-! DL2: what a reading over data says of the hand layer's reading; expressions. -/
namespace DL
open PySem PySem.Spec L2

abbrev MK := Dt → En → Prop
abbrev ME := En → MK → Prop
abbrev MT := En → (Bool → En → Prop) → Prop
abbrev MA := En → (List Dt → En → Prop) → Prop
structure SimE (t : TE) (m : ME) : Prop where
  mono : ∀ (ρ : En) (Q Q' : MK), (∀ d ρ', Q d ρ' → Q' d ρ') → m ρ Q → m ρ Q'
  run : ∀ (W : Wd) (ρ : En) (σ : L2.St) (H : Hp) (R : VK), DRel W ρ σ H → m ρ (fun d ρ' => ∀ v H', DRel W ρ' σ H' → Step W ρ H ρ' H' → Rp W.sa (vw W ρ' H') d v → R v H') → t σ H R
structure SimT (t : TT) (m : MT) : Prop where
  mono : ∀ (ρ : En) (Q Q' : Bool → En → Prop), (∀ d ρ', Q d ρ' → Q' d ρ') → m ρ Q → m ρ Q'
  run : ∀ (W : Wd) (ρ : En) (σ : L2.St) (H : Hp) (R : Bool → Hp → Prop), DRel W ρ σ H → m ρ (fun d ρ' => ∀ H', DRel W ρ' σ H' → Step W ρ H ρ' H' → R d H') → t σ H R
structure SimA (t : TA) (m : MA) : Prop where
  mono : ∀ (ρ : En) (Q Q' : List Dt → En → Prop), (∀ d ρ', Q d ρ' → Q' d ρ') → m ρ Q → m ρ Q'
  run : ∀ (W : Wd) (ρ : En) (σ : L2.St) (H : Hp) (R : List V → Hp → Prop), DRel W ρ σ H → m ρ (fun d ρ' => ∀ v H', DRel W ρ' σ H' → Step W ρ H ρ' H' → RpL W.sa (vw W ρ' H') d v → R v H') → t σ H R
structure DE (X : Cx) (e : Expr) (t : TE) (m : ME) : Prop where
  pe : PE X e t
  sim : SimE t m
structure DT (X : Cx) (e : Expr) (t : TT) (m : MT) : Prop where
  pt : PT X e t
  sim : SimT t m
structure DW (X : Cx) (e : Expr) (t : TT) (m : MT) : Prop where
  pw : PW X e t
  sim : SimT t m
structure DA (X : Cx) (es : List Expr) (t : TA) (m : MA) : Prop where
  pa : PA X es t
  sim : SimA t m

/-! ### names, constants -/
def mVar (i : Nat) : ME := fun ρ Q => match ρ.sl[i]? with
  | some (.d x) => Q x ρ
  | some (.own _ xs) => Q (.lst xs) (ρ.put i (.d (.lst xs)))
  | _ => False
def mC (d : Dt) : ME := fun ρ Q => Q d ρ
theorem simVar (i : Nat) : SimE (tVar i) (mVar i) where
  mono := fun ρ Q Q' h => by
    unfold mVar
    split
    · exact h _ _
    · exact h _ _
    · exact id
  run := fun W ρ σ H R D h => by
    unfold mVar at h
    split at h
    · rename_i x e
      obtain ⟨v, h1, h2⟩ := D.dat i x e
      exact ⟨v, h1, h v H D .refl h2⟩
    · rename_i a xs e
      obtain ⟨h1, h2, vs, h3, h4⟩ := D.own i a xs e
      obtain ⟨D', S, r⟩ := D.freeze e
      exact ⟨_, h1, h _ H D' S r⟩
    · exact h.elim
section
variable {X : Cx}
theorem dv (i : Nat) {x : Str} {pos : Pos} (hN : X.N[i]? = some x := by rfl) (hv : Vis X.env.scope x := by first | exact Or.inl rfl | exact Or.inr (Or.inl rfl) | exact Or.inr (Or.inr rfl)) (hd : (x == ("__debug__" : Str)) = false := by decide)
    (hcd : (x == ("__classdict__" : Str)) = false := by decide) : DE X (.Name x pos) (tVar i) (mVar i) := ⟨pe_var hN hv hd hcd, simVar i⟩
theorem simC {v : V} {d : Dt} (h : ∀ ss hp, Rp ss hp d v) : SimE (tC v) (mC d) := ⟨fun _ _ _ h => h _ _, fun W ρ σ H R D q => q v H D .refl (h _ _)⟩
theorem de_int {i j pos} : DE X (.Constant (.int i) j pos) (tC (.int i)) (mC (.int i)) := ⟨pe_int, simC fun _ _ => by simp only [Rp]⟩
theorem de_bl {b j pos} : DE X (.Constant (.bool b) j pos) (tC (.bl b)) (mC (.bl b)) := ⟨pe_bl, simC fun _ _ => by simp only [Rp]⟩
theorem de_non {j pos} : DE X (.Constant .none j pos) (tC .non) (mC .non) := ⟨pe_non, simC fun _ _ => by simp only [Rp]⟩
theorem de_str {x j pos} : DE X (.Constant (.str x) j pos) (tC (.str x)) (mC (.str x)) := ⟨pe_str, simC fun _ _ => by simp only [Rp]⟩
end

/-! ### two values -/
abbrev MO := Dt → Dt → (Dt → Prop) → Prop
/-- an operator on data, for a rule on values -/
structure SimO (r : R2) (o : MO) : Prop where
  mono : ∀ x y (k k' : Dt → Prop), (∀ d, k d → k' d) → o x y k → o x y k'
  run : ∀ (W : Wd) (ρ : En) (σ : L2.St) (H : Hp) (R : VK) (dx dy : Dt) (x y : V), DRel W ρ σ H → Rp W.sa (vw W ρ H) dx x → Rp W.sa (vw W ρ H) dy y →
    o dx dy (fun d => ∀ v H', DRel W ρ σ H' → Step W ρ H ρ H' → Rp W.sa (vw W ρ H') d v → R v H') → r x y H R
def mOp (o : MO) (ma mb : ME) : ME := fun ρ Q => ma ρ fun x ρ1 => mb ρ1 fun y ρ2 => o x y fun z => Q z ρ2
theorem simOp {r : R2} {o : MO} {ta tb : TE} {ma mb : ME} (ho : SimO r o) (ha : SimE ta ma) (hb : SimE tb mb) : SimE (tOp r ta tb) (mOp o ma mb) where
  mono := fun ρ Q Q' h => ha.mono _ _ _ fun x ρ1 => hb.mono _ _ _ fun y ρ2 => ho.mono _ _ _ _ fun z => h z ρ2
  run := fun W ρ σ H R D h => by
    refine ha.run W ρ σ H _ D (ha.mono _ _ _ (fun x ρ1 q v1 H1 D1 S1 r1 => ?_) h)
    refine hb.run W ρ1 σ H1 _ D1 (hb.mono _ _ _ (fun y ρ2 q v2 H2 D2 S2 r2 => ?_) q)
    refine ho.run W ρ2 σ H2 _ x y v1 v2 D2 (r1.step S2) r2 (ho.mono _ _ _ _ (fun z q v3 H3 D3 S3 r3 => ?_) q)
    exact q v3 H3 D3 (S1.trans (S2.trans S3)) r3
abbrev MU := Dt → (Dt → Prop) → Prop
structure SimU (r : V → Hp → VK → Prop) (o : MU) : Prop where
  mono : ∀ x (k k' : Dt → Prop), (∀ d, k d → k' d) → o x k → o x k'
  run : ∀ (W : Wd) (ρ : En) (σ : L2.St) (H : Hp) (R : VK) (dx : Dt) (x : V), DRel W ρ σ H → Rp W.sa (vw W ρ H) dx x →
    o dx (fun d => ∀ v H', DRel W ρ σ H' → Step W ρ H ρ H' → Rp W.sa (vw W ρ H') d v → R v H') → r x H R
def mUn (o : MU) (ma : ME) : ME := fun ρ Q => ma ρ fun x ρ1 => o x fun z => Q z ρ1
theorem simUn {r : V → Hp → VK → Prop} {o : MU} {ta : TE} {ma : ME} (ho : SimU r o) (ha : SimE ta ma) : SimE (tUn r ta) (mUn o ma) where
  mono := fun ρ Q Q' h => ha.mono _ _ _ fun x ρ1 => ho.mono _ _ _ fun z => h z ρ1
  run := fun W ρ σ H R D h => by
    refine ha.run W ρ σ H _ D (ha.mono _ _ _ (fun x ρ1 q v1 H1 D1 S1 r1 => ?_) h)
    refine ho.run W ρ1 σ H1 _ x v1 D1 r1 (ho.mono _ _ _ (fun z q v3 H3 D3 S3 r3 => ?_) q)
    exact q v3 H3 D3 (S1.trans S3) r3
/-- int operators -/
def oI (C : Int → Int → Prop) (g : Int → Int → Dt) : MO := fun x y k => match x, y with
  | .int i, .int j => C i j ∧ k (g i j)
  | _, _ => False
def oI0 (g : Int → Int → Dt) : MO := fun x y k => match x, y with
  | .int i, .int j => k (g i j)
  | _, _ => False
def val0 : Dt → V
  | .int i => .int i
  | .bl b => .bl b
  | .str s => .str s
  | _ => .non
def isScal : Dt → Bool
  | .int _ => true
  | .bl _ => true
  | .str _ => true
  | .non => true
  | _ => false
theorem rp_scal {ss : Option Addr} {h : Hp} {d : Dt} (e : isScal d = true) : Rp ss h d (val0 d) := by
  cases d <;> first | (simp [isScal] at e; done) | (simp only [Rp, val0])
theorem rp_scal_inv {ss : Option Addr} {h : Hp} {d : Dt} {v : V} (e : isScal d = true) (r : Rp ss h d v) : v = val0 d := by
  cases d <;> first | (simpa only [Rp, val0] using r) | (simp [isScal] at e)
theorem simI {C : Int → Int → Prop} {g : Int → Int → Dt} {gv : Int → Int → V} (hg : ∀ i j, isScal (g i j) = true ∧ gv i j = val0 (g i j)) : SimO (rI C gv) (oI C g) where
  mono := fun x y k k' h => by
    unfold oI
    split
    · exact fun ⟨c, q⟩ => ⟨c, h _ q⟩
    · exact id
  run := fun W ρ σ H R dx dy x y D rx ry h => by
    unfold oI at h
    split at h
    · rename_i i j
      simp only [Rp] at rx ry
      obtain ⟨h1, h2⟩ := hg i j
      exact ⟨i, j, rx, ry, h.1, h.2 _ H D .refl (by rw [h2]; exact rp_scal h1)⟩
    · exact h.elim
theorem simI0 {g : Int → Int → Dt} {gv : Int → Int → V} (hg : ∀ i j, isScal (g i j) = true ∧ gv i j = val0 (g i j)) : SimO (rI0 gv) (oI0 g) where
  mono := fun x y k k' h => by
    unfold oI0
    split
    · exact h _
    · exact id
  run := fun W ρ σ H R dx dy x y D rx ry h => by
    unfold oI0 at h
    split at h
    · rename_i i j
      simp only [Rp] at rx ry
      obtain ⟨h1, h2⟩ := hg i j
      exact ⟨i, j, rx, ry, h _ H D .refl (by rw [h2]; exact rp_scal h1)⟩
    · exact h.elim
/-- either of two rules -/
def oOr (o o' : MO) : MO := fun x y k => o x y k ∨ o' x y k
theorem SimO.or {r r' : R2} {o o' : MO} (h : SimO r o) (h' : SimO r' o') : SimO (fun x y H Q => r x y H Q ∨ r' x y H Q) (oOr o o') where
  mono := fun x y k k' q z => z.elim (fun z => .inl (h.mono _ _ _ _ q z)) fun z => .inr (h'.mono _ _ _ _ q z)
  run := fun W ρ σ H R dx dy x y D rx ry z => z.elim (fun z => .inl (h.run W ρ σ H R dx dy x y D rx ry z)) fun z => .inr (h'.run W ρ σ H R dx dy x y D rx ry z)
/-- + of ints, of lists -/
def oAdd : MO := fun x y k => match x, y with
  | .int i, .int j => k (.int (i + j))
  | .lst xs, .lst ys => xs.length + ys.length ≤ sizeLine ∧ k (.lst (xs ++ ys))
  | .str i, .str j => i.length + j.length ≤ sizeLine ∧ k (.str (i ++ j))
  | _, _ => False
abbrev rAddD : R2 := fun x y H Q => rI0 (fun i j => .int (i + j)) x y H Q ∨ (rCat x y H Q ∨ ∃ i j, x = .str i ∧ y = .str j ∧ i.length + j.length ≤ sizeLine ∧ Q (.str (i ++ j)) H)
theorem op_addD {X : Cx} : OpR X (binaryOp .Add) rAddD := op_add.or (op_cat.or op_add_str)
theorem simAdd : SimO rAddD oAdd where
  mono := fun x y k k' h => by
    unfold oAdd
    split
    · exact h _
    · exact fun ⟨c, q⟩ => ⟨c, h _ q⟩
    · exact fun ⟨c, q⟩ => ⟨c, h _ q⟩
    · exact id
  run := fun W ρ σ H R dx dy x y D rx ry h => by
    unfold oAdd at h
    split at h
    · rename_i i j
      simp only [Rp] at rx ry
      exact .inl ⟨i, j, rx, ry, h _ H D .refl (by simp only [Rp])⟩
    · rename_i xs ys
      simp only [Rp] at rx ry
      obtain ⟨a, vs, rfl, h1, h2⟩ := rx
      obtain ⟨b, us, rfl, h3, h4⟩ := ry
      refine .inr (.inl ⟨a, b, vs, us, rfl, rfl, (vw_some.mp h1).2.2, (vw_some.mp h3).2.2, by rw [h2.length, h4.length]; exact h.1, fun p hp => ?_⟩)
      obtain ⟨D', S⟩ := D.alloc (o := .lst (vs ++ us)) hp
      exact h.2 _ _ D' S (D.new_lst hp (h2.append h4))
    · rename_i i j
      simp only [Rp] at rx ry
      exact .inr (.inr ⟨i, j, rx, ry, h.1, h.2 _ H D .refl (by simp only [Rp])⟩)
    · exact h.elim
/-- * of ints (great ones too), list * int -/
def oMul : MO := fun x y k => match x, y with
  | .int i, .int j => CMulW i j ∧ k (.int (i * j))
  | .lst xs, .int j => (0 ≤ j ∧ j < 2 ^ 63 ∧ xs.length * j.toNat ≤ sizeLine) ∧ k (.lst (List.replicate j.toNat xs).flatten)
  | _, _ => False

theorem RpL.rep {ss : Option Addr} {h : Hp} {ds : List Dt} {vs : List V} (r : RpL ss h ds vs) : ∀ n : Nat, RpL ss h (List.replicate n ds).flatten (List.replicate n vs).flatten
  | 0 => .nil
  | n + 1 => by
    rw [List.replicate_succ, List.replicate_succ, List.flatten_cons, List.flatten_cons]
    exact r.append (RpL.rep r n)
abbrev rMulD : R2 := fun x y H Q => rI CMulW (fun i j => .int (i * j)) x y H Q ∨ rRep x y H Q
theorem op_mulD {X : Cx} : OpR X (binaryOp .Mult) rMulD := op_mulW.or op_rep
theorem simMul : SimO rMulD oMul where
  mono := fun x y k k' h => by
    unfold oMul
    split
    · exact fun ⟨c, q⟩ => ⟨c, h _ q⟩
    · exact fun ⟨c, q⟩ => ⟨c, h _ q⟩
    · exact id
  run := fun W ρ σ H R dx dy x y D rx ry h => by
    unfold oMul at h
    split at h
    · rename_i i j
      simp only [Rp] at rx ry
      exact .inl ⟨i, j, rx, ry, h.1, h.2 _ H D .refl (by simp only [Rp])⟩
    · rename_i xs j
      simp only [Rp] at rx ry
      obtain ⟨a, vs, rfl, h1, h2⟩ := rx
      refine .inr ⟨a, j, vs, rfl, ry, (vw_some.mp h1).2.2, by omega, h.1.2.1, by rw [h2.length]; exact h.1.2.2, fun p hp => ?_⟩
      obtain ⟨D', S⟩ := D.alloc (o := .lst (List.replicate j.toNat vs).flatten) hp
      exact h.2 _ _ D' S (D.new_lst hp (h2.rep _))
    · exact h.elim
def oSub : MO := oI0 fun i j => .int (i - j)
theorem simSub : SimO (rI0 fun i j => .int (i - j)) oSub := simI0 fun _ _ => ⟨rfl, rfl⟩
/-- // by a positive number (below 2 ^ 9000) -/
def oFdiv : MO := oI CDivW fun i j => .int (i / j)
theorem simFdiv : SimO (rI CDivW fun i j => .int (i / j)) oFdiv := simI fun _ _ => ⟨rfl, rfl⟩
/-- % by a positive number -/
def oMod : MO := oI (fun _ j => 0 < j) fun i j => .int (i % j)
theorem simMod : SimO (rI (fun _ j => 0 < j) fun i j => .int (i % j)) oMod := simI fun _ _ => ⟨rfl, rfl⟩
def oPow : MO := oI CPow fun i j => .int (i ^ j.toNat)
theorem simPow : SimO (rI CPow fun i j => .int (i ^ j.toNat)) oPow := simI fun _ _ => ⟨rfl, rfl⟩
def uI (g : Int → Dt) : MU := fun x k => match x with
  | .int i => k (g i)
  | _ => False
theorem simUI {g : Int → Dt} {gv : Int → V} (hg : ∀ i, isScal (g i) = true ∧ gv i = val0 (g i)) : SimU (rU gv) (uI g) where
  mono := fun x k k' h => by
    unfold uI
    split
    · exact h _
    · exact id
  run := fun W ρ σ H R dx x D rx h => by
    unfold uI at h
    split at h
    · rename_i i
      simp only [Rp] at rx
      obtain ⟨h1, h2⟩ := hg i
      exact ⟨i, rx, h _ H D .refl (by rw [h2]; exact rp_scal h1)⟩
    · exact h.elim
def uNeg : MU := uI fun i => .int (-i)
theorem simNeg : SimU (rU fun i => .int (-i)) uNeg := simUI fun _ => ⟨rfl, rfl⟩
/-! ### comparisons -/
def oLt : MO := oI0 fun i j => .bl (decide (i < j))
def oLe : MO := oI0 fun i j => .bl (decide (i ≤ j))
def oGt : MO := oI0 fun i j => .bl (decide (j < i))
def oGe : MO := oI0 fun i j => .bl (decide (j ≤ i))
theorem simLt : SimO (rI0 fun i j => .bl (decide (i < j))) oLt := simI0 fun _ _ => ⟨rfl, rfl⟩
theorem simLe : SimO (rI0 fun i j => .bl (decide (i ≤ j))) oLe := simI0 fun _ _ => ⟨rfl, rfl⟩
theorem simGt : SimO (rI0 fun i j => .bl (decide (j < i))) oGt := simI0 fun _ _ => ⟨rfl, rfl⟩
theorem simGe : SimO (rI0 fun i j => .bl (decide (j ≤ i))) oGe := simI0 fun _ _ => ⟨rfl, rfl⟩
def isNon : Dt → Bool
  | .non => true
  | _ => false
theorem rp_non {ss : Option Addr} {h : Hp} {d : Dt} {v : V} (r : Rp ss h d v) : decide (v = V.non) = isNon d := by
  cases d with
  | non => simp only [Rp] at r; subst r; rfl
  | bl b => simp only [Rp] at r; subst r; rfl
  | int b => simp only [Rp] at r; subst r; rfl
  | str b => simp only [Rp] at r; subst r; rfl
  | tup b => simp only [Rp] at r; obtain ⟨a, vs, rfl, _⟩ := r; rfl
  | lst b => simp only [Rp] at r; obtain ⟨a, vs, rfl, _⟩ := r; rfl
  | strm => simp only [Rp] at r; obtain ⟨a, _, rfl⟩ := r; rfl
def oIsN : MO := fun x y k => y = .non ∧ k (.bl (isNon x))
def oNotN : MO := fun x y k => y = .non ∧ k (.bl (!isNon x))
theorem simIsN : SimO (fun x y H Q => y = .non ∧ Q (.bl (decide (x = .non))) H) oIsN where
  mono := fun x y k k' h ⟨a, b⟩ => ⟨a, h _ b⟩
  run := fun W ρ σ H R dx dy x y D rx ry ⟨e, h⟩ => by
    subst e
    simp only [Rp] at ry
    refine ⟨ry, ?_⟩
    rw [rp_non rx]
    exact h _ H D .refl (by simp only [Rp])
theorem simNotN : SimO (fun x y H Q => y = .non ∧ Q (.bl (!decide (x = .non))) H) oNotN where
  mono := fun x y k k' h ⟨a, b⟩ => ⟨a, h _ b⟩
  run := fun W ρ σ H R dx dy x y D rx ry ⟨e, h⟩ => by
    subst e
    simp only [Rp] at ry
    refine ⟨ry, ?_⟩
    rw [rp_non rx]
    exact h _ H D .refl (by simp only [Rp])
mutual
def py : Dt → PyData
  | .non => .none
  | .bl b => .bool b
  | .int i => .int i
  | .str s => .str s
  | .tup xs => .tuple (pys xs)
  | .lst xs => .list (pys xs)
  | .strm => .none
def pys : List Dt → List PyData
  | [] => []
  | d :: ds => py d :: pys ds
end

mutual
/-- no stream within, not too deep, no overlong text -/
def fineD : Nat → Dt → Bool
  | _, .non => true
  | _, .bl _ => true
  | _, .int _ => true
  | _, .str s => PyData.strOk s
  | 0, .tup _ => false
  | 0, .lst _ => false
  | n + 1, .tup xs => decide (xs.length ≤ 1000000) && fineL n xs
  | n + 1, .lst xs => decide (xs.length ≤ 1000000) && fineL n xs
  | _, .strm => false
def fineL : Nat → List Dt → Bool
  | _, [] => true
  | n, d :: ds => fineD n d && fineL n ds
end
mutual
theorem fine_py : ∀ (d : Dt) (n : Nat), fineD n d = true → PyData.canLay0 (py d) = true ∧ PyData.depth (py d) ≤ n
  | .non, n, _ => by simp [py, PyData.canLay0, PyData.depth]
  | .bl _, n, _ => by simp [py, PyData.canLay0, PyData.depth]
  | .int _, n, _ => by simp [py, PyData.canLay0, PyData.depth]
  | .str s, n, h => by
    have h' : PyData.strOk s = true := by simpa [fineD] using h
    simp [py, PyData.canLay0, PyData.depth, h']
  | .tup xs, 0, h => by simp [fineD] at h
  | .tup xs, n + 1, h => by
    have h' : fineL n xs = true := by
      simp [fineD] at h
      exact h.2
    have := fine_pys xs n h'
    simp [py, PyData.canLay0, PyData.depth, this]
  | .lst xs, 0, h => by simp [fineD] at h
  | .lst xs, n + 1, h => by
    have h' : fineL n xs = true := by
      simp [fineD] at h
      exact h.2
    have := fine_pys xs n h'
    simp [py, PyData.canLay0, PyData.depth, this]
  | .strm, n, h => by simp [fineD] at h
theorem fine_pys : ∀ (ds : List Dt) (n : Nat), fineL n ds = true → PyData.canLayAll0 (pys ds) = true ∧ PyData.depthAll (pys ds) ≤ n
  | [], n, _ => by simp [pys, PyData.canLayAll0, PyData.depthAll]
  | d :: ds, n, h => by
    have h' : fineD n d = true ∧ fineL n ds = true := by simpa [fineL] using h
    have h1 := fine_py d n h'.1
    have h2 := fine_pys ds n h'.2
    simp [pys, PyData.canLayAll0, PyData.depthAll, h1, h2]
    omega
end
mutual
theorem Rp.dp {K : PySem.W.Frag} {ss : Option Addr} {h H : Hp} (S : Sub h H) : ∀ {d : Dt} {v : V} (n : Nat), fineD n d = true → Rp ss h d v → Dp K H v (py d)
  | .non, v, n, _, r => by simp only [Rp] at r; subst r; exact .non
  | .bl b, v, n, _, r => by simp only [Rp] at r; subst r; exact .bl b
  | .int b, v, n, _, r => by simp only [Rp] at r; subst r; exact .int b
  | .str b, v, n, _, r => by simp only [Rp] at r; subst r; exact .str b
  | .tup xs, v, 0, f, r => by simp [fineD] at f
  | .tup xs, v, n + 1, f, r => by
    simp only [Rp] at r
    obtain ⟨a, vs, rfl, g, q⟩ := r
    exact .tup (SqT.of (S _ _ g)) (RpL.dp S n (by simp [fineD] at f; exact f.2) q)
  | .lst xs, v, 0, f, r => by simp [fineD] at f
  | .lst xs, v, n + 1, f, r => by
    simp only [Rp] at r
    obtain ⟨a, vs, rfl, g, q⟩ := r
    exact .lst (SqL.of (S _ _ g)) (RpL.dp S n (by simp [fineD] at f; exact f.2) q)
  | .strm, v, n, f, r => by simp [fineD] at f
theorem RpL.dp {K : PySem.W.Frag} {ss : Option Addr} {h H : Hp} (S : Sub h H) : ∀ {ds : List Dt} {vs : List V} (n : Nat), fineL n ds = true → RpL ss h ds vs → DpAll K H vs (pys ds)
  | [], vs, n, _, r => by rw [r.inv_nil]; exact .nil
  | d :: ds, vs, n, f, r => by
    obtain ⟨v, t, rfl, r1, r2⟩ := r.inv_cons
    have h' : fineD n d = true ∧ fineL n ds = true := by simpa [fineL] using f
    exact .cons (Rp.dp S n h'.1 r1) (RpL.dp S n h'.2 r2)
end
theorem vw_sub {W : Wd} {ρ : En} {H : Hp} : Sub (vw W ρ H) H := fun a o e => (vw_some.mp e).2.2
def deq (x y : Dt) : Bool := PyData.eqv (py x) (py y)
def oEq : MO := fun x y k => (fineD 64 x = true ∧ fineD 64 y = true) ∧ k (.bl (deq x y))
def oNe : MO := fun x y k => (fineD 64 x = true ∧ fineD 64 y = true) ∧ k (.bl (!deq x y))
theorem fine_shaped {d : Dt} (h : fineD 64 d = true) : SeqAt.shaped (py d) = true := by
  have q := fine_py d 64 h
  simp [SeqAt.shaped, q]
theorem simEq {K : PySem.W.Frag} : SimO (rEqD K) oEq where
  mono := fun x y k k' h ⟨a, b⟩ => ⟨a, h _ b⟩
  run := fun W ρ σ H R dx dy x y D rx ry ⟨f, h⟩ => ⟨py dx, py dy, rx.dp vw_sub 64 f.1, ry.dp vw_sub 64 f.2, fine_shaped f.1, fine_shaped f.2, h _ H D .refl (by simp only [Rp]; rfl)⟩
theorem simNe {K : PySem.W.Frag} : SimO (rNeD K) oNe where
  mono := fun x y k k' h ⟨a, b⟩ => ⟨a, h _ b⟩
  run := fun W ρ σ H R dx dy x y D rx ry ⟨f, h⟩ => ⟨py dx, py dy, rx.dp vw_sub 64 f.1, ry.dp vw_sub 64 f.2, fine_shaped f.1, fine_shaped f.2, h _ H D .refl (by simp only [Rp]; rfl)⟩
/-- in, not in: flat items -/
theorem flat_val {d : Dt} (e : isScal d = true) : flatV (val0 d) = true := by
  cases d <;> first | rfl | simp [isScal] at e
theorem eqV_val {x y : Dt} (e : isScal x = true) (f : isScal y = true) : eqV (val0 x) (val0 y) = deq x y := by
  cases x <;> cases y <;> first | (simp [isScal] at e; done) | (simp [isScal] at f; done) | (simp [val0, eqV, deq, py, PyData.eqv])
theorem rp_flats {ss : Option Addr} {h : Hp} {ds : List Dt} {vs : List V} (r : RpL ss h ds vs) (f : ds.all isScal = true) : vs = ds.map val0 := by
  induction ds generalizing vs with
  | nil => exact r.inv_nil
  | cons d ds ih =>
    obtain ⟨v, t, rfl, r1, r2⟩ := r.inv_cons
    rw [List.all_cons, Bool.and_eq_true] at f
    rw [rp_scal_inv f.1 r1, ih r2 f.2]
    rfl
theorem flats_flat {ds : List Dt} (f : ds.all isScal = true) : (ds.map val0).all flatV = true := by
  rw [List.all_map, List.all_eq_true]
  intro d hd
  exact flat_val (List.all_eq_true.mp f d hd)
theorem inV_val {x : Dt} {ds : List Dt} (e : isScal x = true) (f : ds.all isScal = true) : inV (val0 x) (ds.map val0) = ds.any fun z => deq z x := by
  unfold inV
  rw [List.any_map]
  induction ds with
  | nil => rfl
  | cons d ds ih =>
    rw [List.all_cons, Bool.and_eq_true] at f
    rw [List.any_cons, List.any_cons, ih f.2]
    show (eqV (val0 d) (val0 x) || _) = _
    rw [eqV_val f.1 e]
def seqOf : Dt → Option (List Dt)
  | .lst xs => some xs
  | .tup xs => some xs
  | _ => none
theorem rp_seq {K : PySem.W.Frag} {ss : Option Addr} {h : Hp} {d : Dt} {xs : List Dt} {v : V} (e : seqOf d = some xs) (r : Rp ss h d v) : ∃ p vs, v = .ref p ∧ (SqL K h p vs ∨ SqT K h p vs) ∧ RpL ss h xs vs := by
  cases d with
  | lst ys =>
    cases e
    simp only [Rp] at r
    obtain ⟨a, vs, rfl, g, q⟩ := r
    exact ⟨a, vs, rfl, .inl (SqL.of g), q⟩
  | tup ys =>
    cases e
    simp only [Rp] at r
    obtain ⟨a, vs, rfl, g, q⟩ := r
    exact ⟨a, vs, rfl, .inr (SqT.of g), q⟩
  | _ => cases e
theorem sq_up {K : PySem.W.Frag} {h H : Hp} (S : Sub h H) {p : Addr} {vs : List V} (q : SqL K h p vs ∨ SqT K h p vs) : SqL K H p vs ∨ SqT K H p vs := by
  rcases q with (⟨q | ⟨o, q⟩⟩ | q) | (⟨q | ⟨o, q⟩⟩ | q)
  · exact .inl (.inl (.inl (S _ _ q)))
  · exact .inl (.inl (.inr ⟨o, S _ _ q⟩))
  · exact .inl (.inr q)
  · exact .inr (.inl (.inl (S _ _ q)))
  · exact .inr (.inl (.inr ⟨o, S _ _ q⟩))
  · exact .inr (.inr q)
def oIn (neg : Bool) : MO := fun x y k => match seqOf y with
  | some xs => (isScal x = true ∧ xs.all isScal = true) ∧ k (.bl (if neg then !(xs.any fun z => deq z x) else xs.any fun z => deq z x))
  | none => False
theorem simIn {K : PySem.W.Frag} (neg : Bool) : SimO (rIn K neg) (oIn neg) where
  mono := fun x y k k' h => by
    unfold oIn
    split
    · exact fun ⟨c, q⟩ => ⟨c, h _ q⟩
    · exact id
  run := fun W ρ σ H R dx dy x y D rx ry h => by
    unfold oIn at h
    split at h
    · rename_i xs e
      obtain ⟨p, vs, rfl, q, r⟩ := rp_seq (K := K) e ry
      obtain ⟨⟨f1, f2⟩, h⟩ := h
      have e1 := rp_scal_inv f1 rx
      have e2 := rp_flats r f2
      subst e1 e2
      refine ⟨p, _, rfl, sq_up vw_sub q, flat_val f1, flats_flat f2, ?_⟩
      rw [inV_val f1 f2]
      exact h _ H D .refl (by simp only [Rp])
    · exact h.elim
/-! ### items -/
def oIx : MO := fun x y k => match seqOf x, y with
  | some xs, .int i => match atI xs i with
    | some d => k d
    | none => False
  | _, _ => False
theorem rpl_at {ss : Option Addr} {h : Hp} {ds : List Dt} {vs : List V} (r : RpL ss h ds vs) {i : Int} {d : Dt} (e : atI ds i = some d) : ∃ v, atI vs i = some v ∧ Rp ss h d v := by
  unfold atI at e ⊢
  rw [r.length]
  cases q : ixN ds.length i with
  | none => rw [q] at e; cases e
  | some j =>
    rw [q] at e
    exact r.get (i := j) e
theorem simIx {K : PySem.W.Frag} : SimO (rIx K) oIx where
  mono := fun x y k k' h => by
    unfold oIx
    split
    · split
      · exact h _
      · exact id
    · exact id
  run := fun W ρ σ H R dx dy x y D rx ry h => by
    unfold oIx at h
    split at h
    · rename_i xs i e
      split at h
      · rename_i d hd
        obtain ⟨p, vs, rfl, q, r⟩ := rp_seq (K := K) e rx
        obtain ⟨v, h1, h2⟩ := rpl_at r hd
        simp only [Rp] at ry
        rcases sq_up vw_sub q with q | q
        · exact .inl ⟨p, vs, i, v, rfl, ry, q, h1, h v H D .refl h2⟩
        · exact .inr (.inl ⟨p, vs, i, v, rfl, ry, q, h1, h v H D .refl h2⟩)
      · exact h.elim
    · exact h.elim

/-! ### the rules -/
section
variable {X : Cx} {a b c e : Expr} {es : List Expr} {pos p : Pos} {ta tb tc te : TE} {ma mb mc me : ME} {r : R2} {o : MO}
theorem de_op {op : Operator} (hv : OpR X (binaryOp op) r) (ho : SimO r o) (ha : DE X a ta ma) (hb : DE X b tb mb) : DE X (.BinOp a op b pos) (tOp r ta tb) (mOp o ma mb) := ⟨pe_op hv ha.pe hb.pe, simOp ho ha.sim hb.sim⟩
theorem de_add (ha : DE X a ta ma) (hb : DE X b tb mb) : DE X (.BinOp a .Add b pos) (tOp rAddD ta tb) (mOp oAdd ma mb) := de_op op_addD simAdd ha hb
theorem de_sub (ha : DE X a ta ma) (hb : DE X b tb mb) : DE X (.BinOp a .Sub b pos) (tOp (rI0 fun i j => .int (i - j)) ta tb) (mOp oSub ma mb) := de_op op_sub simSub ha hb
theorem de_mul (ha : DE X a ta ma) (hb : DE X b tb mb) : DE X (.BinOp a .Mult b pos) (tOp rMulD ta tb) (mOp oMul ma mb) := de_op op_mulD simMul ha hb
theorem de_fdiv (ha : DE X a ta ma) (hb : DE X b tb mb) : DE X (.BinOp a .FloorDiv b pos) (tOp (rI CDivW fun i j => .int (i / j)) ta tb) (mOp oFdiv ma mb) := de_op op_fdivW simFdiv ha hb
theorem de_mod (ha : DE X a ta ma) (hb : DE X b tb mb) : DE X (.BinOp a .Mod b pos) (tOp (rI (fun _ j => 0 < j) fun i j => .int (i % j)) ta tb) (mOp oMod ma mb) := de_op op_mod simMod ha hb
theorem de_pow (ha : DE X a ta ma) (hb : DE X b tb mb) : DE X (.BinOp a .Pow b pos) (tOp (rI CPow fun i j => .int (i ^ j.toNat)) ta tb) (mOp oPow ma mb) := de_op op_pow simPow ha hb
theorem de_neg (ha : DE X a ta ma) : DE X (.UnaryOp .USub a pos) (tUn (rU fun i => .int (-i)) ta) (mUn uNeg ma) := ⟨pe_un un_neg ha.pe, simUn simNeg ha.sim⟩
theorem de_cmp {op : CmpOp} (hv : OpR X (compareOp op) r) (ho : SimO r o) (ha : DE X a ta ma) (hb : DE X b tb mb) (hm : behindInMarks op b = false) : DE X (.Compare a [op] [b] pos) (tOp r ta tb) (mOp o ma mb) := ⟨pe_cmpR hv ha.pe hb.pe hm, simOp ho ha.sim hb.sim⟩
theorem de_ix (ha : DE X a ta ma) (hb : DE X b tb mb) (hs : PlainIx b := by exact fun _ _ => rfl) : DE X (.Subscript a b pos) (tOp (rIx X.K) ta tb) (mOp oIx ma mb) := ⟨pe_ix ix_seq ha.pe hb.pe hs, simOp simIx ha.sim hb.sim⟩
/-- tests -/
def mB (m : ME) : MT := fun ρ Q => m ρ fun d ρ1 => match d with
  | .bl b => Q b ρ1
  | _ => False
theorem simB {t : TE} {m : ME} (h : SimE t m) : SimT (fun σ H Q => t σ H fun x H1 => ∃ c, x = .bl c ∧ Q c H1) (mB m) where
  mono := fun ρ Q Q' q => h.mono _ _ _ fun d ρ1 => by
    cases d <;> first | exact q _ _ | exact id
  run := fun W ρ σ H R D z => h.run W ρ σ H _ D (h.mono _ _ _ (fun d ρ1 q v H' D' S r => by
    cases d with
    | bl b => simp only [Rp] at r; exact ⟨b, r, q H' D' S⟩
    | _ => exact q.elim) z)
theorem dt_val (h : DE X e te me) (he : ∀ whole, isTrue e X.env whole = (do let v ← whole; standAt e.pos; holding [v] (truthy v)) := by exact fun _ => rfl) : DT X e (tB te) (mB me) := ⟨pt_val h.pe he, simB h.sim⟩
theorem dt_cmp {op : CmpOp} (hv : OpR X (compareOp op) r) (ho : SimO r o) (ha : DE X a ta ma) (hb : DE X b tb mb) (hm : behindInMarks op b = false) : DT X (.Compare a [op] [b] pos) (tTest (tOp r ta tb)) (mB (mOp o ma mb)) := ⟨pt_cmpR hv ha.pe hb.pe hm, simB (simOp ho ha.sim hb.sim)⟩
variable {uA uB uC : TT} {nA nB nC : MT}
def mTNot (m : MT) : MT := fun ρ Q => m ρ fun c ρ1 => Q (!c) ρ1
def mTAnd (m m' : MT) : MT := fun ρ Q => m ρ fun c ρ1 => if c = true then m' ρ1 Q else Q false ρ1
def mTOr (m m' : MT) : MT := fun ρ Q => m ρ fun c ρ1 => if c = true then Q true ρ1 else m' ρ1 Q
theorem simTNot (h : SimT uA nA) : SimT (tNot uA) (mTNot nA) where
  mono := fun ρ Q Q' q => h.mono _ _ _ fun c => q _
  run := fun W ρ σ H R D z => h.run W ρ σ H _ D (h.mono _ _ _ (fun c ρ1 q => q) z)
theorem simTAnd (h : SimT uA nA) (h' : SimT uB nB) : SimT (tAnd uA uB) (mTAnd nA nB) where
  mono := fun ρ Q Q' q => h.mono _ _ _ fun c ρ1 z => by
    cases c
    · exact q _ _ z
    · exact h'.mono _ _ _ q z
  run := fun W ρ σ H R D z => h.run W ρ σ H _ D (h.mono _ _ _ (fun c ρ1 q H1 D1 S1 => by
    cases c
    · exact q H1 D1 S1
    · exact h'.run W ρ1 σ H1 _ D1 (h'.mono _ _ _ (fun c2 ρ2 q2 H2 D2 S2 => q2 H2 D2 (S1.trans S2)) q)) z)
theorem simTOr (h : SimT uA nA) (h' : SimT uB nB) : SimT (tOr uA uB) (mTOr nA nB) where
  mono := fun ρ Q Q' q => h.mono _ _ _ fun c ρ1 z => by
    cases c
    · exact h'.mono _ _ _ q z
    · exact q _ _ z
  run := fun W ρ σ H R D z => h.run W ρ σ H _ D (h.mono _ _ _ (fun c ρ1 q H1 D1 S1 => by
    cases c
    · exact h'.run W ρ1 σ H1 _ D1 (h'.mono _ _ _ (fun c2 ρ2 q2 H2 D2 S2 => q2 H2 D2 (S1.trans S2)) q)
    · exact q H1 D1 S1) z)
theorem dt_not (h : DT X a uA nA) : DT X (.UnaryOp .Not a pos) (tNot uA) (mTNot nA) := ⟨pt_not h.pt, simTNot h.sim⟩
theorem dw_and1 (h : DT X a uA nA) : DW X (.BoolOp .And [a] pos) uA nA := ⟨pw_and1 h.pt, h.sim⟩
theorem dw_or1 (h : DT X a uA nA) : DW X (.BoolOp .Or [a] pos) uA nA := ⟨pw_or1 h.pt, h.sim⟩
theorem dw_and (h : DT X a uA nA) (h' : DW X (.BoolOp .And (b :: es) pos) uB nB) : DW X (.BoolOp .And (a :: b :: es) pos) (tAnd uA uB) (mTAnd nA nB) := ⟨pw_and h.pt h'.pw, simTAnd h.sim h'.sim⟩
theorem dw_or (h : DT X a uA nA) (h' : DW X (.BoolOp .Or (b :: es) pos) uB nB) : DW X (.BoolOp .Or (a :: b :: es) pos) (tOr uA uB) (mTOr nA nB) := ⟨pw_or h.pt h'.pw, simTOr h.sim h'.sim⟩
theorem DW.dt (h : DW X e uA nA) : DT X e uA nA := ⟨h.pw.pt, h.sim⟩
/-- and, or, not as values -/
def mAnd (ma mb : ME) : ME := fun ρ Q => ma ρ fun x ρ1 => match x with
  | .bl b => if b = true then mb ρ1 Q else Q (.bl false) ρ1
  | _ => False
def mOr (ma mb : ME) : ME := fun ρ Q => ma ρ fun x ρ1 => match x with
  | .bl b => if b = true then Q (.bl true) ρ1 else mb ρ1 Q
  | _ => False
theorem simAnd (h : SimE ta ma) (h' : SimE tb mb) : SimE (tAndV ta tb) (mAnd ma mb) where
  mono := fun ρ Q Q' q => h.mono _ _ _ fun c ρ1 z => by
    cases c with
    | bl b =>
      cases b
      · exact q _ _ z
      · exact h'.mono _ _ _ q z
    | _ => exact z.elim
  run := fun W ρ σ H R D z => h.run W ρ σ H _ D (h.mono _ _ _ (fun c ρ1 q v H1 D1 S1 r => by
    cases c with
    | bl b =>
      have r0 := r
      simp only [Rp] at r
      refine ⟨b, r, ?_⟩
      cases b
      · rw [if_neg Bool.false_ne_true, ← r]
        exact q v H1 D1 S1 r0
      · rw [if_pos rfl]
        exact h'.run W ρ1 σ H1 _ D1 (h'.mono _ _ _ (fun c2 ρ2 q2 v2 H2 D2 S2 => q2 v2 H2 D2 (S1.trans S2)) q)
    | _ => exact q.elim) z)
theorem simOr (h : SimE ta ma) (h' : SimE tb mb) : SimE (tOrV ta tb) (mOr ma mb) where
  mono := fun ρ Q Q' q => h.mono _ _ _ fun c ρ1 z => by
    cases c with
    | bl b =>
      cases b
      · exact h'.mono _ _ _ q z
      · exact q _ _ z
    | _ => exact z.elim
  run := fun W ρ σ H R D z => h.run W ρ σ H _ D (h.mono _ _ _ (fun c ρ1 q v H1 D1 S1 r => by
    cases c with
    | bl b =>
      have r0 := r
      simp only [Rp] at r
      refine ⟨b, r, ?_⟩
      cases b
      · rw [if_neg Bool.false_ne_true]
        exact h'.run W ρ1 σ H1 _ D1 (h'.mono _ _ _ (fun c2 ρ2 q2 v2 H2 D2 S2 => q2 v2 H2 D2 (S1.trans S2)) q)
      · rw [if_pos rfl, ← r]
        exact q v H1 D1 S1 r0
    | _ => exact q.elim) z)
def uNot : MU := fun x k => match x with
  | .bl b => k (.bl (!b))
  | _ => False
theorem simNot (h : SimE ta ma) : SimE (tNotV ta) (mUn uNot ma) where
  mono := fun ρ Q Q' q => h.mono _ _ _ fun c ρ1 z => by
    cases c <;> first | exact q _ _ z | exact z.elim
  run := fun W ρ σ H R D z => h.run W ρ σ H _ D (h.mono _ _ _ (fun c ρ1 q v H1 D1 S1 r => by
    cases c with
    | bl b =>
      simp only [Rp] at r
      exact ⟨b, r, q _ H1 D1 S1 (by simp only [Rp])⟩
    | _ => exact q.elim) z)
theorem de_one {op} (h : DE X a ta ma) : DE X (.BoolOp op [a] pos) ta ma := ⟨pe_one h.pe, h.sim⟩
theorem de_and (ha : DE X a ta ma) (hb : DE X (.BoolOp .And (b :: es) pos) tb mb) : DE X (.BoolOp .And (a :: b :: es) pos) (tAndV ta tb) (mAnd ma mb) := ⟨pe_and ha.pe hb.pe, simAnd ha.sim hb.sim⟩
theorem de_or (ha : DE X a ta ma) (hb : DE X (.BoolOp .Or (b :: es) pos) tb mb) : DE X (.BoolOp .Or (a :: b :: es) pos) (tOrV ta tb) (mOr ma mb) := ⟨pe_or ha.pe hb.pe, simOr ha.sim hb.sim⟩
theorem de_not (ha : DE X a ta ma) : DE X (.UnaryOp .Not a pos) (tNotV ta) (mUn uNot ma) := ⟨pe_not ha.pe, simNot ha.sim⟩
def mIf (n : MT) (ma mb : ME) : ME := fun ρ Q => n ρ fun c ρ1 => if c = true then ma ρ1 Q else mb ρ1 Q
theorem simIf (h : SimT uA nA) (ha : SimE ta ma) (hb : SimE tb mb) : SimE (tIf uA ta tb) (mIf nA ma mb) where
  mono := fun ρ Q Q' q => h.mono _ _ _ fun c ρ1 z => by
    cases c
    · exact hb.mono _ _ _ q z
    · exact ha.mono _ _ _ q z
  run := fun W ρ σ H R D z => h.run W ρ σ H _ D (h.mono _ _ _ (fun c ρ1 q H1 D1 S1 => by
    cases c
    · exact hb.run W ρ1 σ H1 _ D1 (hb.mono _ _ _ (fun c2 ρ2 q2 v H2 D2 S2 => q2 v H2 D2 (S1.trans S2)) q)
    · exact ha.run W ρ1 σ H1 _ D1 (ha.mono _ _ _ (fun c2 ρ2 q2 v H2 D2 S2 => q2 v H2 D2 (S1.trans S2)) q)) z)
theorem de_if (hc : DT X c uC nC) (ha : DE X a ta ma) (hb : DE X b tb mb) : DE X (.IfExp c a b pos) (tIf uC ta tb) (mIf nC ma mb) := ⟨pe_ifExp hc.pt ha.pe hb.pe, simIf hc.sim ha.sim hb.sim⟩

/-! ### argument lists, displays -/
def mNil : MA := fun ρ Q => Q [] ρ
def mCons (m : ME) (n : MA) : MA := fun ρ Q => m ρ fun x ρ1 => n ρ1 fun xs ρ2 => Q (x :: xs) ρ2
theorem simNil : SimA tNil mNil := ⟨fun _ _ _ q => q _ _, fun W ρ σ H R D z => z [] H D .refl .nil⟩
theorem simCons {t : TA} {n : MA} (h : SimE te me) (h' : SimA t n) : SimA (tCons te t) (mCons me n) where
  mono := fun ρ Q Q' q => h.mono _ _ _ fun x ρ1 => h'.mono _ _ _ fun xs ρ2 => q _ _
  run := fun W ρ σ H R D z => h.run W ρ σ H _ D (h.mono _ _ _ (fun x ρ1 q v H1 D1 S1 r1 => h'.run W ρ1 σ H1 _ D1 (h'.mono _ _ _ (fun xs ρ2 q vs H2 D2 S2 r2 =>
    q (v :: vs) H2 D2 (S1.trans S2) (.cons (r1.step S2) r2)) q)) z)
variable {t : TA} {n : MA}
theorem da_nil : DA X [] tNil mNil := ⟨pa_nil, simNil⟩
theorem da_cons (h : DE X e te me) (h' : DA X es t n) (hs : starEach (e :: es) X.env = (false, eval e X.env) :: starEach es X.env := by exact rfl) : DA X (e :: es) (tCons te t) (mCons me n) := ⟨pa_cons h.pe h'.pa hs, simCons h.sim h'.sim⟩
def mTup (n : MA) : ME := fun ρ Q => n ρ fun xs ρ1 => xs.length ≤ sizeLine ∧ Q (.tup xs) ρ1
def mLst (n : MA) : ME := fun ρ Q => n ρ fun xs ρ1 => xs.length ≤ sizeLine ∧ Q (.lst xs) ρ1
theorem simTup (h : SimA t n) : SimE (tTup t) (mTup n) where
  mono := fun ρ Q Q' q => h.mono _ _ _ fun x ρ1 z => ⟨z.1, q _ _ z.2⟩
  run := fun W ρ σ H R D z => h.run W ρ σ H _ D (h.mono _ _ _ (fun xs ρ1 q vs H1 D1 S1 r1 => ⟨by rw [r1.length]; exact q.1, fun p hp => by
    obtain ⟨D', S⟩ := D1.alloc (o := .tup vs) hp
    exact q.2 _ _ D' (S1.trans S) (D1.new_tup hp r1)⟩) z)
theorem simLst (h : SimA t n) : SimE (tLst t) (mLst n) where
  mono := fun ρ Q Q' q => h.mono _ _ _ fun x ρ1 z => ⟨z.1, q _ _ z.2⟩
  run := fun W ρ σ H R D z => h.run W ρ σ H _ D (h.mono _ _ _ (fun xs ρ1 q vs H1 D1 S1 r1 => ⟨by rw [r1.length]; exact q.1, fun p hp => by
    obtain ⟨D', S⟩ := D1.alloc (o := .lst vs) hp
    exact q.2 _ _ D' (S1.trans S) (D1.new_lst hp r1)⟩) z)
theorem de_tup {x1} (h : DA X es t n) : DE X (.Tuple es x1 pos) (tTup t) (mTup n) := ⟨pe_tup h.pa, simTup h.sim⟩
theorem de_lst (h : DA X es t n) : DE X (.List es pos) (tLst t) (mLst n) := ⟨pe_lst h.pa, simLst h.sim⟩

/-! ### built-in calls -/
abbrev MC := List Dt → (Dt → Prop) → Prop
structure SimC (r : List V → Hp → VK → Prop) (o : MC) : Prop where
  mono : ∀ xs (k k' : Dt → Prop), (∀ d, k d → k' d) → o xs k → o xs k'
  run : ∀ (W : Wd) (ρ : En) (σ : L2.St) (H : Hp) (R : VK) (ds : List Dt) (vs : List V), DRel W ρ σ H → RpL W.sa (vw W ρ H) ds vs →
    o ds (fun d => ∀ v H', DRel W ρ σ H' → Step W ρ H ρ H' → Rp W.sa (vw W ρ H') d v → R v H') → r vs H R
def mCB (o : MC) (n : MA) : ME := fun ρ Q => n ρ fun xs ρ1 => o xs fun d => Q d ρ1
theorem simCB {r : List V → Hp → VK → Prop} {o : MC} (ho : SimC r o) (h : SimA t n) : SimE (tCB r t) (mCB o n) where
  mono := fun ρ Q Q' q => h.mono _ _ _ fun x ρ1 => ho.mono _ _ _ fun d => q _ _
  run := fun W ρ σ H R D z => h.run W ρ σ H _ D (h.mono _ _ _ (fun xs ρ1 q vs H1 D1 S1 r1 => ho.run W ρ1 σ H1 _ xs vs D1 r1 (ho.mono _ _ _ (fun d q v H2 D2 S2 => q v H2 D2 (S1.trans S2)) q)) z)
theorem de_callB {x : Str} {id : String} {r : List V → Hp → VK → Prop} {o : MC} (hc : CallR X (.builtin id) r) (ho : SimC r o) (hm : X.mg x = none) (ha : DA X (e :: es) t n) (hg : Gl X x := by exact rfl) (hv : bootBuiltins x = some (.builtin id) := by decide +kernel)
    (hn : x ≠ "__name__" := by decide) (hdb : (x == ("__debug__" : Str)) = false := by decide)
    (he : starEach (e :: es) X.env = (false, eval e X.env) :: starEach es X.env := by exact rfl) (hpl : (backTo pos (starEach es X.env)).any (·.1) = false := by exact rfl) : DE X (.Call (.Name x p) (e :: es) [] pos) (tCB r t) (mCB o n) :=
  ⟨pe_callB hc hg hm hv ha.pa hn hdb he hpl, simCB ho ha.sim⟩
theorem de_callTy {x : Str} {T : String} {r : List V → Hp → VK → Prop} {o : MC} (hc : CallR X (.type T) r) (ho : SimC r o) (hm : X.mg x = none) (ha : DA X (e :: es) t n) (hg : Gl X x := by exact rfl) (hv : bootBuiltins x = some (.type T) := by decide +kernel)
    (hn : x ≠ "__name__" := by decide) (hdb : (x == ("__debug__" : Str)) = false := by decide)
    (he : starEach (e :: es) X.env = (false, eval e X.env) :: starEach es X.env := by exact rfl) (hpl : (backTo pos (starEach es X.env)).any (·.1) = false := by exact rfl) : DE X (.Call (.Name x p) (e :: es) [] pos) (tCB r t) (mCB o n) :=
  ⟨pe_callTy hc hg hm hv ha.pa hn hdb he hpl, simCB ho ha.sim⟩
end
end DL

set_option Elab.async false
set_option linter.all false
set_option maxRecDepth 100000
set_option maxHeartbeats 1000000
set_option autoImplicit false
/-! DL3: built-ins, own calls, statements, loops, comprehensions. -/
namespace DL
open PySem PySem.Spec L2

/-! ### isinstance -/
inductive Ty where | non | bool | int | str | tup | lst | dct
deriving DecidableEq
def Ty.name : Ty → String
  | .non => "NoneType" | .bool => "bool" | .int => "int" | .str => "str" | .tup => "tuple" | .lst => "list" | .dct => "dict"
def isiT : Ty → Ty → Bool
  | .bool, .int => true
  | .non, .non => true | .bool, .bool => true | .int, .int => true | .str, .str => true | .tup, .tup => true | .lst, .lst => true | .dct, .dct => true
  | _, _ => false
def tyD : Dt → Option Ty
  | .non => some .non | .bl _ => some .bool | .int _ => some .int | .str _ => some .str | .tup _ => some .tup | .lst _ => some .lst | .strm => none
theorem kit_isi : ∀ a b : Ty, b ≠ .non → kitB a.name b.name = some (isiT a b) := by
  intro a b h
  cases b <;> first | exact absurd rfl h | (cases a <;> decide +kernel)
theorem rp_ty {K : PySem.W.Frag} {ss : Option Addr} {h H : Hp} (S : Sub h H) {d : Dt} {v : V} {a : Ty} (e : tyD d = some a) (r : Rp ss h d v) : TyX K H v (.type a.name) := by
  cases d with
  | non => cases e; simp only [Rp] at r; subst r; exact .base .non
  | bl b => cases e; simp only [Rp] at r; subst r; exact .base (.bl b)
  | int b => cases e; simp only [Rp] at r; subst r; exact .base (.int b)
  | str b => cases e; simp only [Rp] at r; subst r; exact .base (.str b)
  | tup b => cases e; simp only [Rp] at r; obtain ⟨p, vs, rfl, g, _⟩ := r; exact .base (.tup (S _ _ g))
  | lst b => cases e; simp only [Rp] at r; obtain ⟨p, vs, rfl, g, _⟩ := r; exact .base (.lst (S _ _ g))
  | strm => cases e
def uIsi (cs : List Ty) : MU := fun x k => match tyD x with
  | some a => k (.bl (cs.any (isiT a)))
  | none => False
theorem kit_any {K : PySem.W.Frag} {a : Ty} : ∀ {cs : List Ty}, (∀ c ∈ cs, c ≠ .non) → PySem.W.kitAny K (.type a.name) (cs.map fun c => Value.type c.name) = some (cs.any (isiT a))
  | [], _ => kitAny_nil
  | c :: cs, h => by
    refine kitAny_cons (b := isiT a c) (kit_ty (kit_isi a c (h c (List.mem_cons_self ..)))) (fun e => ?_) (fun e => ?_)
    · rw [List.any_cons, e, Bool.false_or]
      exact kit_any fun c hc => h c (List.mem_cons_of_mem _ hc)
    · rw [List.any_cons, e, Bool.true_or]
section
variable {X : Cx} {e : Expr} {es : List Expr} {pos p p2 p3 : Pos} {te : TE} {me : ME}
theorem de_isi (c : Ty) {T : Str} (hc : c ≠ .non) (hm : X.mg "isinstance" = none) (hT : X.mg T = none) (he : DE X e te me) (hg : Gl X "isinstance" := by exact rfl) (hgT : Gl X T := by exact rfl) (hv : bootBuiltins T = some (.type c.name) := by decide +kernel)
    (hn : T ≠ "__name__" := by decide) (hd : (T == ("__debug__" : Str)) = false := by decide)
    (hs : starEach [e, .Name T p2] X.env = (false, eval e X.env) :: starEach [.Name T p2] X.env := by exact rfl) (hs2 : starEach [.Name T p2] X.env = (false, eval (.Name T p2) X.env) :: starEach [] X.env := by exact rfl)
    (hpl : (backTo pos (starEach [.Name T p2] X.env)).any (·.1) = false := by exact rfl) :
    DE X (.Call (.Name "isinstance" p) [e, .Name T p2] [] pos) (tCB (rIsi X.K) (tCons te (tCons (tC (.ty c.name)) tNil))) (mUn (uIsi [c]) me) where
  pe := pe_callB call_isi hg hm (by decide +kernel) (pa_cons he.pe (pa_cons (pe_bltn hgT hT hv rfl hn hd) pa_nil hs2) hs) (by decide) (by decide) hs hpl
  sim := ⟨fun ρ Q Q' q => he.sim.mono _ _ _ fun x ρ1 z => by
      unfold uIsi at z ⊢
      split at z
      · exact q _ _ z
      · exact z.elim, fun W ρ σ H R D z => he.sim.run W ρ σ H _ D (he.sim.mono _ _ _ (fun x ρ1 q v H1 D1 S1 r1 => by
      unfold uIsi at q
      split at q
      · rename_i a ea
        refine ⟨v, .ty c.name, .type a.name, .type c.name, isiT a c, rfl, .ty _, rp_ty vw_sub ea r1, kit_ty (kit_isi a c hc), ?_⟩
        have q := q (.bl (isiT a c)) H1 D1 S1 (by simp only [Rp, List.any_cons, List.any_nil, Bool.or_false])
        exact q
      · exact q.elim) z)⟩
theorem paired_tys : ∀ cs : List Ty, Paired ClsV (cs.map fun c => V.ty c.name) (cs.map fun c => Value.type c.name)
  | [] => .nil
  | c :: cs => .cons (.ty _) (paired_tys cs)
/-- isinstance(x, (T, ..)) -/
theorem de_isiT (cs : List Ty) {ts : List Expr} {tt : TA} (hc : ∀ c ∈ cs, c ≠ .non) {x1} (hm : X.mg "isinstance" = none) (he : DE X e te me) (ht : PA X ts tt)
    (hq : ∀ σ H Q, Q (cs.map fun c => V.ty c.name) H → tt σ H Q) (hz : (cs.map fun c => V.ty c.name).length ≤ sizeLine) (hg : Gl X "isinstance" := by exact rfl)
    (hs : starEach [e, .Tuple ts x1 p2] X.env = (false, eval e X.env) :: starEach [.Tuple ts x1 p2] X.env := by exact rfl) (hs2 : starEach [.Tuple ts x1 p2] X.env = (false, eval (.Tuple ts x1 p2) X.env) :: starEach [] X.env := by exact rfl)
    (hpl : (backTo pos (starEach [.Tuple ts x1 p2] X.env)).any (·.1) = false := by exact rfl) :
    DE X (.Call (.Name "isinstance" p) [e, .Tuple ts x1 p2] [] pos) (tCB (rIsiT X.K) (tCons te (tCons (tTup tt) tNil))) (mUn (uIsi cs) me) where
  pe := pe_callB call_isiT hg hm (by decide +kernel) (pa_cons he.pe (pa_cons (pe_tup ht) pa_nil hs2) hs) (by decide) (by decide) hs hpl
  sim := ⟨fun ρ Q Q' q => he.sim.mono _ _ _ fun x ρ1 z => by
      unfold uIsi at z ⊢
      split at z
      · exact q _ _ z
      · exact z.elim, fun W ρ σ H R D z => he.sim.run W ρ σ H _ D (he.sim.mono _ _ _ (fun x ρ1 q v H1 D1 S1 r1 => by
      unfold uIsi at q
      split at q
      · rename_i a ea
        refine hq _ _ _ ⟨hz, fun tp htp => ?_⟩
        obtain ⟨D2, S2⟩ := D1.alloc (o := .tup (cs.map fun c => V.ty c.name)) htp
        refine ⟨v, tp, cs.map fun c => V.ty c.name, .type a.name, cs.map fun c => .type c.name, cs.any (isiT a), rfl, upd_same, paired_tys cs, rp_ty vw_sub ea (r1.step S2), kit_any hc, ?_⟩
        exact q _ _ D2 (S1.trans S2) (by simp only [Rp])
      · exact q.elim) z)⟩
end
/-! ### len, abs, int, tuple, list, all -/
def cLen : MC := fun xs k => match xs with
  | [d] => match seqOf d with
    | some ys => k (.int ys.length)
    | none => False
  | _ => False
theorem simLen {K : PySem.W.Frag} : SimC (fun xs H Q => ∃ p ys, xs = [.ref p] ∧ (SqL K H p ys ∨ SqT K H p ys) ∧ Q (.int ys.length) H) cLen where
  mono := fun xs k k' h => by
    unfold cLen
    split
    · split
      · exact h _
      · exact id
    · exact id
  run := fun W ρ σ H R ds vs D r h => by
    unfold cLen at h
    split at h
    · split at h
      · rename_i d ys e
        obtain ⟨v, t, rfl, r1, r2⟩ := r.inv_cons
        rw [r2.inv_nil]
        obtain ⟨p, ws, rfl, q, r⟩ := rp_seq (K := K) e r1
        refine ⟨p, ws, rfl, sq_up vw_sub q, ?_⟩
        rw [r.length]
        exact h _ H D .refl (by simp only [Rp])
      · exact h.elim
    · exact h.elim
def cAbs : MC := fun xs k => match xs with
  | [.int i] => k (.int (if i < 0 then -i else i))
  | _ => False
theorem simAbs : SimC (fun xs H Q => ∃ i, xs = [.int i] ∧ Q (.int (if i < 0 then -i else i)) H) cAbs where
  mono := fun xs k k' h => by
    unfold cAbs
    split
    · exact h _
    · exact id
  run := fun W ρ σ H R ds vs D r h => by
    unfold cAbs at h
    split at h
    · rename_i i
      obtain ⟨v, t, rfl, r1, r2⟩ := r.inv_cons
      rw [r2.inv_nil]
      simp only [Rp] at r1
      exact ⟨i, by rw [r1], h _ H D .refl (by simp only [Rp])⟩
    · exact h.elim
def cInt : MC := fun xs k => match xs with
  | [.int i] => k (.int i)
  | [.bl b] => k (.int (if b then 1 else 0))
  | _ => False
theorem simInt : SimC (fun xs H Q => (∃ i, xs = [.int i] ∧ Q (.int i) H) ∨ ∃ k, xs = [.bl k] ∧ Q (.int (if k then 1 else 0)) H) cInt where
  mono := fun xs k k' h => by
    unfold cInt
    split
    · exact h _
    · exact h _
    · exact id
  run := fun W ρ σ H R ds vs D r h => by
    unfold cInt at h
    split at h
    · rename_i i
      obtain ⟨v, t, rfl, r1, r2⟩ := r.inv_cons
      rw [r2.inv_nil]
      simp only [Rp] at r1
      exact .inl ⟨i, by rw [r1], h _ H D .refl (by simp only [Rp])⟩
    · rename_i i
      obtain ⟨v, t, rfl, r1, r2⟩ := r.inv_cons
      rw [r2.inv_nil]
      simp only [Rp] at r1
      exact .inr ⟨i, by rw [r1], h _ H D .refl (by simp only [Rp])⟩
    · exact h.elim
def cTuple : MC := fun xs k => match xs with
  | [d] => match seqOf d with
    | some ys => k (.tup ys)
    | none => False
  | _ => False
theorem simTuple {K : PySem.W.Frag} : SimC (fun xs H Q => ∃ p ys, xs = [.ref p] ∧ ((SqL K H p ys ∧ ∀ l, H l = none → Q (.ref l) (upd H l (.tup ys))) ∨ (SqT K H p ys ∧ Q (.ref p) H))) cTuple where
  mono := fun xs k k' h => by
    unfold cTuple
    split
    · split
      · exact h _
      · exact id
    · exact id
  run := fun W ρ σ H R ds vs D r h => by
    unfold cTuple at h
    split at h
    · rename_i d
      obtain ⟨v, t, rfl, r1, r2⟩ := r.inv_cons
      rw [r2.inv_nil]
      cases d with
      | lst ys =>
        have h : _ := h
        simp only [seqOf] at h
        simp only [Rp] at r1
        obtain ⟨a, us, rfl, g, q⟩ := r1
        refine ⟨a, us, rfl, .inl ⟨SqL.of (vw_sub _ _ g), fun l hl => ?_⟩⟩
        obtain ⟨D', S⟩ := D.alloc (o := .tup us) hl
        exact h _ _ D' S (D.new_tup hl q)
      | tup ys =>
        simp only [seqOf] at h
        have r0 := r1
        simp only [Rp] at r1
        obtain ⟨a, us, rfl, g, q⟩ := r1
        exact ⟨a, us, rfl, .inr ⟨SqT.of (vw_sub _ _ g), h _ H D .refl r0⟩⟩
      | _ => simp [seqOf] at h
    · exact h.elim
def cList : MC := fun xs k => match xs with
  | [d] => match seqOf d with
    | some ys => k (.lst ys)
    | none => False
  | _ => False
theorem simList {K : PySem.W.Frag} : SimC (fun xs H Q => ∃ p ys, xs = [.ref p] ∧ (SqL K H p ys ∨ SqT K H p ys) ∧ ∀ l, H l = none → Q (.ref l) (upd H l (.lst ys))) cList where
  mono := fun xs k k' h => by
    unfold cList
    split
    · split
      · exact h _
      · exact id
    · exact id
  run := fun W ρ σ H R ds vs D r h => by
    unfold cList at h
    split at h
    · split at h
      · rename_i d ys e
        obtain ⟨v, t, rfl, r1, r2⟩ := r.inv_cons
        rw [r2.inv_nil]
        obtain ⟨p, ws, rfl, q, r⟩ := rp_seq (K := K) e r1
        refine ⟨p, ws, rfl, sq_up vw_sub q, fun l hl => ?_⟩
        obtain ⟨D', S⟩ := D.alloc (o := .lst ws) hl
        exact h _ _ D' S (D.new_lst hl r)
      · exact h.elim
    · exact h.elim
def blOf : Dt → Option Bool
  | .bl b => some b
  | _ => none
/-- the truth values of a list of them -/
def blsOf : List Dt → Option (List Bool)
  | [] => some []
  | d :: ds => match blOf d, blsOf ds with
    | some b, some bs => some (b :: bs)
    | _, _ => none
theorem rp_bls {ss : Option Addr} {h : Hp} : ∀ {ds : List Dt} {vs : List V} {bs : List Bool}, blsOf ds = some bs → RpL ss h ds vs → vs = bs.map V.bl
  | [], vs, bs, e, r => by cases e; exact r.inv_nil
  | d :: ds, vs, bs, e, r => by
    unfold blsOf at e
    split at e
    · rename_i b cs e1 e2
      cases e
      obtain ⟨v, t, rfl, r1, r2⟩ := r.inv_cons
      cases d <;> simp [blOf] at e1
      subst e1
      simp only [Rp] at r1
      rw [r1, rp_bls e2 r2]
      rfl
    · cases e
def cAll : MC := fun xs k => match xs with
  | [.lst ds] => match blsOf ds with
    | some bs => k (.bl (bs.all id))
    | none => False
  | _ => False
def cAny : MC := fun xs k => match xs with
  | [.lst ds] => match blsOf ds with
    | some bs => k (.bl (bs.any id))
    | none => False
  | _ => False
theorem simAll {K : PySem.W.Frag} : SimC (rAll K) cAll where
  mono := fun xs k k' h => by
    unfold cAll
    split
    · split
      · exact h _
      · exact id
    · exact id
  run := fun W ρ σ H R ds vs D r h => by
    unfold cAll at h
    split at h
    · split at h
      · rename_i ys bs e
        obtain ⟨v, t, rfl, r1, r2⟩ := r.inv_cons
        rw [r2.inv_nil]
        simp only [Rp] at r1
        obtain ⟨a, us, rfl, g, q⟩ := r1
        have := rp_bls e q
        subst this
        exact ⟨a, bs, rfl, SqL.of (vw_sub _ _ g), h _ H D .refl (by simp only [Rp])⟩
      · exact h.elim
    · exact h.elim
theorem simAny {K : PySem.W.Frag} : SimC (rAny K) cAny where
  mono := fun xs k k' h => by
    unfold cAny
    split
    · split
      · exact h _
      · exact id
    · exact id
  run := fun W ρ σ H R ds vs D r h => by
    unfold cAny at h
    split at h
    · split at h
      · rename_i ys bs e
        obtain ⟨v, t, rfl, r1, r2⟩ := r.inv_cons
        rw [r2.inv_nil]
        simp only [Rp] at r1
        obtain ⟨a, us, rfl, g, q⟩ := r1
        have := rp_bls e q
        subst this
        exact ⟨a, bs, rfl, SqL.of (vw_sub _ _ g), h _ H D .refl (by simp only [Rp])⟩
      · exact h.elim
    · exact h.elim

/-! ### own defs -/
/-- what a def asks of its data and the draws so far, and of what follows -/
abbrev Spc := List Dt → Nat → (Dt → Nat → Prop) → Prop
def MonoS (S : Spc) : Prop := ∀ ds n (k k' : Dt → Nat → Prop), (∀ d m, k d m → k' d m) → S ds n k → S ds n k'
def dSp (S : Spc) : Sp := fun vs H Q _ => ∃ (W : Wd) (n : Nat) (ds : List Dt), W.J n H ∧ RpL W.sa (hid W.M H) ds vs ∧ S ds n fun d n' => ∀ v H', W.J n' H' → (∀ a o, a ∉ W.M → H a = some o → H' a = some o) → (∀ a, H a ≠ none → H' a ≠ none) → Rp W.sa (hid W.M H') d v → Q v H'
/-- a def that may be called: it keeps its promise -/
structure Cal (P : Program) (w : World) (K : PySem.W.Frag) (mg : Str → Option Value) (base : Heap) (k : Nat) (x : Str) (ps : List Str) (S : Spc) (f : Addr) (fd : FuncData) : Prop where
  ok : FnOk P w K mg base CX0 k f fd ps (dSp S)
  mg : mg x = some (.ref f)
  kp : PySem.W.keepIn K (.ref f) = true
  bd : Binds K fd ps []
  mono : MonoS S
def mCall (S : Spc) (n : MA) : ME := fun ρ Q => n ρ fun ds ρ1 => S ds ρ1.n fun d m => Q d ⟨m, ρ1.sl⟩
/-- the callee's world: what is the frame's own must stay -/
def Wd.inn (W : Wd) (ρ : En) (H : Hp) : Wd := ⟨W.ss, owns ρ.sl ++ W.fz, H⟩
theorem DRel.inn {W : Wd} {ρ : En} {σ : L2.St} {H : Hp} (D : DRel W ρ σ H) : (W.inn ρ H).J ρ.n H := by
  refine ⟨fun a ha => ⟨rfl, ?_⟩, ?_⟩
  · rcases List.mem_append.mp ha with h | h
    · exact D.live (.inr h)
    · exact D.live (.inl (List.mem_append_right _ h))
  · obtain ⟨ss, fz, H0⟩ := W
    cases ss with
    | none => trivial
    | some p =>
      obtain ⟨s, c⟩ := p
      obtain ⟨_, h1, h2, h3⟩ := D.j
      have no : ∀ a, a ∈ (⟨some (s, c), fz, H0⟩ : Wd).M → a ∉ owns ρ.sl := fun a ha q => by
        obtain ⟨i, xs, e⟩ := mem_owns.mp q
        exact (D.own i a xs e).2.1 ha
      refine ⟨h1, fun q => ?_, fun q => ?_⟩
      · rcases List.mem_append.mp q with q | q
        · exact no s (by simp [Wd.M, ssM]) q
        · exact h2 q
      · rcases List.mem_append.mp q with q | q
        · exact no c (by simp [Wd.M, ssM]) q
        · exact h3 q
theorem inn_mem {W : Wd} {ρ : En} {H : Hp} {a : Addr} : a ∈ (W.inn ρ H).M ↔ a ∈ W.M ∨ a ∈ owns ρ.sl := by
  simp only [Wd.M, Wd.inn, List.mem_append]
  constructor
  · rintro (h | h | h)
    · exact .inl (.inl h)
    · exact .inr h
    · exact .inl (.inr h)
  · rintro ((h | h) | h)
    · exact .inl h
    · exact .inr (.inr h)
    · exact .inr (.inl h)
theorem inn_vw {W : Wd} {ρ : En} {H G : Hp} : hid (W.inn ρ G).M H = vw W ρ H := by
  funext a
  show (if a ∈ (W.inn ρ G).M then none else H a) = (if a ∈ W.M ++ owns ρ.sl then none else H a)
  by_cases h : a ∈ (W.inn ρ G).M
  · rw [if_pos h, if_pos (List.mem_append.mpr (inn_mem.mp h))]
  · rw [if_neg h, if_neg fun q => h (inn_mem.mpr (List.mem_append.mp q))]
/-- behind a callee -/
theorem DRel.back {W : Wd} {ρ : En} {σ : L2.St} {H H' : Hp} {m : Nat} (D : DRel W ρ σ H) (j : (W.inn ρ H).J m H') (hx : ∀ a o, a ∉ (W.inn ρ H).M → H a = some o → H' a = some o) (hd : ∀ a, H a ≠ none → H' a ≠ none) :
    DRel W ⟨m, ρ.sl⟩ σ H' ∧ Step W ρ H ⟨m, ρ.sl⟩ H' := by
  have S : Step W ρ H ⟨m, ρ.sl⟩ H' := ⟨fun a o h1 h2 e => hx a o (fun q => (inn_mem.mp q).elim h1 h2) e, hd, fun a h => .inl h⟩
  refine ⟨⟨D.len, ⟨fun a ha => ?_, ?_⟩, fun i x e => ?_, fun i a xs e => ?_, D.inj⟩, S⟩
  · have h1 := (j.1 a (List.mem_append_right _ ha)).1
    have h2 := D.j.1 a ha
    exact ⟨h1.trans h2.1, h2.2⟩
  · obtain ⟨ss, fz, H0⟩ := W
    cases ss with
    | none => trivial
    | some p =>
      obtain ⟨s, c⟩ := p
      obtain ⟨_, h1, h2, h3⟩ := j
      exact ⟨h1, fun q => h2 (List.mem_append_right _ q), fun q => h3 (List.mem_append_right _ q)⟩
  · obtain ⟨v, h1, h2⟩ := D.dat i x e
    exact ⟨v, h1, h2.step S⟩
  · obtain ⟨h1, h2, vs, h3, h4⟩ := D.own i a xs e
    refine ⟨h1, h2, vs, ?_, h4.step S⟩
    have := (j.1 a (List.mem_append_left _ (mem_owns.mpr ⟨i, xs, e⟩))).1
    exact this.trans h3
theorem simCall {S : Spc} {t : TA} {n : MA} {E : XK} (hS : MonoS S) (h : SimA t n) : SimE (tCall (dSp S) [] E t) (mCall S n) where
  mono := fun ρ Q Q' q => h.mono _ _ _ fun ds ρ1 => hS _ _ _ _ fun d m => q _ _
  run := fun W ρ σ H R D z => h.run W ρ σ H _ D (h.mono _ _ _ (fun ds ρ1 q vs H1 D1 S1 r1 => by
    refine ⟨W.inn ρ1 H1, ρ1.n, ds, D1.inn, ?_, hS _ _ _ _ (fun d m k v H2 j hx hd r => ?_) q⟩
    · rw [List.append_nil, inn_vw]; exact r1
    · obtain ⟨D2, S2⟩ := D1.back j hx hd
      exact k v H2 D2 (S1.trans S2) (by rw [inn_vw] at r; exact r)) z)
section
variable {X : Cx} {e : Expr} {es : List Expr} {pos p : Pos} {t : TA} {n : MA} {k : Nat} {x : Str} {ps : List Str} {S : Spc} {f : Addr} {fd : FuncData}
theorem de_call (c : Cal X.prog X.w X.K X.mg X.base k x ps S f fd) (hr : Room k X.A) (ha : DA X (e :: es) t n) (hg : Gl X x := by exact rfl) (hdb : (x == ("__debug__" : Str)) = false := by decide) (he : starEach (e :: es) X.env = (false, eval e X.env) :: starEach es X.env := by exact rfl)
    (hpl : (backTo pos (starEach es X.env)).any (·.1) = false := by exact rfl) : DE X (.Call (.Name x p) (e :: es) [] pos) (tCall (dSp S) [] E0 t) (mCall S n) :=
  ⟨pe_call c.ok hr hg c.mg c.kp c.bd .nil pass0 ha.pa hdb he hpl, simCall c.mono ha.sim⟩
end
end DL

set_option Elab.async false
set_option linter.all false
set_option maxRecDepth 100000
set_option maxHeartbeats 1000000
set_option autoImplicit false
/-! DL4: statements, loops, comprehensions, defs. -/
namespace DL
open PySem PySem.Spec L2

/-- what is wanted behind a statement -/
structure DEnds where
  nx : En → Prop
  rt : Dt → Nat → Prop
  bk : En → Prop := fun _ => False
  ct : En → Prop := fun _ => False
abbrev MS := DEnds → En → Prop
structure DEnds.Le (D D' : DEnds) : Prop where
  nx : ∀ ρ, D.nx ρ → D'.nx ρ
  rt : ∀ d n, D.rt d n → D'.rt d n
  bk : ∀ ρ, D.bk ρ → D'.bk ρ
  ct : ∀ ρ, D.ct ρ → D'.ct ρ
/-- what a return leaves -/
def Ret (W : Wd) (ρ : En) (H : Hp) (d : Dt) (n : Nat) (v : V) (H' : Hp) : Prop :=
  W.J n H' ∧ (∀ a o, a ∉ W.M → a ∉ owns ρ.sl → H a = some o → H' a = some o) ∧ (∀ a, H a ≠ none → H' a ≠ none) ∧ Rp W.sa (hid W.M H') d v
/-- the hand layer's ends, seen from the state (W, ρ, H) -/
def look (W : Wd) (ρ : En) (H : Hp) (D : Ends) : DEnds where
  nx := fun ρ' => ∀ σ' H', DRel W ρ' σ' H' → Step W ρ H ρ' H' → D.nx σ' H'
  rt := fun d n => ∀ v H', Ret W ρ H d n v H' → D.rt v H'
  bk := fun ρ' => ∀ σ' H', DRel W ρ' σ' H' → Step W ρ H ρ' H' → D.bk σ' H'
  ct := fun ρ' => ∀ σ' H', DRel W ρ' σ' H' → Step W ρ H ρ' H' → D.ct σ' H'
structure SimS (t : TS) (m : MS) : Prop where
  mono : ∀ (D D' : DEnds) (ρ : En), D.Le D' → m D ρ → m D' ρ
  run : ∀ (W : Wd) (ρ : En) (σ : L2.St) (H : Hp) (D : Ends), DRel W ρ σ H → m (look W ρ H D) ρ → t D σ H
structure DS (X : Cx) (st : Stmt) (t : TS) (m : MS) : Prop where
  ps : PS X st t
  sim : SimS t m
structure DSs (X : Cx) (st : List Stmt) (t : TS) (m : MS) : Prop where
  ps : PSs X st t
  sim : SimS t m
section
variable {W : Wd} {ρ ρ1 : En} {H H1 : Hp} {σ σ1 : L2.St} {D : Ends}
theorem Ret.back (S : Step W ρ H ρ1 H1) {d : Dt} {n : Nat} {v : V} {H' : Hp} (r : Ret W ρ1 H1 d n v H') : Ret W ρ H d n v H' :=
  ⟨r.1, fun a o hm ho e => r.2.1 a o hm (fun q => by
    rcases S.new a q with z | z
    · exact ho z
    · rw [z] at e; cases e) (S.ext a o hm ho e), fun a e => r.2.2.1 a (S.dom a e), r.2.2.2⟩
/-- later ends are the elder ones -/
theorem look_le (S : Step W ρ H ρ1 H1) : (look W ρ H D).Le (look W ρ1 H1 D) :=
  ⟨fun ρ' h σ' H' d s => h σ' H' d (S.trans s), fun d n h v H' r => h v H' (r.back S), fun ρ' h σ' H' d s => h σ' H' d (S.trans s), fun ρ' h σ' H' d s => h σ' H' d (S.trans s)⟩
theorem DEnds.Le.refl (D : DEnds) : D.Le D := ⟨fun _ h => h, fun _ _ h => h, fun _ h => h, fun _ h => h⟩
end
def mNext : MS := fun D ρ => D.nx ρ
def mSeq (m m' : MS) : MS := fun D ρ => m ⟨fun ρ1 => m' D ρ1, D.rt, D.bk, D.ct⟩ ρ
theorem simNext : SimS tNext mNext := ⟨fun D D' ρ l h => l.nx _ h, fun W ρ σ H D R h => h σ H R .refl⟩
theorem simSeq {t u : TS} {m m' : MS} (h : SimS t m) (h' : SimS u m') : SimS (tSeq t u) (mSeq m m') where
  mono := fun D D' ρ l => h.mono _ _ ρ ⟨fun ρ1 => h'.mono _ _ _ l, l.rt, l.bk, l.ct⟩
  run := fun W ρ σ H D R q => by
    refine h.run W ρ σ H { D with nx := u D } R (h.mono ⟨fun ρ1 => m' (look W ρ H D) ρ1, (look W ρ H D).rt, (look W ρ H D).bk, (look W ρ H D).ct⟩ _ _ ⟨fun ρ1 z σ1 H1 R1 S1 => ?_, fun d n z => z, fun _ z => z, fun _ z => z⟩ q)
    exact h'.run W ρ1 σ1 H1 D R1 (h'.mono _ _ _ (look_le S1) z)
section
variable {X : Cx} {a b c e : Expr} {st : Stmt} {sts body orelse : List Stmt} {es : List Expr} {pos p : Pos} {t u : TS} {m m' : MS} {te : TE} {me : ME} {tc : TT} {mc : MT}
theorem dss_nil : DSs X [] tNext mNext := ⟨pss_nil, simNext⟩
theorem dss_cons (h : DS X st t m) (h' : DSs X sts u m') : DSs X (st :: sts) (tSeq t u) (mSeq m m') := ⟨pss_cons h.ps h'.ps, simSeq h.sim h'.sim⟩
theorem dss_one (h : DS X st t m) : DSs X [st] t m := ⟨pss_one h.ps, h.sim⟩
theorem ds_pass : DS X (.Pass pos) tNext mNext := ⟨ps_pass, simNext⟩
theorem ds_doc {x j pos'} : DS X (.Expr (.Constant (.str x) j pos) pos') tNext mNext := ⟨ps_doc, simNext⟩
def mBreak : MS := fun D ρ => D.bk ρ
def mCont : MS := fun D ρ => D.ct ρ
theorem ds_break : DS X (.Break pos) tBreak mBreak := ⟨ps_break, ⟨fun D D' ρ l h => l.bk _ h, fun W ρ σ H D R h => h σ H R .refl⟩⟩
theorem ds_continue : DS X (.Continue pos) tCont mCont := ⟨ps_continue, ⟨fun D D' ρ l h => l.ct _ h, fun W ρ σ H D R h => h σ H R .refl⟩⟩
/-- a statement that is not reached -/
def mNever : MS := fun _ _ => False
theorem ds_never : DS X st tNever mNever := ⟨ps_never, ⟨fun _ _ _ _ h => h, fun _ _ _ _ _ _ h => h⟩⟩
theorem dss_never : DSs X sts tNever mNever := ⟨pss_never, ⟨fun _ _ _ _ h => h, fun _ _ _ _ _ _ h => h⟩⟩
def mIfS (mc : MT) (m m' : MS) : MS := fun D ρ => mc ρ fun b ρ1 => if b = true then m D ρ1 else m' D ρ1
theorem simIfS (h : SimT tc mc) (h1 : SimS t m) (h2 : SimS u m') : SimS (tIfS tc t u) (mIfS mc m m') where
  mono := fun D D' ρ l => h.mono _ _ _ fun b ρ1 z => by
    cases b
    · exact h2.mono _ _ _ l z
    · exact h1.mono _ _ _ l z
  run := fun W ρ σ H D R q => h.run W ρ σ H _ R (h.mono _ _ _ (fun b ρ1 z H1 R1 S1 => by
    cases b
    · exact h2.run W ρ1 σ H1 D R1 (h2.mono _ _ _ (look_le S1) z)
    · exact h1.run W ρ1 σ H1 D R1 (h1.mono _ _ _ (look_le S1) z)) q)
theorem ds_if (hc : DT X c tc mc) (h1 : DSs X body t m) (h2 : DSs X orelse u m') : DS X (.If c body orelse pos) (tIfS tc t u) (mIfS mc m m') := ⟨ps_if hc.pt h1.ps h2.ps, simIfS hc.sim h1.sim h2.sim⟩
def mRet (me : ME) : MS := fun D ρ => me ρ fun d ρ1 => D.rt d ρ1.n
theorem Rp.out {W : Wd} {ρ : En} {H : Hp} {d : Dt} {v : V} (r : Rp W.sa (vw W ρ H) d v) : Rp W.sa (hid W.M H) d v := r.mono fun a o e => by
  rw [vw_some] at e
  rw [hid_some]
  exact ⟨e.1, e.2.2⟩
theorem simRet (h : SimE te me) : SimS (tRet te) (mRet me) where
  mono := fun D D' ρ l => h.mono _ _ _ fun d ρ1 => l.rt _ _
  run := fun W ρ σ H D R q => h.run W ρ σ H _ R (h.mono _ _ _ (fun d ρ1 z v H1 R1 S1 r => z v H1 ⟨R1.j, S1.ext, S1.dom, r.out⟩) q)
theorem ds_ret (h : DE X e te me) : DS X (.Return (some e) pos) (tRet te) (mRet me) := ⟨ps_ret h.pe, simRet h.sim⟩
def mRetN : MS := fun D ρ => D.rt .non ρ.n
theorem ds_retN : DS X (.Return none pos) tRetN mRetN := ⟨ps_retN, ⟨fun D D' ρ l => l.rt _ _, fun W ρ σ H D R q => q .non H ⟨R.j, fun _ _ _ _ e => e, fun _ e => e, by simp only [Rp]⟩⟩⟩
def mDrop (me : ME) : MS := fun D ρ => me ρ fun _ ρ1 => D.nx ρ1
theorem simDrop (h : SimE te me) : SimS (tDrop te) (mDrop me) where
  mono := fun D D' ρ l => h.mono _ _ _ fun d ρ1 => l.nx _
  run := fun W ρ σ H D R q => h.run W ρ σ H _ R (h.mono _ _ _ (fun d ρ1 z v H1 R1 S1 r => z σ H1 R1 S1) q)
theorem ds_expr (h : DE X e te me) (hs : swapsWith e none pos.line X.env = pure false := by exact rfl) : DS X (.Expr e pos) (tDrop te) (mDrop me) := ⟨ps_expr h.pe hs, simDrop h.sim⟩

/-! ### targets -/
abbrev MG := Dt → En → (En → Prop) → Prop
abbrev MGs := List Dt → En → (En → Prop) → Prop
/-- the slots but those of js stay -/
def Kept (js : List Nat) (σ σ' : L2.St) : Prop := σ'.length = σ.length ∧ ∀ j, j ∉ js → σ'[j]? = σ[j]?
theorem Kept.trans {js ks : List Nat} {σ σ1 σ2 : L2.St} (h : Kept js σ σ1) (h' : Kept ks σ1 σ2) : Kept (js ++ ks) σ σ2 :=
  ⟨h'.1.trans h.1, fun j hj => (h'.2 j fun q => hj (List.mem_append_right _ q)).trans (h.2 j fun q => hj (List.mem_append_left _ q))⟩
structure SimG (g : TG) (m : MG) (js : List Nat) : Prop where
  mono : ∀ d ρ (k k' : En → Prop), (∀ ρ, k ρ → k' ρ) → m d ρ k → m d ρ k'
  run : ∀ (W : Wd) (ρ : En) (σ : L2.St) (H : Hp) (R : L2.St → Hp → Prop) (d : Dt) (v : V), DRel W ρ σ H → Rp W.sa (vw W ρ H) d v → m d ρ (fun ρ' => ∀ σ', DRel W ρ' σ' H → Step W ρ H ρ' H → Kept js σ σ' → R σ' H) → g v σ H R
structure SimGs (g : TGs) (m : MGs) (js : List Nat) : Prop where
  mono : ∀ d ρ (k k' : En → Prop), (∀ ρ, k ρ → k' ρ) → m d ρ k → m d ρ k'
  run : ∀ (W : Wd) (ρ : En) (σ : L2.St) (H : Hp) (R : L2.St → Hp → Prop) (d : List Dt) (v : List V), DRel W ρ σ H → RpL W.sa (vw W ρ H) d v → m d ρ (fun ρ' => ∀ σ', DRel W ρ' σ' H → Step W ρ H ρ' H → Kept js σ σ' → R σ' H) → g v σ H R
def gmName (i : Nat) : MG := fun d ρ k => k (ρ.put i (.d d))
theorem simGName (i : Nat) : SimG (gName i) (gmName i) [i] := ⟨fun d ρ k k' h => h _, fun W ρ σ H R d v D r q => by
  obtain ⟨D', S⟩ := D.set (i := i) r
  exact q _ D' S ⟨List.length_set .., fun j hj => List.getElem?_set_ne fun e => hj (by simp [e])⟩⟩
def gmNil : MGs := fun ds ρ k => match ds with
  | [] => k ρ
  | _ => False
def gmCons (g : MG) (gs : MGs) : MGs := fun ds ρ k => match ds with
  | d :: r => g d ρ fun ρ1 => gs r ρ1 k
  | _ => False
theorem simGNil : SimGs gNil gmNil [] := ⟨fun d ρ k k' h => by
  unfold gmNil
  split
  · exact h _
  · exact id, fun W ρ σ H R d v D r q => by
  unfold gmNil at q
  split at q
  · exact ⟨r.inv_nil, q σ D .refl ⟨rfl, fun _ _ => rfl⟩⟩
  · exact q.elim⟩
theorem simGCons {g : TG} {gs : TGs} {m : MG} {ms : MGs} {js ks : List Nat} (h : SimG g m js) (h' : SimGs gs ms ks) : SimGs (gCons g gs) (gmCons m ms) (js ++ ks) := ⟨fun d ρ k k' q => by
  unfold gmCons
  split
  · exact h.mono _ _ _ _ fun ρ1 => h'.mono _ _ _ _ q
  · exact id, fun W ρ σ H R d v D r q => by
  unfold gmCons at q
  split at q
  · obtain ⟨v, t, rfl, r1, r2⟩ := r.inv_cons
    refine ⟨v, t, rfl, h.run W ρ σ H _ _ v D r1 (h.mono _ _ _ _ (fun ρ1 z σ1 D1 S1 l1 => ?_) q)⟩
    exact h'.run W ρ1 σ1 H _ _ t D1 (r2.step S1) (h'.mono _ _ _ _ (fun ρ2 z σ2 D2 S2 l2 => z σ2 D2 (S1.trans S2) (l1.trans l2)) z)
  · exact q.elim⟩
/-- a tuple into names -/
def gmTup (n : Nat) (gs : MGs) : MG := fun d ρ k => match d with
  | .tup xs => xs.length = n ∧ gs xs ρ k
  | _ => False
theorem simGTup {K : PySem.W.Frag} {n : Nat} {gs : TGs} {ms : MGs} {js : List Nat} (h : SimGs gs ms js) : SimG (gTup K n gs) (gmTup n ms) js := ⟨fun d ρ k k' q => by
  unfold gmTup
  split
  · exact fun ⟨a, b⟩ => ⟨a, h.mono _ _ _ _ q b⟩
  · exact id, fun W ρ σ H R d v D r q => by
  unfold gmTup at q
  split at q
  · simp only [Rp] at r
    obtain ⟨a, vs, rfl, g, r⟩ := r
    exact ⟨a, vs, rfl, SqT.of (vw_sub _ _ g), by rw [r.length]; exact q.1, h.run W ρ σ H _ _ vs D r q.2⟩
  · exact q.elim⟩
/-- a list into names -/
def gmUnl (n : Nat) (gs : MGs) : MG := fun d ρ k => match d with
  | .lst xs => xs.length = n ∧ gs xs ρ k
  | _ => False
theorem simGUnl {K : PySem.W.Frag} {n : Nat} {gs : TGs} {ms : MGs} {js : List Nat} (h : SimGs gs ms js) : SimG (gUnl K n gs) (gmUnl n ms) js := ⟨fun d ρ k k' q => by
  unfold gmUnl
  split
  · exact fun ⟨a, b⟩ => ⟨a, h.mono _ _ _ _ q b⟩
  · exact id, fun W ρ σ H R d v D r q => by
  unfold gmUnl at q
  split at q
  · simp only [Rp] at r
    obtain ⟨a, vs, rfl, g, r⟩ := r
    exact ⟨a, vs, rfl, SqL.of (vw_sub _ _ g), by rw [r.length]; exact q.1, h.run W ρ σ H _ _ vs D r q.2⟩
  · exact q.elim⟩
/-- either -/
def gOr (g g' : TG) : TG := fun v σ H R => g v σ H R ∨ g' v σ H R
theorem pg_or {g g' : TG} {tg : Expr} (h : PG X tg g) (h' : PG X tg g') : PG X tg (gOr g g') := ⟨fun pins s σ H v u Q I r z => z.elim (fun z => h.run pins s σ H v u Q I r z) fun z => h'.run pins s σ H v u Q I r z⟩
/-- a list or a tuple into names -/
def gmSeq (n : Nat) (gs : MGs) : MG := fun d ρ k => match seqOf d with
  | some xs => xs.length = n ∧ gs xs ρ k
  | none => False
theorem simGSeq {K : PySem.W.Frag} {n : Nat} {gs : TGs} {ms : MGs} {js : List Nat} (h : SimGs gs ms js) : SimG (gOr (gTup K n gs) (gUnl K n gs)) (gmSeq n ms) js := ⟨fun d ρ k k' q => by
  unfold gmSeq
  split
  · exact fun ⟨a, b⟩ => ⟨a, h.mono _ _ _ _ q b⟩
  · exact id, fun W ρ σ H R d v D r q => by
  cases d with
  | tup xs => exact .inl ((simGTup h).run W ρ σ H R (.tup xs) v D r q)
  | lst xs => exact .inr ((simGUnl h).run W ρ σ H R (.lst xs) v D r q)
  | _ => exact q.elim⟩
structure DG (X : Cx) (tg : Expr) (g : TG) (m : MG) (js : List Nat) : Prop where
  pg : PG X tg g
  sim : SimG g m js
structure DGs (X : Cx) (tg : List Expr) (g : TGs) (m : MGs) (js : List Nat) : Prop where
  pg : PGs X tg g
  sim : SimGs g m js
theorem dg_name {x : Str} (i : Nat) (hN : X.N.Nodup) (hi : X.N[i]? = some x := by rfl) (hx : Loc X.env.scope x := by first | exact Or.inl rfl | exact Or.inr rfl) (hf : X.fn x = true ∨ X.env.scope.names.lookup x = some .local := by first | exact Or.inl rfl | exact Or.inr rfl) : DG X (.Name x pos) (gName i) (gmName i) [i] := ⟨pg_name hN hi hx hf, simGName i⟩
theorem dgs_nil : DGs X [] gNil gmNil [] := ⟨pgs_nil, simGNil⟩
/-- x = e -/
def mAsg (me : ME) (g : MG) : MS := fun D ρ => me ρ fun d ρ1 => g d ρ1 D.nx
theorem simAsg {g : TG} {mg : MG} {js : List Nat} (h : SimE te me) (hg : SimG g mg js) : SimS (tAsg te g) (mAsg me mg) where
  mono := fun D D' ρ l => h.mono _ _ _ fun d ρ1 => hg.mono _ _ _ _ l.nx
  run := fun W ρ σ H D R q => h.run W ρ σ H _ R (h.mono _ _ _ (fun d ρ1 z v H1 R1 S1 r => hg.run W ρ1 σ H1 _ d v R1 r (hg.mono _ _ _ _ (fun ρ2 z σ2 R2 S2 _ => z σ2 H1 R2 (S1.trans S2)) z)) q)
theorem ds_set {x : Str} {pos' : Pos} (i : Nat) (hN : X.N.Nodup) (he : DE X e te me) (hi : X.N[i]? = some x := by rfl) (hx : Loc X.env.scope x := by first | exact Or.inl rfl | exact Or.inr rfl) (hs : swapsWith e (some (.Name x pos')) pos.line X.env = pure false := by exact rfl)
    (hf : X.fn x = true ∨ X.env.scope.names.lookup x = some .local := by first | exact Or.inl rfl | exact Or.inr rfl) : DS X (.Assign [.Name x pos'] e pos) (tAsg te (gName i)) (mAsg me (gmName i)) := ⟨ps_set hN hi hx he.pe hs hf, simAsg he.sim (simGName i)⟩
theorem ds_asg {tg : Expr} {g : TG} {mg : MG} {js : List Nat} (he : DE X e te me) (hg : DG X tg g mg js) (hs : swapsWithSole [tg] e pos.line X.env = pure false := by exact rfl) (hw : swappedStores [tg] e X.env = pure none := by exact rfl) (h1 : (assignEach [tg] X.env).map (·.2) = [assign tg X.env] := by exact rfl) : DS X (.Assign [tg] e pos) (tAsg te g) (mAsg me mg) :=
  ⟨ps_asg he.pe hg.pg hs hw h1, simAsg he.sim hg.sim⟩
theorem dgs_cons {g : TG} {mg : MG} {gs : TGs} {ms : MGs} {js ks : List Nat} (h : DG X e g mg js) (h' : DGs X es gs ms ks) (hs : (assignEach (e :: es) X.env).map (·.2) = assign e X.env :: (assignEach es X.env).map (·.2) := by exact rfl) : DGs X (e :: es) (gCons g gs) (gmCons mg ms) (js ++ ks) := ⟨pgs_cons h.pg h'.pg hs, simGCons h.sim h'.sim⟩
/-- a, b, .. = a tuple (a list) of that length -/
theorem dg_tup {k : Nat} {gs : TGs} {ms : MGs} {js : List Nat} (n : Nat) (hc : X.calm = true) (h : DGs X es gs ms js) (hn : (assignEach es X.env).length = n := by exact rfl) (hst : (assignEach es X.env).findIdx? (·.1) = none := by exact rfl) : DG X (.Tuple es k pos) (gTup X.K n gs) (gmTup n ms) js :=
  ⟨pg_tup hc h.pg hn hst, simGTup h.sim⟩
theorem dg_seq {k : Nat} {gs : TGs} {ms : MGs} {js : List Nat} (n : Nat) (hc : X.calm = true) (h : DGs X es gs ms js) (hn : (assignEach es X.env).length = n := by exact rfl) (hst : (assignEach es X.env).findIdx? (·.1) = none := by exact rfl) : DG X (.Tuple es k pos) (gOr (gTup X.K n gs) (gUnl X.K n gs)) (gmSeq n ms) js :=
  ⟨pg_or (pg_tup hc h.pg hn hst) (pg_unl hc h.pg hn hst), simGSeq h.sim⟩

/-! ### own lists -/
/-- a list that was just made: at an address of its own -/
abbrev MF := En → (List Dt → En → Prop) → Prop
/-- the list at a stands apart from all that was -/
def Apart (W : Wd) (ρ : En) (H : Hp) (ρ' : En) (σ : L2.St) (a : Addr) (xs : List Dt) (H' : Hp) : Prop :=
  a ∉ W.M ∧ a ∉ owns ρ'.sl ∧ H a = none ∧ (∃ vs, H' a = some (.lst vs) ∧ RpL W.sa (hid (a :: (W.M ++ owns ρ'.sl)) H') xs vs) ∧
  (∀ (j : Nat) x, ρ'.sl[j]? = some (.d x) → ∃ v, σ[j]? = some (some v) ∧ Rp W.sa (hid (a :: (W.M ++ owns ρ'.sl)) H') x v) ∧
  (∀ (j : Nat) b ys, ρ'.sl[j]? = some (.own b ys) → ∃ us, H' b = some (.lst us) ∧ RpL W.sa (hid (a :: (W.M ++ owns ρ'.sl)) H') ys us)
structure SimF (t : TE) (m : MF) : Prop where
  mono : ∀ (ρ : En) (Q Q' : List Dt → En → Prop), (∀ d ρ', Q d ρ' → Q' d ρ') → m ρ Q → m ρ Q'
  run : ∀ (W : Wd) (ρ : En) (σ : L2.St) (H : Hp) (R : VK), DRel W ρ σ H → m ρ (fun xs ρ' => ∀ a H', DRel W ρ' σ H' → Step W ρ H ρ' H' → Apart W ρ H ρ' σ a xs H' → R (.ref a) H') → t σ H R
structure DF (X : Cx) (e : Expr) (t : TE) (m : MF) : Prop where
  pe : PE X e t
  sim : SimF t m
/-- a list laid at a fresh place stands apart -/
theorem apart_new {W : Wd} {ρ ρ1 : En} {H H1 : Hp} {σ : L2.St} {a : Addr} {xs : List Dt} {vs : List V} (D : DRel W ρ1 σ H1) (S : Step W ρ H ρ1 H1) (ha : H1 a = none) (r : RpL W.sa (vw W ρ1 H1) xs vs) : Apart W ρ H ρ1 σ a xs (upd H1 a (.lst vs)) := by
  have sub : Sub (vw W ρ1 H1) (hid (a :: (W.M ++ owns ρ1.sl)) (upd H1 a (.lst vs))) := fun b o e => by
    rw [vw_some] at e
    rw [hid_some]
    have ne : b ≠ a := ne_of_none e.2.2 ha
    exact ⟨by simp [ne, e.1, e.2.1], by rw [upd_ne ne]; exact e.2.2⟩
  refine ⟨(D.fresh ha).1, (D.fresh ha).2, Classical.byContradiction fun q => S.dom a q ha, ⟨vs, upd_same, r.mono sub⟩, fun j x e => ?_, fun j b ys e => ?_⟩
  · obtain ⟨v, h1, h2⟩ := D.dat j x e
    exact ⟨v, h1, h2.mono sub⟩
  · obtain ⟨h1, h2, us, h3, h4⟩ := D.own j b ys e
    exact ⟨us, by rw [upd_ne (ne_of_none h3 ha)]; exact h3, h4.mono sub⟩
def mFLst (n : MA) : MF := fun ρ Q => n ρ fun xs ρ1 => xs.length ≤ sizeLine ∧ Q xs ρ1
theorem simFLst {t : TA} {n : MA} (h : SimA t n) : SimF (tLst t) (mFLst n) where
  mono := fun ρ Q Q' q => h.mono _ _ _ fun x ρ1 z => ⟨z.1, q _ _ z.2⟩
  run := fun W ρ σ H R D z => h.run W ρ σ H _ D (h.mono _ _ _ (fun xs ρ1 q vs H1 D1 S1 r1 => ⟨by rw [r1.length]; exact q.1, fun p hp => by
    obtain ⟨D', S⟩ := D1.alloc (o := .lst vs) hp
    exact q.2 _ _ D' (S1.trans S) (apart_new D1 S1 hp r1)⟩) z)
theorem df_lst {t : TA} {n : MA} (h : DA X es t n) : DF X (.List es pos) (tLst t) (mFLst n) := ⟨pe_lst h.pa, simFLst h.sim⟩
/-- list(x) -/
def mFCopy (n : MA) : MF := fun ρ Q => n ρ fun xs ρ1 => match xs with
  | [d] => match seqOf d with
    | some ys => Q ys ρ1
    | none => False
  | _ => False
theorem simFCopy {K : PySem.W.Frag} {t : TA} {n : MA} (h : SimA t n) : SimF (tCB (fun xs H Q => ∃ p ys, xs = [.ref p] ∧ (SqL K H p ys ∨ SqT K H p ys) ∧ ∀ l, H l = none → Q (.ref l) (upd H l (.lst ys))) t) (mFCopy n) where
  mono := fun ρ Q Q' q => h.mono _ _ _ fun x ρ1 z => by
    split at z
    · split at z
      · exact q _ _ z
      · exact z.elim
    · exact z.elim
  run := fun W ρ σ H R D z => h.run W ρ σ H _ D (h.mono _ _ _ (fun xs ρ1 q vs H1 D1 S1 r1 => by
    split at q
    · split at q
      · rename_i d ys e
        obtain ⟨v, t, rfl, r1, r2⟩ := r1.inv_cons
        rw [r2.inv_nil]
        obtain ⟨p, ws, rfl, g, r⟩ := rp_seq (K := K) e r1
        refine ⟨p, ws, rfl, sq_up vw_sub g, fun l hl => ?_⟩
        obtain ⟨D', S⟩ := D1.alloc (o := .lst ws) hl
        exact q _ _ D' (S1.trans S) (apart_new D1 S1 hl r)
      · exact q.elim
    · exact q.elim) z)
theorem df_copy {t : TA} {n : MA} (hm : X.mg "list" = none) (ha : DA X (e :: es) t n) (hg : Gl X "list" := by exact rfl)
    (he : starEach (e :: es) X.env = (false, eval e X.env) :: starEach es X.env := by exact rfl) (hpl : (backTo pos (starEach es X.env)).any (·.1) = false := by exact rfl) : DF X (.Call (.Name "list" p) (e :: es) [] pos) (tCB (fun xs H Q => ∃ p ys, xs = [.ref p] ∧ (SqL X.K H p ys ∨ SqT X.K H p ys) ∧ ∀ l, H l = none → Q (.ref l) (upd H l (.lst ys))) t) (mFCopy n) :=
  ⟨pe_callTy call_list_of hg hm (by decide +kernel) ha.pa (by decide) (by decide) he hpl, simFCopy (K := X.K) ha.sim⟩
/-- list + list -/
def mFCat (ma mb : ME) : MF := fun ρ Q => ma ρ fun x ρ1 => mb ρ1 fun y ρ2 => match x, y with
  | .lst xs, .lst ys => xs.length + ys.length ≤ sizeLine ∧ Q (xs ++ ys) ρ2
  | _, _ => False
theorem simFCat {ta tb : TE} {ma mb : ME} (ha : SimE ta ma) (hb : SimE tb mb) : SimF (tOp rCat ta tb) (mFCat ma mb) where
  mono := fun ρ Q Q' h => ha.mono _ _ _ fun x ρ1 => hb.mono _ _ _ fun y ρ2 z => by
    split at z
    · exact ⟨z.1, h _ _ z.2⟩
    · exact z.elim
  run := fun W ρ σ H R D h => by
    refine ha.run W ρ σ H _ D (ha.mono _ _ _ (fun x ρ1 q v1 H1 D1 S1 r1 => ?_) h)
    refine hb.run W ρ1 σ H1 _ D1 (hb.mono _ _ _ (fun y ρ2 q v2 H2 D2 S2 r2 => ?_) q)
    split at q
    · rename_i xs ys
      have r1 := r1.step S2
      simp only [Rp] at r1 r2
      obtain ⟨a, vs, rfl, h1, h2⟩ := r1
      obtain ⟨b, us, rfl, h3, h4⟩ := r2
      refine ⟨a, b, vs, us, rfl, rfl, (vw_some.mp h1).2.2, (vw_some.mp h3).2.2, by rw [h2.length, h4.length]; exact q.1, fun p hp => ?_⟩
      obtain ⟨D', S⟩ := D2.alloc (o := .lst (vs ++ us)) hp
      exact q.2 _ _ D' (S1.trans (S2.trans S)) (apart_new D2 (S1.trans S2) hp (h2.append h4))
    · exact q.elim
theorem df_cat {ta tb : TE} {ma mb : ME} (ha : DE X a ta ma) (hb : DE X b tb mb) : DF X (.BinOp a .Add b pos) (tOp rCat ta tb) (mFCat ma mb) := ⟨pe_op op_cat ha.pe hb.pe, simFCat ha.sim hb.sim⟩
/-- x = a new list, that x will change -/
def mOwn (i : Nat) (mf : MF) : MS := fun D ρ => mf ρ fun xs ρ1 => i < ρ1.sl.length ∧ ∀ a, a ∉ owns ρ1.sl → D.nx (ρ1.put i (.own a xs))
theorem simOwn {i : Nat} {mf : MF} (h : SimF te mf) : SimS (tAsg te (gName i)) (mOwn i mf) where
  mono := fun D D' ρ l => h.mono _ _ _ fun xs ρ1 z => ⟨z.1, fun a ha => l.nx _ (z.2 a ha)⟩
  run := fun W ρ σ H D R q => h.run W ρ σ H _ R (h.mono _ _ _ (fun xs ρ1 z a H1 R1 S1 ap => by
    obtain ⟨h1, h2, h3, ⟨vs, h4, h5⟩, h6, h7⟩ := ap
    refine z.2 a h2 _ _ (R1.take h1 h2 z.1 h4 h5 (fun j x _ e => h6 j x e) fun j b ys _ e => h7 j b ys e) ⟨S1.ext, S1.dom, fun b hb => ?_⟩
    obtain ⟨j, ys, e⟩ := mem_owns.mp hb
    rcases get_set e with ⟨_, w, _⟩ | ⟨_, w⟩
    · cases w; exact .inr h3
    · exact S1.new b (mem_owns.mpr ⟨j, ys, w⟩)) q)
theorem ds_own {x : Str} {pos' : Pos} {mf : MF} (i : Nat) (hN : X.N.Nodup) (he : DF X e te mf) (hi : X.N[i]? = some x := by rfl) (hx : Loc X.env.scope x := by first | exact Or.inl rfl | exact Or.inr rfl) (hs : swapsWith e (some (.Name x pos')) pos.line X.env = pure false := by exact rfl)
    (hf : X.fn x = true ∨ X.env.scope.names.lookup x = some .local := by first | exact Or.inl rfl | exact Or.inr rfl) : DS X (.Assign [.Name x pos'] e pos) (tAsg te (gName i)) (mOwn i mf) := ⟨ps_set hN hi hx he.pe hs hf, simOwn he.sim⟩
/-- x.append(e), x a list of the frame's own -/
def mApp (i : Nat) (me : ME) : MS := fun D ρ => (∃ a xs, ρ.sl[i]? = some (.own a xs)) ∧ me ρ fun d ρ1 => match ρ1.sl[i]? with
  | some (.own a xs) => xs.length < sizeLine ∧ D.nx (ρ1.put i (.own a (xs ++ [d])))
  | _ => False
theorem tyV_lst {K : PySem.W.Frag} {H : Hp} {a : Addr} {vs : List V} (h : H a = some (.lst vs)) : tyV K "list" (.ref a) H := Or.inl ⟨rfl, _, SqL.of h⟩
theorem simApp {K : PySem.W.Frag} {i : Nat} (h : SimE te me) : SimS (tDrop (tBM K "list" rAppend (tVar i) (tCons te tNil))) (mApp i me) where
  mono := fun D D' ρ l ⟨o, z⟩ => ⟨o, h.mono _ _ _ (fun d ρ1 z => by
    split at z
    · exact ⟨z.1, l.nx _ z.2⟩
    · exact z.elim) z⟩
  run := fun W ρ σ H D R ⟨⟨a, xs, e⟩, q⟩ => by
    obtain ⟨h1, h2, vs, h3, h4⟩ := R.own i a xs e
    refine ⟨.ref a, h1, tyV_lst h3, h.run W ρ σ H _ R (h.mono _ _ _ (fun d ρ1 z v H1 R1 S1 r => ?_) q)⟩
    split at z
    · rename_i a' xs' e'
      obtain ⟨g1, g2, us, g3, g4⟩ := R1.own i a' xs' e'
      rw [h1] at g1
      cases g1
      refine ⟨a, us, v, rfl, rfl, g3, by rw [g4.length]; exact z.1, ?_⟩
      obtain ⟨D2, S2⟩ := R1.write e' (g4.append (RpL.cons r .nil))
      exact z.2 _ _ D2 (S1.trans S2)
    · exact z.elim
theorem ds_app {x : Str} {apos cpos px : Pos} (i : Nat) (he : DE X e te me) (hv : PE X (.Name x px) (tVar i)) (hs : swapsWith (.Call (.Attribute (.Name x px) "append" apos) [e] [] cpos) none pos.line X.env = pure false := by exact rfl)
    (hbase : attributeBase (.Name x px) "append" X.env (eval (.Name x px) X.env) = eval (.Name x px) X.env := by exact rfl)
    (hfew : ((backTo cpos (starEach [e] X.env)).all (fun x => !x.1) && (backToKw cpos (keywordEach [] X.env)).all (fun x => x.1.isSome) && decide ([e].length + ([] : List Keyword).length + (if ([] : List Keyword).isEmpty then 0 else 1) < 30)) = true := by exact rfl)
    (hline : (apos.endLine == cpos.line) = true := by exact rfl) (hse : starEach [e] X.env = (false, eval e X.env) :: starEach [] X.env := by exact rfl) (hplain : (backTo cpos (starEach [] X.env)).any (·.1) = false := by exact rfl) :
    DS X (.Expr (.Call (.Attribute (.Name x px) "append" apos) [e] [] cpos) pos) (tDrop (tBM X.K "list" rAppend (tVar i) (tCons te tNil))) (mApp i me) :=
  ⟨ps_expr (pe_bm PySem.F.plainAttrs_list PySem.F.slot_list_append PySem.F.type_list_append mt_append hv (pa_cons he.pe pa_nil hse) hbase hfew hline hse hplain) hs, simApp he.sim⟩
/-- x.extend(e) -/
def mExt (i : Nat) (me : ME) : MS := fun D ρ => (∃ a xs, ρ.sl[i]? = some (.own a xs)) ∧ me ρ fun d ρ1 => match ρ1.sl[i]?, d with
  | some (.own a xs), .lst ys => xs.length + ys.length ≤ sizeLine ∧ D.nx (ρ1.put i (.own a (xs ++ ys)))
  | _, _ => False
theorem simExt {K : PySem.W.Frag} {i : Nat} (h : SimE te me) : SimS (tDrop (tBM K "list" rExtend (tVar i) (tCons te tNil))) (mExt i me) where
  mono := fun D D' ρ l ⟨o, z⟩ => ⟨o, h.mono _ _ _ (fun d ρ1 z => by
    split at z
    · exact ⟨z.1, l.nx _ z.2⟩
    · exact z.elim) z⟩
  run := fun W ρ σ H D R ⟨⟨a, xs, e⟩, q⟩ => by
    obtain ⟨h1, h2, vs, h3, h4⟩ := R.own i a xs e
    refine ⟨.ref a, h1, tyV_lst h3, h.run W ρ σ H _ R (h.mono _ _ _ (fun d ρ1 z v H1 R1 S1 r => ?_) q)⟩
    split at z
    · rename_i a' xs' ys e'
      obtain ⟨g1, g2, us, g3, g4⟩ := R1.own i a' xs' e'
      rw [h1] at g1
      cases g1
      simp only [Rp] at r
      obtain ⟨b, ws, rfl, r1, r2⟩ := r
      refine ⟨a, b, us, ws, rfl, rfl, g3, (vw_some.mp r1).2.2, by rw [g4.length, r2.length]; exact z.1, ?_⟩
      obtain ⟨D2, S2⟩ := R1.write e' (g4.append r2)
      exact z.2 _ _ D2 (S1.trans S2)
    · exact z.elim
theorem ds_ext {x : Str} {apos cpos px : Pos} (i : Nat) (he : DE X e te me) (hv : PE X (.Name x px) (tVar i)) (hs : swapsWith (.Call (.Attribute (.Name x px) "extend" apos) [e] [] cpos) none pos.line X.env = pure false := by exact rfl)
    (hbase : attributeBase (.Name x px) "extend" X.env (eval (.Name x px) X.env) = eval (.Name x px) X.env := by exact rfl)
    (hfew : ((backTo cpos (starEach [e] X.env)).all (fun x => !x.1) && (backToKw cpos (keywordEach [] X.env)).all (fun x => x.1.isSome) && decide ([e].length + ([] : List Keyword).length + (if ([] : List Keyword).isEmpty then 0 else 1) < 30)) = true := by exact rfl)
    (hline : (apos.endLine == cpos.line) = true := by exact rfl) (hse : starEach [e] X.env = (false, eval e X.env) :: starEach [] X.env := by exact rfl) (hplain : (backTo cpos (starEach [] X.env)).any (·.1) = false := by exact rfl) :
    DS X (.Expr (.Call (.Attribute (.Name x px) "extend" apos) [e] [] cpos) pos) (tDrop (tBM X.K "list" rExtend (tVar i) (tCons te tNil))) (mExt i me) :=
  ⟨ps_expr (pe_bm PySem.F.plainAttrs_list PySem.F.slot_list_extend PySem.F.type_list_extend mt_extend hv (pa_cons he.pe pa_nil hse) hbase hfew hline hse hplain) hs, simExt he.sim⟩
/-- x.pop(e) as a value -/
def mPopAt (i : Nat) (me : ME) : ME := fun ρ Q => (∃ a xs, ρ.sl[i]? = some (.own a xs)) ∧ me ρ fun d ρ1 => match ρ1.sl[i]?, d with
  | some (.own a xs), .int k => ∃ (j : Nat) (x : Dt), -(2 ^ 63) ≤ k ∧ k < 2 ^ 63 ∧ seqIndex? k xs.length = some j ∧ xs[j]? = some x ∧ Q x (ρ1.put i (.own a (xs.eraseIdx j)))
  | _, _ => False
theorem RpL.erase {ss : Option Addr} {h : Hp} {ds : List Dt} {vs : List V} (r : RpL ss h ds vs) : ∀ j : Nat, RpL ss h (ds.eraseIdx j) (vs.eraseIdx j) := by
  induction ds generalizing vs with
  | nil => intro j; rw [r.inv_nil]; simp; exact .nil
  | cons d ds ih =>
    intro j
    obtain ⟨v, t, rfl, r1, r2⟩ := r.inv_cons
    cases j with
    | zero => exact r2
    | succ j => exact .cons r1 (ih r2 j)
theorem simPopAt {K : PySem.W.Frag} {i : Nat} (h : SimE te me) : SimE (tBM K "list" rPopAt (tVar i) (tCons te tNil)) (mPopAt i me) where
  mono := fun ρ Q Q' l ⟨o, z⟩ => ⟨o, h.mono _ _ _ (fun d ρ1 z => by
    split at z
    · obtain ⟨j, x, z1, z2, z3, z4, z5⟩ := z
      exact ⟨j, x, z1, z2, z3, z4, l _ _ z5⟩
    · exact z.elim) z⟩
  run := fun W ρ σ H D R ⟨⟨a, xs, e⟩, q⟩ => by
    obtain ⟨h1, h2, vs, h3, h4⟩ := R.own i a xs e
    refine ⟨.ref a, h1, tyV_lst h3, h.run W ρ σ H _ R (h.mono _ _ _ (fun d ρ1 z v H1 R1 S1 r => ?_) q)⟩
    split at z
    · rename_i a' xs' k e'
      obtain ⟨j, x, z1, z2, z3, z4, z5⟩ := z
      obtain ⟨g1, g2, us, g3, g4⟩ := R1.own i a' xs' e'
      rw [h1] at g1
      cases g1
      simp only [Rp] at r
      obtain ⟨y, y1, y2⟩ := g4.get z4
      refine ⟨a, us, k, j, y, rfl, by rw [r], g3, z1, z2, by rw [g4.length]; exact z3, y1, ?_⟩
      obtain ⟨D2, S2⟩ := R1.write e' (g4.erase j)
      exact z5 _ _ D2 (S1.trans S2) (y2.step S2)
    · exact z.elim
theorem de_popAt {x : Str} {apos cpos px : Pos} (i : Nat) (he : DE X e te me) (hv : PE X (.Name x px) (tVar i))
    (hbase : attributeBase (.Name x px) "pop" X.env (eval (.Name x px) X.env) = eval (.Name x px) X.env := by exact rfl)
    (hfew : ((backTo cpos (starEach [e] X.env)).all (fun x => !x.1) && (backToKw cpos (keywordEach [] X.env)).all (fun x => x.1.isSome) && decide ([e].length + ([] : List Keyword).length + (if ([] : List Keyword).isEmpty then 0 else 1) < 30)) = true := by exact rfl)
    (hline : (apos.endLine == cpos.line) = true := by exact rfl) (hse : starEach [e] X.env = (false, eval e X.env) :: starEach [] X.env := by exact rfl) (hplain : (backTo cpos (starEach [] X.env)).any (·.1) = false := by exact rfl) :
    DE X (.Call (.Attribute (.Name x px) "pop" apos) [e] [] cpos) (tBM X.K "list" rPopAt (tVar i) (tCons te tNil)) (mPopAt i me) :=
  ⟨pe_bm PySem.F.plainAttrs_list PySem.F.slot_list_pop PySem.F.type_list_pop mt_popAt hv (pa_cons he.pe pa_nil hse) hbase hfew hline hse hplain, simPopAt he.sim⟩
/-- x[e], x a list of the frame's own -/
def mOwnIx (i : Nat) (me : ME) : ME := fun ρ Q => (∃ a xs, ρ.sl[i]? = some (.own a xs)) ∧ me ρ fun d ρ1 => match ρ1.sl[i]?, d with
  | some (.own a xs), .int k => match atI xs k with
    | some x => Q x ρ1
    | none => False
  | _, _ => False
theorem simOwnIx {K : PySem.W.Frag} {i : Nat} (h : SimE te me) : SimE (tOp (rIx K) (tVar i) te) (mOwnIx i me) where
  mono := fun ρ Q Q' l ⟨o, z⟩ => ⟨o, h.mono _ _ _ (fun d ρ1 z => by
    split at z
    · split at z
      · exact l _ _ z
      · exact z.elim
    · exact z.elim) z⟩
  run := fun W ρ σ H D R ⟨⟨a, xs, e⟩, q⟩ => by
    obtain ⟨h1, h2, vs, h3, h4⟩ := R.own i a xs e
    refine ⟨.ref a, h1, h.run W ρ σ H _ R (h.mono _ _ _ (fun d ρ1 z v H1 R1 S1 r => ?_) q)⟩
    split at z
    · rename_i a' xs' k e'
      obtain ⟨g1, g2, us, g3, g4⟩ := R1.own i a' xs' e'
      rw [h1] at g1
      cases g1
      simp only [Rp] at r
      split at z
      · rename_i x hx
        obtain ⟨y, y1, y2⟩ := rpl_at g4 hx
        exact .inl ⟨a, us, k, y, rfl, r, SqL.of g3, y1, z y H1 R1 S1 y2⟩
      · exact z.elim
    · exact z.elim
theorem de_ownIx {x : Str} {px : Pos} (i : Nat) (he : DE X e te me) (hv : PE X (.Name x px) (tVar i)) (hs : PlainIx e := by exact fun _ _ => rfl) : DE X (.Subscript (.Name x px) e pos) (tOp (rIx X.K) (tVar i) te) (mOwnIx i me) := ⟨pe_ix ix_seq hv he.pe hs, simOwnIx he.sim⟩
/-- len(x), x a list of the frame's own -/
def mOwnLen (i : Nat) : ME := fun ρ Q => match ρ.sl[i]? with
  | some (.own a xs) => Q (.int xs.length) ρ
  | _ => False
theorem simOwnLen {K : PySem.W.Frag} {i : Nat} : SimE (tCB (fun xs H Q => ∃ p ys, xs = [.ref p] ∧ (SqL K H p ys ∨ SqT K H p ys) ∧ Q (.int ys.length) H) (tCons (tVar i) tNil)) (mOwnLen i) where
  mono := fun ρ Q Q' l z => by
    unfold mOwnLen at z ⊢
    split at z
    · exact l _ _ z
    · exact z.elim
  run := fun W ρ σ H D R z => by
    unfold mOwnLen at z
    split at z
    · rename_i a xs e
      obtain ⟨h1, h2, vs, h3, h4⟩ := R.own i a xs e
      refine ⟨.ref a, h1, a, vs, rfl, .inl (SqL.of h3), ?_⟩
      rw [h4.length]
      exact z _ H R .refl (by simp only [Rp])
    · exact z.elim
theorem de_ownLen {x : Str} {px : Pos} (i : Nat) (hm : X.mg "len" = none) (hv : PE X (.Name x px) (tVar i)) (hg : Gl X "len" := by exact rfl)
    (he : starEach [.Name x px] X.env = (false, eval (.Name x px) X.env) :: starEach [] X.env := by exact rfl) (hpl : (backTo pos (starEach [] X.env)).any (·.1) = false := by exact rfl) :
    DE X (.Call (.Name "len" p) [.Name x px] [] pos) (tCB (fun xs H Q => ∃ p ys, xs = [.ref p] ∧ (SqL X.K H p ys ∨ SqT X.K H p ys) ∧ Q (.int ys.length) H) (tCons (tVar i) tNil)) (mOwnLen i) :=
  ⟨pe_callB call_len_seq hg hm (by decide +kernel) (pa_cons hv pa_nil he) (by decide) (by decide) he hpl, simOwnLen⟩
/-- e in x, e not in x: x a list of the frame's own, flat -/
def mOwnIn (neg : Bool) (me : ME) (i : Nat) : ME := fun ρ Q => me ρ fun d ρ1 => match ρ1.sl[i]? with
  | some (.own a xs) => (isScal d = true ∧ xs.all isScal = true) ∧ Q (.bl (if neg then !(xs.any fun z => deq z d) else xs.any fun z => deq z d)) ρ1
  | _ => False
theorem simOwnIn {K : PySem.W.Frag} {neg : Bool} {i : Nat} (h : SimE te me) : SimE (tOp (rIn K neg) te (tVar i)) (mOwnIn neg me i) where
  mono := fun ρ Q Q' l => h.mono _ _ _ (fun d ρ1 z => by
    split at z
    · exact ⟨z.1, l _ _ z.2⟩
    · exact z.elim)
  run := fun W ρ σ H D R q => by
    refine h.run W ρ σ H _ R (h.mono _ _ _ (fun d ρ1 z v H1 R1 S1 r => ?_) q)
    split at z
    · rename_i a xs e
      obtain ⟨⟨f1, f2⟩, z⟩ := z
      obtain ⟨h1, h2, vs, h3, h4⟩ := R1.own i a xs e
      have e1 := rp_scal_inv f1 r
      have e2 := rp_flats h4 f2
      subst e1 e2
      refine ⟨.ref a, h1, a, _, rfl, .inl (SqL.of h3), flat_val f1, flats_flat f2, ?_⟩
      rw [inV_val f1 f2]
      exact z _ H1 R1 S1 (by simp only [Rp])
    · exact z.elim
theorem de_ownIn {x : Str} {px : Pos} (i : Nat) (he : DE X e te me) (hv : PE X (.Name x px) (tVar i)) : DE X (.Compare e [.In] [.Name x px] pos) (tOp (rIn X.K false) te (tVar i)) (mOwnIn false me i) := ⟨pe_cmpR op_in_seq he.pe hv rfl, simOwnIn he.sim⟩
theorem de_ownNotIn {x : Str} {px : Pos} (i : Nat) (he : DE X e te me) (hv : PE X (.Name x px) (tVar i)) : DE X (.Compare e [.NotIn] [.Name x px] pos) (tOp (rIn X.K true) te (tVar i)) (mOwnIn true me i) := ⟨pe_cmpR op_notIn_seq he.pe hv rfl, simOwnIn he.sim⟩
theorem dt_ownIn {x : Str} {px : Pos} (i : Nat) (he : DE X e te me) (hv : PE X (.Name x px) (tVar i)) : DT X (.Compare e [.In] [.Name x px] pos) (tTest (tOp (rIn X.K false) te (tVar i))) (mB (mOwnIn false me i)) := ⟨pt_cmpR op_in_seq he.pe hv rfl, simB (simOwnIn he.sim)⟩
theorem dt_ownNotIn {x : Str} {px : Pos} (i : Nat) (he : DE X e te me) (hv : PE X (.Name x px) (tVar i)) : DT X (.Compare e [.NotIn] [.Name x px] pos) (tTest (tOp (rIn X.K true) te (tVar i))) (mB (mOwnIn true me i)) := ⟨pt_cmpR op_notIn_seq he.pe hv rfl, simB (simOwnIn he.sim)⟩
end
end DL

set_option Elab.async false
set_option linter.all false
set_option maxRecDepth 100000
set_option maxHeartbeats 1000000
set_option autoImplicit false
/-! DL5: what is walked, for, while, comprehensions, defs. -/
namespace DL
open PySem PySem.Spec L2

/-- the iterator gives the data xs, as they stand in h0 -/
def DWalk (ss : Option Addr) (J : It) (xs : List Dt) (h0 : Hp) : Prop :=
  ∃ (G : Hp → Prop) (Y : Nat → Hp → V → Hp → Prop), Walk J xs.length G Y ∧ (∀ H1, Sub h0 H1 → G H1) ∧
    ∀ i x H1 H2, i < xs.length → Y i H1 x H2 → ∃ d, xs[i]? = some d ∧ ((H2 = H1 ∧ Rp ss h0 d x) ∨ ∃ T vs ds, H1 T = none ∧ H2 = upd H1 T (.tup vs) ∧ x = .ref T ∧ d = .tup ds ∧ RpL ss h0 ds vs)
theorem walk_item {W : Wd} {ρ : En} {σ : L2.St} {h0 H1 H2 : Hp} {d : Dt} {x : V} (D : DRel W ρ σ H1) (hs : Sub h0 (vw W ρ H1))
    (h : (H2 = H1 ∧ Rp W.sa h0 d x) ∨ ∃ T vs ds, H1 T = none ∧ H2 = upd H1 T (.tup vs) ∧ x = .ref T ∧ d = .tup ds ∧ RpL W.sa h0 ds vs) : DRel W ρ σ H2 ∧ Step W ρ H1 ρ H2 ∧ Rp W.sa (vw W ρ H2) d x := by
  rcases h with ⟨rfl, r⟩ | ⟨T, vs, ds, hT, rfl, rfl, rfl, r⟩
  · exact ⟨D, .refl, r.mono hs⟩
  · obtain ⟨D', S⟩ := D.alloc (o := .tup vs) hT
    exact ⟨D', S, D.new_tup hT (r.mono hs)⟩
abbrev MI := En → (List Dt → En → Prop) → Prop
structure SimI (wi : TI) (mi : MI) : Prop where
  mono : ∀ (ρ : En) (Q Q' : List Dt → En → Prop), (∀ d ρ', Q d ρ' → Q' d ρ') → mi ρ Q → mi ρ Q'
  run : ∀ (W : Wd) (ρ : En) (σ : L2.St) (H : Hp) (R : It → Hp → Prop), DRel W ρ σ H → mi ρ (fun xs ρ' => ∀ J H', DRel W ρ' σ H' → Step W ρ H ρ' H' → DWalk W.sa J xs (vw W ρ' H') → R J H') → wi σ H R
structure DI (X : Cx) (tg iter : Expr) (wi : TI) (mi : MI) : Prop where
  pi : PI X tg iter wi
  sim : SimI wi mi
def iOr (w w' : TI) : TI := fun σ H R => w σ H R ∨ w' σ H R
theorem pi_or {X : Cx} {tg iter : Expr} {w w' : TI} (h : PI X tg iter w) (h' : PI X tg iter w') : PI X tg iter (iOr w w') := ⟨fun pins s σ H R I z => z.elim (fun z => h.run pins s σ H R I z) fun z => h'.run pins s σ H R I z⟩
/-- a list or a tuple -/
def miSeq (me : ME) : MI := fun ρ Q => me ρ fun d ρ1 => match seqOf d with
  | some xs => Q xs ρ1
  | none => False
theorem walk_of_list {K : PySem.W.Frag} {ss : Option Addr} {h0 : Hp} {a : Addr} {vs : List V} {xs : List Dt} (g : h0 a = some (.lst vs)) (r : RpL ss h0 xs vs) : DWalk ss (Itl K a) xs h0 := by
  refine ⟨fun H => SqL K H a vs, YAt vs, by rw [← r.length]; exact walk_list, fun H1 S => SqL.of (S _ _ g), fun i x H1 H2 hi y => ?_⟩
  obtain ⟨e, y⟩ := y
  obtain ⟨d, h1, h2⟩ := r.get' y
  exact ⟨d, h1, .inl ⟨e, h2⟩⟩
theorem walk_of_tup {K : PySem.W.Frag} {ss : Option Addr} {h0 : Hp} {a : Addr} {vs : List V} {xs : List Dt} (g : h0 a = some (.tup vs)) (r : RpL ss h0 xs vs) : DWalk ss (Itt K a) xs h0 := by
  refine ⟨fun H => SqT K H a vs, YAt vs, by rw [← r.length]; exact walk_tup, fun H1 S => SqT.of (S _ _ g), fun i x H1 H2 hi y => ?_⟩
  obtain ⟨e, y⟩ := y
  obtain ⟨d, h1, h2⟩ := r.get' y
  exact ⟨d, h1, .inl ⟨e, h2⟩⟩
/-- the hand layer's walk of a list or a tuple: which one is told by the value -/
def iSeq (K : PySem.W.Frag) (tl : TE) : TI := fun σ H R => tl σ H fun x H1 => ∃ a, x = .ref a ∧ ((∃ xs, SqL K H1 a xs) ∧ R (Itl K a) H1 ∨ (∃ xs, SqT K H1 a xs) ∧ R (Itt K a) H1)
theorem pi_seq {X : Cx} {tg l : Expr} {tl : TE} (hl : PE X l tl) : PI X tg l (iSeq X.K tl) := by
  refine ⟨fun pins s σ H R I h => ?_⟩
  refine thn (hl.run pins s σ H _ I h) fun v s1 ⟨x, H1, I1, r1, q1⟩ => ?_
  obtain ⟨a, e, q⟩ := q1
  subst e
  cases r1
  rcases q with ⟨⟨xs, hq⟩, q⟩ | ⟨⟨xs, hq⟩, q⟩
  · obtain ⟨its, rv, p, hz⟩ := I1.list hq
    refine wpAny_pyIter_list p.isList ?_
    refine ⟨s1.heap.objs.size, [s1.heap.objs.size], _, _, H1, rfl, I1.kept (t' := s1.toks) fun b o e => Heap.get?_push_of_some _ e, turn_list a _, ⟨_, Heap.get?_push_size _ rfl, rfl, rfl⟩, fun b hb => ?_, q⟩
    have e : b = s1.heap.objs.size := by simpa using hb
    subst e
    exact I1.fpOk (Nat.le_refl _) (I1.hok.fresh (Nat.le_refl _))
  · obtain ⟨its, rv, p, hz⟩ := I1.tuple hq
    refine wpAny_pyIter_tuple (show s1.heap.IsTuple a its.toArray from p) ?_
    refine ⟨s1.heap.objs.size, [s1.heap.objs.size], _, _, H1, rfl, I1.kept (t' := s1.toks) fun b o e => Heap.get?_push_of_some _ e, turn_tuple a _, ⟨_, Heap.get?_push_size _ rfl, rfl, rfl⟩, fun b hb => ?_, q⟩
    have e : b = s1.heap.objs.size := by simpa using hb
    subst e
    exact I1.fpOk (Nat.le_refl _) (I1.hok.fresh (Nat.le_refl _))
theorem simISeq {K : PySem.W.Frag} {te : TE} {me : ME} (h : SimE te me) : SimI (iSeq K te) (miSeq me) where
  mono := fun ρ Q Q' q => h.mono _ _ _ fun d ρ1 z => by
    split at z
    · exact q _ _ z
    · exact z.elim
  run := fun W ρ σ H R D z => h.run W ρ σ H _ D (h.mono _ _ _ (fun d ρ1 q v H1 D1 S1 r => by
    cases d with
    | lst xs =>
      simp only [seqOf] at q
      simp only [Rp] at r
      obtain ⟨a, vs, rfl, g, r⟩ := r
      exact ⟨a, rfl, .inl ⟨⟨vs, SqL.of (vw_sub _ _ g)⟩, q _ H1 D1 S1 (walk_of_list g r)⟩⟩
    | tup xs =>
      simp only [seqOf] at q
      simp only [Rp] at r
      obtain ⟨a, vs, rfl, g, r⟩ := r
      exact ⟨a, rfl, .inr ⟨⟨vs, SqT.of (vw_sub _ _ g)⟩, q _ H1 D1 S1 (walk_of_tup g r)⟩⟩
    | _ => exact q.elim) z)
theorem di_seq {X : Cx} {tg l : Expr} {te : TE} {me : ME} (h : DE X l te me) : DI X tg l (iSeq X.K te) (miSeq me) := ⟨pi_seq h.pe, simISeq h.sim⟩
/-- the ints lo, lo + 1, .. -/
def rng (lo : Int) (n : Nat) : List Dt := (List.range n).map fun i : Nat => Dt.int (lo + (i : Int))
theorem rng_length {lo : Int} {n : Nat} : (rng lo n).length = n := by simp [rng]
theorem walk_of_rng {ss : Option Addr} {h0 : Hp} {lo : Int} {n : Nat} : DWalk ss (Itr lo n) (rng lo n) h0 := by
  refine ⟨fun _ => True, YFn fun i => .int (lo + i), by rw [rng_length]; exact walk_range, fun _ _ => trivial, fun i x H1 H2 hi y => ?_⟩
  obtain ⟨e, y⟩ := y
  rw [rng_length] at hi
  exact ⟨.int (lo + (i : Int)), by simp [rng, hi], .inl ⟨e, by simp only [Rp]; exact y⟩⟩
def miRng1 (n : MA) : MI := fun ρ Q => n ρ fun ds ρ1 => match ds with
  | [.int j] => (-(2 ^ 62) ≤ j ∧ j < 2 ^ 62) ∧ Q (rng 0 j.toNat) ρ1
  | _ => False
def miRng2 (n : MA) : MI := fun ρ Q => n ρ fun ds ρ1 => match ds with
  | [.int i, .int j] => (-(2 ^ 62) ≤ i ∧ i < 2 ^ 62 ∧ -(2 ^ 62) ≤ j ∧ j < 2 ^ 62) ∧ Q (rng i (j - i).toNat) ρ1
  | _ => False
theorem simIRng1 {t : TA} {n : MA} (h : SimA t n) : SimI (iRng1 t) (miRng1 n) where
  mono := fun ρ Q Q' q => h.mono _ _ _ fun d ρ1 z => by
    split at z
    · exact ⟨z.1, q _ _ z.2⟩
    · exact z.elim
  run := fun W ρ σ H R D z => h.run W ρ σ H _ D (h.mono _ _ _ (fun d ρ1 q v H1 D1 S1 r => by
    split at q
    · rename_i j
      obtain ⟨v, t, rfl, r1, r2⟩ := r.inv_cons
      rw [r2.inv_nil]
      simp only [Rp] at r1
      exact ⟨j, by rw [r1], q.1.1, q.1.2, q.2 _ H1 D1 S1 walk_of_rng⟩
    · exact q.elim) z)
theorem simIRng2 {t : TA} {n : MA} (h : SimA t n) : SimI (iRng2 t) (miRng2 n) where
  mono := fun ρ Q Q' q => h.mono _ _ _ fun d ρ1 z => by
    split at z
    · exact ⟨z.1, q _ _ z.2⟩
    · exact z.elim
  run := fun W ρ σ H R D z => h.run W ρ σ H _ D (h.mono _ _ _ (fun d ρ1 q v H1 D1 S1 r => by
    split at q
    · rename_i i j
      obtain ⟨v, t, rfl, r1, r2⟩ := r.inv_cons
      obtain ⟨u, t, rfl, r2, r3⟩ := r2.inv_cons
      rw [r3.inv_nil]
      simp only [Rp] at r1 r2
      exact ⟨i, j, by rw [r1, r2], q.1, q.2 _ H1 D1 S1 walk_of_rng⟩
    · exact q.elim) z)
section
variable {X : Cx} {tg a b : Expr} {p pos tpos : Pos} {t : TA} {n : MA}
theorem di_rng1 (hm : X.mg "range" = none) (ha : DA X [a] t n) (hg : Gl X "range" := by exact rfl) (hs : starEach [a] X.env = [(false, eval a X.env)] := by exact rfl) : DI X tg (.Call (.Name "range" p) [a] [] pos) (iRng1 t) (miRng1 n) := ⟨pi_range1 hg hm ha.pa hs, simIRng1 ha.sim⟩
theorem di_rng2 (hm : X.mg "range" = none) (ha : DA X [a, b] t n) (hg : Gl X "range" := by exact rfl) (hs : starEach [a, b] X.env = [(false, eval a X.env), (false, eval b X.env)] := by exact rfl) (hs2 : starEach [b] X.env = [(false, eval b X.env)] := by exact rfl) : DI X tg (.Call (.Name "range" p) [a, b] [] pos) (iRng2 t) (miRng2 n) :=
  ⟨pi_range2 hg hm ha.pa hs hs2, simIRng2 ha.sim⟩
/-- zip of two lists, or of two tuples -/
def pairs : List Dt → List Dt → List Dt
  | x :: xs, y :: ys => .tup [x, y] :: pairs xs ys
  | _, _ => []
theorem pairs_length : ∀ xs ys : List Dt, (pairs xs ys).length = min xs.length ys.length
  | [], ys => by simp [pairs]
  | x :: xs, [] => by simp [pairs]
  | x :: xs, y :: ys => by
    simp [pairs, pairs_length xs ys]
theorem pairs_get : ∀ {xs ys : List Dt} {i : Nat} {x y : Dt}, xs[i]? = some x → ys[i]? = some y → (pairs xs ys)[i]? = some (.tup [x, y])
  | [], ys, i, x, y, h, _ => by simp at h
  | x :: xs, [], i, _, _, _, h => by simp at h
  | x :: xs, y :: ys, 0, _, _, h, h' => by simp at h h'; subst h h'; rfl
  | x :: xs, y :: ys, i + 1, _, _, h, h' => by
    simp [pairs]
    exact pairs_get (by simpa using h) (by simpa using h')
def miZip (n : MA) : MI := fun ρ Q => n ρ fun ds ρ1 => match ds with
  | [.lst xs, .lst ys] => Q (pairs xs ys) ρ1
  | [.tup xs, .tup ys] => Q (pairs xs ys) ρ1
  | _ => False
theorem walk_of_zip {ss : Option Addr} {J : It} {G : Hp → Prop} {h0 : Hp} {vs us : List V} {xs ys : List Dt} (w : Walk J (min vs.length us.length) G (YPair (fun i => vs[i]?) (fun i => us[i]?))) (hG : ∀ H1, Sub h0 H1 → G H1) (r : RpL ss h0 xs vs) (r' : RpL ss h0 ys us) : DWalk ss J (pairs xs ys) h0 := by
  refine ⟨G, _, by rw [pairs_length, ← r.length, ← r'.length]; exact w, hG, fun i x H1 H2 hi y => ?_⟩
  obtain ⟨T, v, u, e1, e2, e3, e4, e5⟩ := y
  obtain ⟨d, d1, d2⟩ := r.get' e4
  obtain ⟨e, e6, e7⟩ := r'.get' e5
  exact ⟨_, pairs_get d1 e6, .inr ⟨T, [v, u], [d, e], e2, e3, e1, rfl, .cons d2 (.cons e7 .nil)⟩⟩
theorem walk_zipT {K : PySem.W.Frag} {a b : Addr} {xs ys : List V} : Walk (RZ.ItzT K a b) (min xs.length ys.length) (fun H => SqT K H a xs ∧ SqT K H b ys) (YPair (fun i => xs[i]?) (fun i => ys[i]?)) := by
  refine ⟨fun i _ hi q => ?_, fun _ q => ⟨xs, ys, q.1, q.2, by omega⟩, fun i H v H' _ q y => ?_⟩
  · have h1 : i < xs.length := by omega
    have h2 : i < ys.length := by omega
    exact ⟨xs, ys, xs[i], ys[i], q.1, q.2, by simp [h1], by simp [h2]⟩
  · obtain ⟨T, x, z, h1, h2, h3, h4, h5⟩ := y
    exact ⟨T, x, z, h1, h2, h3, h4 xs q.1, h5 ys q.2⟩
theorem simIZip {K : PySem.W.Frag} (h : SimA t n) : SimI (RZ.iZipA K t) (miZip n) where
  mono := fun ρ Q Q' q => h.mono _ _ _ fun d ρ1 z => by
    split at z
    · exact q _ _ z
    · exact q _ _ z
    · exact z.elim
  run := fun W ρ σ H R D z => h.run W ρ σ H _ D (h.mono _ _ _ (fun d ρ1 q v H1 D1 S1 r => by
    split at q
    · rename_i xs ys
      obtain ⟨v, t, rfl, r1, r2⟩ := r.inv_cons
      obtain ⟨u, t, rfl, r2, r3⟩ := r2.inv_cons
      rw [r3.inv_nil]
      simp only [Rp] at r1 r2
      obtain ⟨a, vs, rfl, g1, r1⟩ := r1
      obtain ⟨b, us, rfl, g2, r2⟩ := r2
      exact ⟨a, b, vs, us, rfl, .inl ⟨SqL.of (vw_sub _ _ g1), SqL.of (vw_sub _ _ g2), q _ H1 D1 S1 (walk_of_zip (walk_zip rfl) (fun H2 S => ⟨SqL.of (S _ _ g1), SqL.of (S _ _ g2)⟩) r1 r2)⟩⟩
    · rename_i xs ys
      obtain ⟨v, t, rfl, r1, r2⟩ := r.inv_cons
      obtain ⟨u, t, rfl, r2, r3⟩ := r2.inv_cons
      rw [r3.inv_nil]
      simp only [Rp] at r1 r2
      obtain ⟨a, vs, rfl, g1, r1⟩ := r1
      obtain ⟨b, us, rfl, g2, r2⟩ := r2
      exact ⟨a, b, vs, us, rfl, .inr ⟨SqT.of (vw_sub _ _ g1), SqT.of (vw_sub _ _ g2), q _ H1 D1 S1 (walk_of_zip walk_zipT (fun H2 S => ⟨SqT.of (S _ _ g1), SqT.of (S _ _ g2)⟩) r1 r2)⟩⟩
    · exact q.elim) z)
theorem di_zip {elts : List Expr} {kk : Nat} (hm : X.mg "zip" = none) (ha : DA X [a, b] t n) (hg : Gl X "zip" := by exact rfl)
    (hs : starEach [a, b] X.env = (false, eval a X.env) :: starEach [b] X.env := by exact rfl) (hpl : (backTo pos (starEach [b] X.env)).any (·.1) = false := by exact rfl) : DI X (.Tuple elts kk tpos) (.Call (.Name "zip" p) [a, b] [] pos) (RZ.iZipA X.K t) (miZip n) :=
  ⟨RZ.pi_zipA hg hm ha.pa hs hpl, simIZip ha.sim⟩
end

/-! ### for -/
def loopD (g : MG) (body : MS) : List Dt → MS
  | [], D, ρ => D.nx ρ
  | x :: xs, D, ρ => g x ρ fun ρ1 => body ⟨fun ρ2 => loopD g body xs D ρ2, D.rt, D.nx, fun ρ2 => loopD g body xs D ρ2⟩ ρ1
def mFor (mi : MI) (g : MG) (body : MS) : MS := fun D ρ => mi ρ fun xs ρ1 => loopD g body xs D ρ1
theorem loopD_mono {g : TG} {mg : MG} {js : List Nat} {t : TS} {body : MS} (hg : SimG g mg js) (hb : SimS t body) {D D' : DEnds} (l : D.Le D') : ∀ (xs : List Dt) (ρ : En), loopD mg body xs D ρ → loopD mg body xs D' ρ
  | [], ρ, h => l.nx _ h
  | x :: xs, ρ, h => hg.mono _ _ _ _ (fun ρ1 => hb.mono ⟨fun ρ2 => loopD mg body xs D ρ2, D.rt, D.nx, fun ρ2 => loopD mg body xs D ρ2⟩ _ _ ⟨fun ρ2 => loopD_mono hg hb l xs ρ2, l.rt, l.nx, fun ρ2 => loopD_mono hg hb l xs ρ2⟩) h
theorem simFor {wi : TI} {mi : MI} {g : TG} {mg : MG} {js : List Nat} {t : TS} {body : MS} (hi : SimI wi mi) (hg : SimG g mg js) (hb : SimS t body) : SimS (tFor wi g t) (mFor mi mg body) where
  mono := fun D D' ρ l => hi.mono _ _ _ fun xs ρ1 => loopD_mono hg hb l xs ρ1
  run := fun W ρ σ H D R z => hi.run W ρ σ H _ R (hi.mono _ _ _ (fun xs ρ1 q J H1 R1 S1 w => by
    obtain ⟨G, Y, wk, hG, hY⟩ := w
    refine for_it wk (fun i σ' H' => ∃ ρ', DRel W ρ' σ' H' ∧ Step W ρ1 H1 ρ' H' ∧ loopD mg body (xs.drop i) (look W ρ H D) ρ') ⟨ρ1, R1, .refl, q⟩ (fun i σ' H' _ ⟨ρ', R', S', _⟩ => hG _ fun a o e => vw_sub _ _ (S'.sub a o e)) ?_ ?_
    · rintro i x σ' H' H2 hlt ⟨ρ', R', S', q'⟩ y
      obtain ⟨d, hd, alt⟩ := hY i x H' H2 hlt y
      obtain ⟨R2, S2, r2⟩ := walk_item R' S'.sub alt
      have ed : xs.drop i = d :: xs.drop (i + 1) := by
        have := List.drop_eq_getElem_cons hlt
        rw [this]
        have : xs[i] = d := by
          have := List.getElem?_eq_getElem hlt
          rw [hd] at this; exact (Option.some.inj this).symm
        rw [this]
      rw [ed] at q'
      refine hg.run W ρ' σ' H2 _ d x R2 r2 (hg.mono _ _ _ _ (fun ρ3 q3 σ3 R3 S3 _ => ?_) q')
      refine hb.run W ρ3 σ3 H2 _ R3 (hb.mono ⟨fun ρ2 => loopD mg body (xs.drop (i + 1)) (look W ρ H D) ρ2, (look W ρ H D).rt, (look W ρ H D).nx, fun ρ2 => loopD mg body (xs.drop (i + 1)) (look W ρ H D) ρ2⟩ _ _ ⟨fun ρ4 q4 σ4 H4 R4 S4 => ?_, fun d n q4 v H4 r4 => ?_, fun ρ4 q4 σ4 H4 R4 S4 => ?_, fun ρ4 q4 σ4 H4 R4 S4 => ?_⟩ q3)
      · exact ⟨ρ4, R4, S'.trans (S2.trans (S3.trans S4)), q4⟩
      · exact q4 v H4 (r4.back (S1.trans (S'.trans (S2.trans S3))))
      · exact q4 σ4 H4 R4 (S1.trans (S'.trans (S2.trans (S3.trans S4))))
      · exact ⟨ρ4, R4, S'.trans (S2.trans (S3.trans S4)), q4⟩
    · rintro σ' H' ⟨ρ', R', S', q'⟩
      rw [List.drop_length] at q'
      exact q' σ' H' R' (S1.trans S')) z)
theorem ds_for {X : Cx} {tg iter : Expr} {bd : List Stmt} {pos : Pos} {wi : TI} {mi : MI} {g : TG} {mg : MG} {js : List Nat} {t : TS} {body : MS} (hp : PassesOwn (model X.prog X.w) X.A X.env X.xe) (hc : X.calm = true) (hi : DI X tg iter wi mi) (hg : DG X tg g mg js) (hb : DSs X bd t body)
    (hs : ∀ x, foldedSetIterable iter X.env x = pure x := by exact fun _ => rfl) : DS X (.For tg iter bd [] pos) (tFor wi g t) (mFor mi mg body) := ⟨ps_for hp hc hi.pi hg.pg hb.ps hs, simFor hi.sim hg.sim hb.sim⟩

/-! ### while: by an invariant of one's own -/
def mWhile (c : MT) (body : MS) : MS := fun D ρ => ∃ P : Nat → En → Prop, (∃ n, P n ρ) ∧ ∀ n ρ1, P n ρ1 → c ρ1 fun b ρ2 => if b = true then body ⟨fun ρ3 => ∃ m, m < n ∧ P m ρ3, D.rt, D.nx, fun ρ3 => ∃ m, m < n ∧ P m ρ3⟩ ρ2 else D.nx ρ2

/-! ### comprehensions -/
/-- the block's own names forgotten -/
def wipeE (ρ : En) (vs : List Nat) : En := ⟨ρ.n, vs.foldr (fun v sl => sl.set v .un) ρ.sl⟩
def compD (g : MG) (tt : MT) (el : ME) (vs : List Nat) : List Dt → List Dt → (List Dt → En → Prop) → En → Prop
  | [], acc, Q, ρ => Q acc (wipeE ρ vs)
  | x :: xs, acc, Q, ρ => g x (wipeE ρ vs) fun ρ1 => tt ρ1 fun b ρ2 => if b = true then el ρ2 fun d ρ3 => acc.length < sizeLine ∧ compD g tt el vs xs (acc ++ [d]) Q ρ3 else compD g tt el vs xs acc Q ρ2
def mComp (mi : MI) (g : MG) (tt : MT) (el : ME) (vs : List Nat) : MF := fun ρ Q => mi ρ fun xs ρ1 => compD g tt el vs xs [] Q ρ1
theorem wipe_get : ∀ (vs : List Nat) (σ : L2.St) (j : Nat), (wipe σ vs)[j]? = if j ∈ vs then (σ[j]?).map (fun _ => none) else σ[j]?
  | [], σ, j => by simp [wipe]
  | v :: vs, σ, j => by
    unfold wipe
    by_cases e : v = j
    · subst e
      rw [if_pos (by simp)]
      by_cases hl : v < σ.length
      · rw [List.getElem?_set_self (by rw [wipe_length]; exact hl), List.getElem?_eq_getElem hl]; rfl
      · rw [List.getElem?_eq_none (by simp [wipe_length]; omega), List.getElem?_eq_none (by omega)]; rfl
    · rw [List.getElem?_set_ne e, wipe_get vs σ j]
      have : (j ∈ v :: vs) ↔ j ∈ vs := by
        rw [List.mem_cons]
        exact ⟨fun h => h.elim (fun q => absurd q.symm e) id, .inr⟩
      by_cases h : j ∈ vs
      · rw [if_pos h, if_pos (this.mpr h)]
      · rw [if_neg h, if_neg (fun q => h (this.mp q))]
theorem wipe_eq {vs js : List Nat} {σ σ' : L2.St} (h : Kept js (wipe σ vs) σ') (hs : ∀ j ∈ js, j ∈ vs) : wipe σ' vs = wipe σ vs := by
  apply List.ext_getElem?
  intro j
  have hl : σ'.length = σ.length := by rw [h.1, wipe_length]
  rw [wipe_get, wipe_get]
  by_cases hj : j ∈ vs
  · rw [if_pos hj, if_pos hj]
    by_cases hlt : j < σ.length
    · rw [List.getElem?_eq_getElem hlt, List.getElem?_eq_getElem (by omega)]; rfl
    · rw [List.getElem?_eq_none (by omega), List.getElem?_eq_none (by omega)]
  · rw [if_neg hj, if_neg hj, h.2 j fun q => hj (hs j q), wipe_get, if_neg hj]
theorem fold_un_len (vs : List Nat) (sl : List SV) : (vs.foldr (fun v sl => sl.set v SV.un) sl).length = sl.length := by
  induction vs with
  | nil => rfl
  | cons v vs ih => rw [List.foldr_cons, List.length_set, ih]
theorem fold_un : ∀ (vs : List Nat) (sl : List SV) (j : Nat) (s : SV), (vs.foldr (fun v sl => sl.set v SV.un) sl)[j]? = some s → (j ∈ vs ∧ s = .un) ∨ (j ∉ vs ∧ sl[j]? = some s)
  | [], sl, j, s, h => .inr ⟨by simp, h⟩
  | v :: vs, sl, j, s, h => by
    rw [List.foldr_cons] at h
    rcases get_set h with ⟨rfl, e, _⟩ | ⟨hj, h⟩
    · exact .inl ⟨by simp, e⟩
    · rcases fold_un vs sl j s h with ⟨a, b⟩ | ⟨a, b⟩
      · exact .inl ⟨by simp [a], b⟩
      · exact .inr ⟨by simp [a, hj], b⟩
/-- some slots are forgotten, σ keeps or loses them -/
theorem DRel.wipe {W : Wd} {ρ : En} {σ σ' : L2.St} {H : Hp} (R : DRel W ρ σ H) {vs : List Nat} (hl : σ'.length = σ.length) (h : ∀ j, j ∉ vs → σ'[j]? = σ[j]?) : DRel W (wipeE ρ vs) σ' H ∧ Step W ρ H (wipeE ρ vs) H := by
  have S : Step W ρ H (wipeE ρ vs) H := step_of_owns fun a q => by
    obtain ⟨j, xs, e⟩ := mem_owns.mp q
    rcases fold_un vs ρ.sl j _ e with ⟨_, z⟩ | ⟨_, z⟩
    · cases z
    · exact mem_owns.mpr ⟨j, xs, z⟩
  refine ⟨⟨by rw [hl, R.len]; exact (fold_un_len vs ρ.sl).symm, R.j, fun j y e => ?_, fun j a xs e => ?_, fun j k a xs ys e1 e2 => ?_⟩, S⟩
  · rcases fold_un vs ρ.sl j _ e with ⟨_, z⟩ | ⟨hj, z⟩
    · cases z
    · obtain ⟨w, h1, h2⟩ := R.dat j y z
      exact ⟨w, by rw [h j hj]; exact h1, h2.step S⟩
  · rcases fold_un vs ρ.sl j _ e with ⟨_, z⟩ | ⟨hj, z⟩
    · cases z
    · obtain ⟨h1, h2, us, h3, h4⟩ := R.own j a xs z
      exact ⟨by rw [h j hj]; exact h1, h2, us, h3, h4.step S⟩
  · rcases fold_un vs ρ.sl j _ e1 with ⟨_, z⟩ | ⟨_, z⟩
    · cases z
    · rcases fold_un vs ρ.sl k _ e2 with ⟨_, z2⟩ | ⟨_, z2⟩
      · cases z2
      · exact R.inj j k a xs ys z z2
/-- a world in which the list at D stands as vs -/
def Wd.add (W : Wd) (D : Addr) (vs : List V) : Wd := ⟨W.ss, D :: W.fz, fun a => if a = D then some (.lst vs) else W.H0 a⟩
theorem add_mem {W : Wd} {D a : Addr} {vs : List V} : a ∈ (W.add D vs).M ↔ a = D ∨ a ∈ W.M := by
  simp only [Wd.M, Wd.add, List.mem_append, List.mem_cons]
  constructor
  · rintro (h | h | h)
    · exact .inr (.inl h)
    · exact .inl h
    · exact .inr (.inr h)
  · rintro (h | h | h)
    · exact .inr (.inl h)
    · exact .inl h
    · exact .inr (.inr h)
/-- a new list is laid at D: the world with it -/
theorem DRel.add {W : Wd} {ρ : En} {σ : L2.St} {H : Hp} (R : DRel W ρ σ H) {D : Addr} (vs : List V) (hD : H D = none) : DRel (W.add D vs) ρ σ (upd H D (.lst vs)) := by
  have fr := R.fresh hD
  have sub : Sub (vw W ρ H) (vw (W.add D vs) ρ (upd H D (.lst vs))) := fun a o e => by
    rw [vw_some] at e ⊢
    have ne := ne_of_none e.2.2 hD
    exact ⟨fun q => (add_mem.mp q).elim ne e.1, e.2.1, by rw [upd_ne ne]; exact e.2.2⟩
  refine ⟨R.len, ⟨fun a ha => ?_, ?_⟩, fun i x e => ?_, fun i a xs e => ?_, R.inj⟩
  · show upd H D (.lst vs) a = (if a = D then some (HO.lst vs) else W.H0 a) ∧ (if a = D then some (HO.lst vs) else W.H0 a) ≠ none
    by_cases ea : a = D
    · subst ea
      rw [upd_same, if_pos rfl]
      exact ⟨rfl, by simp⟩
    · rw [upd_ne ea, if_neg ea]
      exact R.j.1 a ((List.mem_cons.mp ha).resolve_left ea)
  · have j := (R.j.keep (H' := upd H D (.lst vs)) fun a ha => upd_ne fun z => fr.1 (z ▸ ha)).2
    obtain ⟨ss, fz, H0⟩ := W
    cases ss with
    | none => trivial
    | some p =>
      obtain ⟨s, c⟩ := p
      obtain ⟨h1, h2, h3⟩ := j
      have a1 : s ≠ D := fun z => fr.1 (by simp [Wd.M, ssM, z])
      have a2 : c ≠ D := fun z => fr.1 (by simp [Wd.M, ssM, z])
      exact ⟨h1, fun q => (List.mem_cons.mp q).elim a1 h2, fun q => (List.mem_cons.mp q).elim a2 h3⟩
  · obtain ⟨v, h1, h2⟩ := R.dat i x e
    exact ⟨v, h1, h2.mono sub⟩
  · obtain ⟨h1, h2, us, h3, h4⟩ := R.own i a xs e
    exact ⟨h1, fun q => (add_mem.mp q).elim (ne_of_none h3 hD) h2, us, by rw [upd_ne (ne_of_none h3 hD)]; exact h3, h4.mono sub⟩
theorem add_at {W : Wd} {ρ : En} {σ : L2.St} {H : Hp} {D : Addr} {vs : List V} (R : DRel (W.add D vs) ρ σ H) : H D = some (.lst vs) := by
  have := (R.j.1 D (by simp [Wd.add])).1
  rw [this]
  simp [Wd.add]
/-- the list at D is written: the world with the new one -/
theorem DRel.readd {W : Wd} {ρ : En} {σ : L2.St} {H : Hp} {D : Addr} {vs : List V} (R : DRel (W.add D vs) ρ σ H) (ws : List V) : DRel (W.add D ws) ρ σ (upd H D (.lst ws)) ∧ Sub (vw (W.add D vs) ρ H) (vw (W.add D ws) ρ (upd H D (.lst ws))) := by
  have sub : Sub (vw (W.add D vs) ρ H) (vw (W.add D ws) ρ (upd H D (.lst ws))) := fun a o e => by
    rw [vw_some] at e ⊢
    have ne : a ≠ D := fun z => e.1 (add_mem.mpr (.inl z))
    exact ⟨fun q => (add_mem.mp q).elim ne fun z => e.1 (add_mem.mpr (.inr z)), e.2.1, by rw [upd_ne ne]; exact e.2.2⟩
  refine ⟨⟨R.len, ⟨fun a ha => ?_, ?_⟩, fun i x e => ?_, fun i a xs e => ?_, R.inj⟩, sub⟩
  · show upd H D (.lst ws) a = (if a = D then some (HO.lst ws) else W.H0 a) ∧ (if a = D then some (HO.lst ws) else W.H0 a) ≠ none
    by_cases ea : a = D
    · subst ea
      rw [upd_same, if_pos rfl]
      exact ⟨rfl, by simp⟩
    · rw [upd_ne ea, if_neg ea]
      have := R.j.1 a ha
      simp only [Wd.add, if_neg ea] at this
      exact this
  · obtain ⟨ss, fz, H0⟩ := W
    cases ss with
    | none => trivial
    | some p =>
      obtain ⟨s, c⟩ := p
      obtain ⟨_, ⟨h0, ns, x, e, h1, h2, r⟩, h3, h4⟩ := R.j
      have a1 : s ≠ D := fun z => h3 (by simp [Wd.add, z])
      have a2 : c ≠ D := fun z => h4 (by simp [Wd.add, z])
      exact ⟨⟨h0, ns, x, e, by rw [upd_ne a1]; exact h1, by rw [upd_ne a2]; exact h2, r⟩, h3, h4⟩
  · obtain ⟨v, h1, h2⟩ := R.dat i x e
    exact ⟨v, h1, h2.mono sub⟩
  · obtain ⟨h1, h2, us, h3, h4⟩ := R.own i a xs e
    have ne : a ≠ D := fun z => h2 (add_mem.mpr (.inl z))
    exact ⟨h1, fun q => (add_mem.mp q).elim ne fun z => h2 (add_mem.mpr (.inr z)), us, by rw [upd_ne ne]; exact h3, h4.mono sub⟩
/-- back to the world without D -/
theorem DRel.unadd {W : Wd} {ρ : En} {σ : L2.St} {H : Hp} {D : Addr} {vs : List V} (R : DRel (W.add D vs) ρ σ H) (hW : D ∉ W.M) : DRel W ρ σ H := by
  have sub : Sub (vw (W.add D vs) ρ H) (vw W ρ H) := fun a o e => by
    rw [vw_some] at e ⊢
    exact ⟨fun q => e.1 (add_mem.mpr (.inr q)), e.2.1, e.2.2⟩
  refine ⟨R.len, ⟨fun a ha => ?_, ?_⟩, fun i x e => ?_, fun i a xs e => ?_, R.inj⟩
  · have ne : a ≠ D := fun z => hW (z ▸ List.mem_append_right _ ha)
    have := R.j.1 a (List.mem_cons_of_mem _ ha)
    simp only [Wd.add, if_neg ne] at this
    exact this
  · obtain ⟨ss, fz, H0⟩ := W
    cases ss with
    | none => trivial
    | some p =>
      obtain ⟨s, c⟩ := p
      obtain ⟨_, h1, h3, h4⟩ := R.j
      exact ⟨h1, fun q => h3 (List.mem_cons_of_mem _ q), fun q => h4 (List.mem_cons_of_mem _ q)⟩
  · obtain ⟨v, h1, h2⟩ := R.dat i x e
    exact ⟨v, h1, h2.mono sub⟩
  · obtain ⟨h1, h2, us, h3, h4⟩ := R.own i a xs e
    exact ⟨h1, fun q => h2 (add_mem.mpr (.inr q)), us, h3, h4.mono sub⟩
theorem compD_mono {g : TG} {mg : MG} {js : List Nat} {tt : TT} {mt : MT} {te : TE} {el : ME} {vs : List Nat} (hg : SimG g mg js) (ht : SimT tt mt) (he : SimE te el) {Q Q' : List Dt → En → Prop} (l : ∀ d ρ, Q d ρ → Q' d ρ) :
    ∀ (xs acc : List Dt) (ρ : En), compD mg mt el vs xs acc Q ρ → compD mg mt el vs xs acc Q' ρ
  | [], acc, ρ, h => l _ _ h
  | x :: xs, acc, ρ, h => hg.mono _ _ _ _ (fun ρ1 => ht.mono _ _ _ fun b ρ2 z => by
    cases b
    · exact compD_mono hg ht he l xs acc ρ2 z
    · exact he.mono _ _ _ (fun d ρ3 z => ⟨z.1, compD_mono hg ht he l xs _ ρ3 z.2⟩) z) h
theorem wipe_idem (ρ : En) (vs : List Nat) : wipeE (wipeE ρ vs) vs = wipeE ρ vs := by
  show (⟨ρ.n, _⟩ : En) = ⟨ρ.n, _⟩
  congr 1
  apply List.ext_getElem?
  intro j
  cases e1 : (vs.foldr (fun v sl => sl.set v SV.un) ρ.sl)[j]? with
  | none =>
    have h1 := List.getElem?_eq_none_iff.mp e1
    rw [fold_un_len] at h1
    exact List.getElem?_eq_none (by show (vs.foldr (fun v sl => sl.set v SV.un) (vs.foldr (fun v sl => sl.set v SV.un) ρ.sl)).length ≤ j; rw [fold_un_len, fold_un_len]; exact h1)
  | some s1 =>
    have hlt : j < (vs.foldr (fun v sl => sl.set v SV.un) (vs.foldr (fun v sl => sl.set v SV.un) ρ.sl)).length := by
      rw [fold_un_len]; exact (List.getElem?_eq_some_iff.mp e1).1
    show (vs.foldr (fun v sl => sl.set v SV.un) (vs.foldr (fun v sl => sl.set v SV.un) ρ.sl))[j]? = _
    rw [List.getElem?_eq_getElem hlt]
    congr 1
    have e2 := List.getElem?_eq_getElem hlt
    rcases fold_un _ _ _ _ e2 with ⟨hj, z⟩ | ⟨hj, z⟩
    · rw [z]
      rcases fold_un _ _ _ _ e1 with ⟨_, z1⟩ | ⟨hj1, _⟩
      · exact z1.symm
      · exact absurd hj hj1
    · rw [e1] at z
      exact (Option.some.inj z).symm
theorem compD_wipe {g : MG} {tt : MT} {el : ME} {vs : List Nat} {Q : List Dt → En → Prop} {acc : List Dt} {ρ : En} : ∀ {xs : List Dt}, compD g tt el vs xs acc Q ρ → compD g tt el vs xs acc Q (wipeE ρ vs)
  | [], h => by
    show Q acc (wipeE (wipeE ρ vs) vs)
    rw [wipe_idem]
    exact h
  | y :: ys, h => by
    unfold compD at h ⊢
    rw [wipe_idem]
    exact h
theorem add_vw {W : Wd} {ρ : En} {L : Addr} {av : List V} {H : Hp} : Sub (vw (W.add L av) ρ H) (hid (L :: (W.M ++ owns ρ.sl)) H) := fun a o e => by
  rw [vw_some] at e
  rw [hid_some]
  refine ⟨fun q => ?_, e.2.2⟩
  rcases List.mem_cons.mp q with q | q
  · exact e.1 (add_mem.mpr (.inl q))
  · rcases List.mem_append.mp q with q | q
    · exact e.1 (add_mem.mpr (.inr q))
    · exact e.2.1 q
theorem simComp {wi : TI} {mi : MI} {g : TG} {mg : MG} {js : List Nat} {tt : TT} {mt : MT} {te : TE} {el : ME} {vs : List Nat} (hi : SimI wi mi) (hg : SimG g mg js) (hjs : ∀ j ∈ js, j ∈ vs) (ht : SimT tt mt) (he : SimE te el) : SimF (tLc wi g tt te vs) (mComp mi mg mt el vs) where
  mono := fun ρ Q Q' l => hi.mono _ _ _ fun xs ρ1 => compD_mono hg ht he l xs [] ρ1
  run := fun W ρ σ H R D z => hi.run W ρ σ H _ D (hi.mono _ _ _ (fun xs ρ1 q J H1 D1 S1 w => by
    obtain ⟨G, Y, wk, hG, hY⟩ := w
    intro L hL
    have fr := D1.fresh hL
    have wl : ∀ σ : L2.St, (wipe σ vs).length = σ.length := fun σ => wipe_length σ vs
    -- the invariant
    refine lc_it wk (D := L) (fun i H' => ∃ ρ' acc av, DRel (W.add L av) ρ' σ H' ∧ RpL W.sa (vw (W.add L av) ρ' H') acc av ∧ Step W ρ1 H1 ρ' H' ∧ Sub (vw W ρ1 H1) (vw (W.add L av) ρ' H') ∧
      compD mg mt el vs (xs.drop i) acc (fun xs ρ' => ∀ a H', DRel W ρ' σ H' → Step W ρ H ρ' H' → Apart W ρ H ρ' σ a xs H' → R (.ref a) H') ρ') ?_ (fun i H' _ ⟨ρ', acc, av, R', _, S', sub, _⟩ => hG _ fun a o e => vw_sub _ _ (sub a o e)) ?_ ?_
    · have Da := D1.add (D := L) [] hL
      refine ⟨ρ1, [], [], Da, .nil, (D1.alloc hL).2, fun a o e => ?_, q⟩
      rw [vw_some] at e ⊢
      have ne := ne_of_none e.2.2 hL
      exact ⟨fun q => (add_mem.mp q).elim ne e.1, e.2.1, by rw [upd_ne ne]; exact e.2.2⟩
    · rintro i x H' H2 hlt ⟨ρ', acc, av, R', ra, S', sub, q'⟩ y
      obtain ⟨d, hd, alt⟩ := hY i x H' H2 hlt y
      obtain ⟨R2, S2, r2⟩ := walk_item R' sub alt
      have ed : xs.drop i = d :: xs.drop (i + 1) := by
        have := List.drop_eq_getElem_cons hlt
        rw [this]
        have : xs[i] = d := by
          have := List.getElem?_eq_getElem hlt
          rw [hd] at this; exact (Option.some.inj this).symm
        rw [this]
      rw [ed] at q'
      obtain ⟨R3, S3⟩ := R2.wipe (vs := vs) (wl σ) fun j hj => by rw [wipe_get, if_neg hj]
      -- steps within the world with L are steps of W
      have stepW : ∀ {ρa ρb : En} {σa σb : L2.St} {Ha Hb : Hp}, DRel (W.add L av) ρa σa Ha → DRel (W.add L av) ρb σb Hb → Step (W.add L av) ρa Ha ρb Hb → Step W ρa Ha ρb Hb := fun {ρa ρb σa σb Ha Hb} Ra Rb S => ⟨fun a o hm ho e => by
        by_cases ea : a = L
        · subst ea
          rw [add_at Ra] at e
          rw [add_at Rb]; exact e
        · exact S.ext a o (fun z => (add_mem.mp z).elim ea hm) ho e, S.dom, S.new⟩
      refine hg.run _ _ _ H2 _ d x R3 (r2.step S3) (hg.mono _ _ _ _ (fun ρ4 q4 σ4 R4 S4 kp => ?_) q')
      have ew : wipe σ4 vs = wipe σ vs := wipe_eq kp hjs
      have el4 : σ.length = σ4.length := by rw [kp.1, wl]
      have ek : ∀ j, j ∉ vs → σ[j]? = σ4[j]? := fun j hj => by
        have := congrArg (fun l => l[j]?) ew
        simp only [wipe_get, if_neg hj] at this
        exact this.symm
      refine ⟨ew, ht.run _ _ _ H2 _ R4 (ht.mono _ _ _ (fun b ρ5 q5 H5 R5 S5 => ?_) q4)⟩
      have S25 := S2.trans (S3.trans (S4.trans S5))
      cases b
      · rw [if_neg Bool.false_ne_true] at q5 ⊢
        obtain ⟨R6, S6⟩ := R5.wipe (vs := vs) el4 ek
        exact ⟨wipeE ρ5 vs, acc, av, R6, ra.step (S25.trans S6), S'.trans (stepW R' R6 (S25.trans S6)), fun a o e => (S25.trans S6).sub a o (sub a o e), compD_wipe q5⟩
      · rw [if_pos rfl] at q5 ⊢
        refine he.run _ _ _ H5 _ R5 (he.mono _ _ _ (fun d2 ρ6 q6 v2 H6 R6 S6 r6 => ?_) q5)
        obtain ⟨R7, S7⟩ := R6.wipe (vs := vs) el4 ek
        have S27 := S25.trans (S6.trans S7)
        have ra' := ra.step (S2.trans (S3.trans (S4.trans (S5.trans (S6.trans S7)))))
        refine ⟨av, add_at R6, by rw [ra.length]; exact q6.1, ?_⟩
        obtain ⟨R8, sub8⟩ := R7.readd (av ++ [v2])
        refine ⟨wipeE ρ6 vs, acc ++ [d2], av ++ [v2], R8, (ra'.append (.cons (r6.step S7) .nil)).mono sub8, ?_, fun a o e => sub8 a o ((S2.trans (S3.trans (S4.trans (S5.trans (S6.trans S7))))).sub a o (sub a o e)), ?_⟩
        · have SW := S'.trans (stepW R' R7 S27)
          refine ⟨fun a o hm ho e => ?_, fun a e => ?_, SW.new⟩
          · rw [upd_ne (ne_of_none e hL)]; exact SW.ext a o hm ho e
          · by_cases ea : a = L
            · subst ea; rw [upd_same]; simp
            · rw [upd_ne ea]; exact SW.dom a e
        · exact compD_wipe q6.2
    · rintro H' ⟨ρ', acc, av, R', ra, S', sub, q'⟩
      rw [List.drop_length] at q'
      obtain ⟨R9, S9⟩ := R'.wipe (vs := vs) (σ' := σ) rfl fun _ _ => rfl
      have Sw := ((R'.unadd fr.1).wipe (vs := vs) (σ' := σ) rfl fun _ _ => rfl).2
      refine q' L H' (R9.unadd fr.1) (S1.trans (S'.trans Sw)) ⟨fr.1, fun q => ?_, Classical.byContradiction fun z => S1.dom L z hL, ⟨av, add_at R', (ra.step S9).mono add_vw⟩, fun j x e => ?_, fun j b ys e => ?_⟩
      · obtain ⟨i, xs', e⟩ := mem_owns.mp q
        exact (R9.own i L xs' e).2.1 (add_mem.mpr (.inl rfl))
      · obtain ⟨v, h1, h2⟩ := R9.dat j x e
        exact ⟨v, h1, h2.mono add_vw⟩
      · obtain ⟨h1, h2, us, h3, h4⟩ := R9.own j b ys e
        exact ⟨us, h3, h4.mono add_vw⟩) z)

/-- a list that was just made, as a datum -/
def mData (mf : MF) : ME := fun ρ Q => mf ρ fun xs ρ1 => Q (.lst xs) ρ1
theorem apart_data {W : Wd} {ρ ρ1 : En} {σ : L2.St} {H H1 : Hp} {a : Addr} {xs : List Dt} (ap : Apart W ρ H ρ1 σ a xs H1) : Rp W.sa (vw W ρ1 H1) (.lst xs) (.ref a) := by
  obtain ⟨h1, h2, h3, ⟨vs, h4, h5⟩, h6, h7⟩ := ap
  simp only [Rp]
  refine ⟨a, vs, rfl, vw_some.mpr ⟨h1, h2, h4⟩, h5.mono fun b o e => ?_⟩
  rw [hid_some] at e
  rw [vw_some]
  exact ⟨fun q => e.1 (by simp [q]), fun q => e.1 (by simp [q]), e.2⟩
theorem simData {t : TE} {mf : MF} (h : SimF t mf) : SimE t (mData mf) where
  mono := fun ρ Q Q' l => h.mono _ _ _ fun xs ρ1 => l _ _
  run := fun W ρ σ H R D z => h.run W ρ σ H R D (h.mono _ _ _ (fun xs ρ1 q a H1 D1 S1 ap => q (.ref a) H1 D1 S1 (apart_data ap)) z)
section
variable {X : Cx} {tg iter elt : Expr} {ifs : List Expr} {scope : Scope} {own : List (Str × Nat)} {pos spos : Pos} {wi : TI} {mi : MI} {g : TG} {mg : MG} {js : List Nat} {tt : TT} {mt : MT} {te : TE} {el : ME}
structure DTs (X : Cx) (ifs : List Expr) (t : TT) (m : MT) : Prop where
  pts : PTs X ifs t
  sim : SimT t m
def mTYes : MT := fun ρ Q => Q true ρ
theorem dts_nil : DTs X [] tYes mTYes := ⟨pts_nil, ⟨fun _ _ _ q => q _ _, fun W ρ σ H R D z => z H D .refl⟩⟩
theorem dts_one {c : Expr} {t : TT} {m : MT} (h : DT X c t m) : DTs X [c] t m := ⟨pts_one h.pt, h.sim⟩
/-- [elt for tg in iter if ..] -/
theorem df_comp (hc : X.calm = true) (hN : X.N.Nodup) (hi : DI X tg iter wi mi) (ok : BlkOk X.N X.env.scope scope own)
    (hg : ∀ (s : Shared) (H : Hp) (C : Addr) (cl : List (Str × Addr)) (fp : List Addr), DG (X.blk s H scope (compEnvC scope cl C X.env) fp) tg g mg js) (ht : ∀ (s : Shared) (H : Hp) (C : Addr) (cl : List (Str × Addr)) (fp : List Addr), DTs (X.blk s H scope (compEnvC scope cl C X.env) fp) ifs tt mt)
    (he : ∀ (s : Shared) (H : Hp) (C : Addr) (cl : List (Str × Addr)) (fp : List Addr), DE (X.blk s H scope (compEnvC scope cl C X.env) fp) elt te el) (hjs : ∀ j ∈ js, j ∈ own.map (·.2) := by decide) (hs : ∀ x, foldedSetIterable iter X.env x = pure x := by exact fun _ => rfl) :
    DF X (.ListComp elt [⟨tg, iter, ifs, 0⟩] scope pos) (tLc wi g tt te (own.map (·.2))) (mComp mi mg mt el (own.map (·.2))) :=
  ⟨pe_lc hc hN hi.pi ok (fun s H C cl fp => (hg s H C cl fp).pg) (fun s H C cl fp => (ht s H C cl fp).pts) (fun s H C cl fp => (he s H C cl fp).pe) hs, simComp hi.sim (hg ({} : Shared) (fun _ => none) 0 [] []).sim hjs (ht ({} : Shared) (fun _ => none) 0 [] []).sim (he ({} : Shared) (fun _ => none) 0 [] []).sim⟩
/-- y = [..] on a line of its own, y a local -/
theorem ds_setComp {i : Nat} {y : Str} {py : Pos} (hc : X.calm = true) (hN : X.N.Nodup) (hi : DI X tg iter wi mi) (ok : BlkOk X.N X.env.scope scope own)
    (hg : ∀ (s : Shared) (H : Hp) (C : Addr) (cl : List (Str × Addr)) (fp : List Addr), DG (X.blk s H scope (compEnvC scope cl C X.env) fp) tg g mg js) (ht : ∀ (s : Shared) (H : Hp) (C : Addr) (cl : List (Str × Addr)) (fp : List Addr), DTs (X.blk s H scope (compEnvC scope cl C X.env) fp) ifs tt mt)
    (he : ∀ (s : Shared) (H : Hp) (C : Addr) (cl : List (Str × Addr)) (fp : List Addr), DE (X.blk s H scope (compEnvC scope cl C X.env) fp) elt te el)
    (hsw : swapsWith (.ListComp elt [⟨tg, iter, ifs, 0⟩] scope pos) (some (.Name y py)) spos.line X.env = pure true) (hy : X.N[i]? = some y := by rfl) (hyl : X.env.scope.names.lookup y = some .local := by rfl) (hjs : ∀ j ∈ js, j ∈ own.map (·.2) := by decide) (hs : ∀ x, foldedSetIterable iter X.env x = pure x := by exact fun _ => rfl) :
    DS X (.Assign [.Name y py] (.ListComp elt [⟨tg, iter, ifs, 0⟩] scope pos) spos) (tAsg (tLc wi g tt te (own.map (·.2))) (gName i)) (mAsg (mData (mComp mi mg mt el (own.map (·.2)))) (gmName i)) :=
  ⟨ps_setLc hc hN hy hyl hsw hi.pi ok (fun s H C cl fp => (hg s H C cl fp).pg) (fun s H C cl fp => (ht s H C cl fp).pts) (fun s H C cl fp => (he s H C cl fp).pe) hs,
    simAsg (simData (simComp hi.sim (hg ({} : Shared) (fun _ => none) 0 [] []).sim hjs (ht ({} : Shared) (fun _ => none) 0 [] []).sim (he ({} : Shared) (fun _ => none) 0 [] []).sim)) (simGName i)⟩
theorem ds_ownComp {i : Nat} {y : Str} {py : Pos} (hc : X.calm = true) (hN : X.N.Nodup) (hi : DI X tg iter wi mi) (ok : BlkOk X.N X.env.scope scope own)
    (hg : ∀ (s : Shared) (H : Hp) (C : Addr) (cl : List (Str × Addr)) (fp : List Addr), DG (X.blk s H scope (compEnvC scope cl C X.env) fp) tg g mg js) (ht : ∀ (s : Shared) (H : Hp) (C : Addr) (cl : List (Str × Addr)) (fp : List Addr), DTs (X.blk s H scope (compEnvC scope cl C X.env) fp) ifs tt mt)
    (he : ∀ (s : Shared) (H : Hp) (C : Addr) (cl : List (Str × Addr)) (fp : List Addr), DE (X.blk s H scope (compEnvC scope cl C X.env) fp) elt te el)
    (hsw : swapsWith (.ListComp elt [⟨tg, iter, ifs, 0⟩] scope pos) (some (.Name y py)) spos.line X.env = pure true) (hy : X.N[i]? = some y := by rfl) (hyl : X.env.scope.names.lookup y = some .local := by rfl) (hjs : ∀ j ∈ js, j ∈ own.map (·.2) := by decide) (hs : ∀ x, foldedSetIterable iter X.env x = pure x := by exact fun _ => rfl) :
    DS X (.Assign [.Name y py] (.ListComp elt [⟨tg, iter, ifs, 0⟩] scope pos) spos) (tAsg (tLc wi g tt te (own.map (·.2))) (gName i)) (mOwn i (mComp mi mg mt el (own.map (·.2)))) :=
  ⟨ps_setLc hc hN hy hyl hsw hi.pi ok (fun s H C cl fp => (hg s H C cl fp).pg) (fun s H C cl fp => (ht s H C cl fp).pts) (fun s H C cl fp => (he s H C cl fp).pe) hs,
    simOwn (simComp hi.sim (hg ({} : Shared) (fun _ => none) 0 [] []).sim hjs (ht ({} : Shared) (fun _ => none) 0 [] []).sim (he ({} : Shared) (fun _ => none) 0 [] []).sim)⟩
theorem DF.de {e : Expr} {t : TE} {mf : MF} (h : DF X e t mf) : DE X e t (mData mf) := ⟨h.pe, simData h.sim⟩
end

/-! ### while -/
theorem simWhile {c : TT} {mc : MT} {tb : TS} {body : MS} (hc : SimT c mc) (hb : SimS tb body) : SimS (tWhile c tb) (mWhile mc body) where
  mono := fun D D' ρ l ⟨P, h0, h⟩ => ⟨P, h0, fun n ρ1 p => hc.mono _ _ _ (fun b ρ2 z => by
    cases b
    · exact l.nx _ z
    · exact hb.mono ⟨fun ρ3 => ∃ m, m < n ∧ P m ρ3, D.rt, D.nx, fun ρ3 => ∃ m, m < n ∧ P m ρ3⟩ _ _ ⟨fun _ z => z, l.rt, fun _ z => l.nx _ z, fun _ z => z⟩ z) (h n ρ1 p)⟩
  run := fun W ρ σ H D R ⟨P, ⟨n0, h0⟩, h⟩ => by
    refine ⟨fun n σ' H' => ∃ ρ', DRel W ρ' σ' H' ∧ Step W ρ H ρ' H' ∧ P n ρ', ⟨n0, ρ, R, .refl, h0⟩, ?_⟩
    rintro n σ1 H1 ⟨ρ1, R1, S1, p1⟩
    refine hc.run W ρ1 σ1 H1 _ R1 (hc.mono _ _ _ (fun b ρ2 z H2 R2 S2 => ?_) (h n ρ1 p1))
    cases b
    · rw [if_neg Bool.false_ne_true] at z ⊢
      exact z σ1 H2 R2 (S1.trans S2)
    · rw [if_pos rfl] at z ⊢
      refine ⟨fun σ' H' => ∃ m, m < n ∧ ∃ ρ', DRel W ρ' σ' H' ∧ Step W ρ H ρ' H' ∧ P m ρ', fun σ' H' ⟨m, hm, q⟩ => ⟨m, hm, q⟩, ?_⟩
      refine hb.run W ρ2 σ1 H2 _ R2 (hb.mono ⟨fun ρ3 => ∃ m, m < n ∧ P m ρ3, (look W ρ H D).rt, (look W ρ H D).nx, fun ρ3 => ∃ m, m < n ∧ P m ρ3⟩ _ _ ⟨fun ρ3 ⟨m, hm, p⟩ σ3 H3 R3 S3 => ⟨m, hm, ρ3, R3, S1.trans (S2.trans S3), p⟩, fun d n' q v H3 r => q v H3 (r.back (S1.trans S2)), fun ρ3 q σ3 H3 R3 S3 => q σ3 H3 R3 (S1.trans (S2.trans S3)), fun ρ3 ⟨m, hm, p⟩ σ3 H3 R3 S3 => ⟨m, hm, ρ3, R3, S1.trans (S2.trans S3), p⟩⟩ z)
theorem ds_while {X : Cx} {c : Expr} {bd : List Stmt} {pos : Pos} {tc : TT} {mc : MT} {t : TS} {body : MS} (hp : PassesOwn (model X.prog X.w) X.A X.env X.xe) (hc : DT X c tc mc) (hb : DSs X bd t body) : DS X (.While c bd [] pos) (tWhile tc t) (mWhile mc body) := ⟨ps_while hp hc.pt hb.ps, simWhile hc.sim hb.sim⟩

/-! ### a def -/
def start0 (N : List Str) (n : Nat) (ds : List Dt) : En := ⟨n, ds.map SV.d ++ List.replicate (N.length - ds.length) SV.un⟩
theorem start_rel {W : Wd} {n : Nat} {N : List Str} {ds : List Dt} {vs : List V} {H : Hp} (j : W.J n H) (r : RpL W.sa (hid W.M H) ds vs) : DRel W (start0 N n ds) (L2.start N vs) H := by
  have no : ∀ (i : Nat) a xs, (start0 N n ds).sl[i]? ≠ some (.own a xs) := fun i a xs e => by
    unfold start0 at e
    by_cases hi : i < (ds.map SV.d).length
    · rw [List.getElem?_append_left hi, List.getElem?_map] at e
      cases h : ds[i]? with
      | none => rw [h] at e; cases e
      | some d => rw [h] at e; cases e
    · rw [List.getElem?_append_right (by omega), List.getElem?_replicate] at e
      split at e <;> cases e
  have ow : owns (start0 N n ds).sl = [] := by
    cases h : owns (start0 N n ds).sl with
    | nil => rfl
    | cons a l =>
      obtain ⟨i, xs, e⟩ := mem_owns.mp (show a ∈ owns (start0 N n ds).sl by rw [h]; simp)
      exact absurd e (no i a xs)
  refine ⟨?_, j, fun i x e => ?_, fun i a xs e => absurd e (no i a xs), fun i k a xs ys e => absurd e (no i a xs)⟩
  · simp [L2.start, start0, r.length]
  · unfold start0 at e
    by_cases hi : i < ds.length
    · rw [List.getElem?_append_left (by simpa using hi), List.getElem?_map] at e
      cases h : ds[i]? with
      | none => rw [h] at e; cases e
      | some d =>
        rw [h] at e; cases e
        obtain ⟨v, h1, h2⟩ := r.get h
        refine ⟨v, ?_, ?_⟩
        · unfold L2.start
          rw [List.getElem?_append_left (by simp [r.length]; omega), List.getElem?_map, h1]; rfl
        · show Rp W.sa (hid (W.M ++ owns (start0 N n ds).sl) H) x v
          rw [ow, List.append_nil]
          exact h2
    · rw [List.getElem?_append_right (by simpa using hi), List.getElem?_replicate] at e
      split at e <;> cases e
theorem owns_start {N : List Str} {n : Nat} {ds : List Dt} {a : Addr} : a ∉ owns (start0 N n ds).sl := fun h => by
  obtain ⟨i, xs, e⟩ := mem_owns.mp h
  unfold start0 at e
  by_cases hi : i < (ds.map SV.d).length
  · rw [List.getElem?_append_left hi, List.getElem?_map] at e
    cases h : ds[i]? with
    | none => rw [h] at e; cases e
    | some d => rw [h] at e; cases e
  · rw [List.getElem?_append_right (by omega), List.getElem?_replicate] at e
    split at e <;> cases e
/-- THE RULE for a def: its body's derivation, and the reading of that -/
theorem fnD {P : Program} {w : World} {K : PySem.W.Frag} {mg : Str → Option Value} {base : Heap} {x qual : Str} {st : Stmt} {f : Addr} {fd : FuncData} {N ps : List Str} {k : Nat} {S : Spc} (F : Fun K x qual st f fd) (hmg : mg x = some (.ref f)) (hbd : Binds K fd ps [])
    (Sc : FnScope N ps (defScope st)) (hS : MonoS S) (len : ∀ ds n Q, S ds n Q → ds.length = ps.length)
    {m : MS} (hbody : ∀ (cdv : Value) (A : Around) (outer : List Env) (s : Shared) (H : Hp) (E : XK), Room k (A.deeper (PyProof.Rows.envOfC qual (defScope st) s.heap.objs.size f cdv)) → ∃ t, DSs (cxOf CX0 P w K mg base N qual (defScope st) f cdv A outer s H E).nox (defBody st) t m)
    (read : ∀ ds n (Q : Dt → Nat → Prop), S ds n Q → m { nx := fun ρ => Q .non ρ.n, rt := Q } (start0 N n ds)) : Cal P w K mg base (k + 1) x ps S f fd := by
  refine ⟨F.ok Sc (fun vs H Q E h => ?_) (fun cdv A outer s H vs Q E hr h => ?_), hmg, F.kp, hbd, hS⟩
  · obtain ⟨W, n, ds, j, r, h⟩ := h
    rw [r.length]
    exact len _ _ _ h
  · obtain ⟨W, n, ds, j, r, h⟩ := h
    obtain ⟨t, hd⟩ := hbody cdv A outer s H E hr
    refine ⟨t, hd.ps, hd.sim.run W (start0 N n ds) (L2.start N vs) H _ (start_rel j r) (hd.sim.mono _ _ _ ⟨fun ρ q σ' H' R S => ?_, fun d n' q v H' rt => ?_, fun _ (q : False) => q.elim, fun _ (q : False) => q.elim⟩ (read ds n _ h))⟩
    · exact q V.non H' R.j (fun a o hm e => S.ext a o hm owns_start e) S.dom (by simp only [Rp])
    · exact q v H' rt.1 (fun a o hm e => rt.2.1 a o hm owns_start e) rt.2.2.1 rt.2.2.2
end DL

set_option Elab.async false
set_option linter.all false
set_option maxRecDepth 100000
set_option maxHeartbeats 1000000
set_option autoImplicit false
/-! DL6: the law's stream of draws; helpers. -/
namespace DL
open PySem PySem.Spec L2

/-- at most so many draws -/
abbrev CAP : Nat := 1000000000000
/-- a draw: any number below -/
def drawS : Spc := fun ds n Q => match ds with
  | [.strm, .int m] => (0 < m ∧ m ≤ 1000000000000000000000000000000 ∧ n < CAP) ∧ ∀ r, 0 ≤ r → r < m → Q (.int r) (n + 1)
  | _ => False
theorem drawS_mono : MonoS drawS := fun ds n k k' h => by
  unfold drawS
  split
  · exact fun ⟨c, q⟩ => ⟨c, fun r h0 h1 => h _ _ (q r h0 h1)⟩
  · exact id
theorem drawS_len : ∀ ds n Q, drawS ds n Q → ds.length = 2 := fun ds n Q q => by
  unfold drawS at q
  split at q
  · rfl
  · exact q.elim
/-- the stream's state in the hand layer -/
structure StA (H0 : Hp) (s c : Addr) (ns : List Int) (a n e : Int) (H : Hp) : Prop where
  hs : H s = some (.lst [.ref c, .int a, .int n, .int e])
  hc : H c = some (.lst (ns.map V.int))
  len : ns.length ≤ 63
  a0 : 0 ≤ a
  e0 : 0 ≤ e
  e1 : e < 2147483647
  rest : ∀ b o, b ≠ s → b ≠ c → H0 b = some o → H b = some o
/-- what a draw's promise says to the hand layer: from the promise over data to the two lists -/
theorem draw_in {K : PySem.W.Frag} {vs : List V} {H : Hp} {Q : VK} {E : XK} (h : dSp drawS vs H Q E) : ∃ (s c : Addr) (m : Int) (n : Nat) (ns : List Int) (a e : Int), vs = [.ref s, .int m] ∧ s ≠ c ∧ StA H s c ns a n e H ∧ (0 < m ∧ m ≤ 1000000000000000000000000000000 ∧ n < CAP) ∧
    ∀ (r : Int) (ns' : List Int) (a' e' : Int) (H' : Hp), 0 ≤ r → r < m → StA H s c ns' a' ((n : Int) + 1) e' H' → Q (.int r) H' := by
  obtain ⟨W, n, ds, j, rp, h⟩ := h
  unfold drawS at h
  split at h
  · rename_i m
    obtain ⟨v, t, rfl, r1, r2⟩ := rp.inv_cons
    obtain ⟨u, t, rfl, r4, r3⟩ := r2.inv_cons
    have := r3.inv_nil
    subst this
    simp only [Rp] at r1 r4
    obtain ⟨s, e1, rfl⟩ := r1
    subst r4
    obtain ⟨ss, fz, H0⟩ := W
    cases ss with
    | none => cases e1
    | some p =>
      obtain ⟨s', c⟩ := p
      cases e1
      obtain ⟨jf, ⟨hne, ns, a, e, h1, h2, h3, h4, h5, h6⟩, nf1, nf2⟩ := j
      refine ⟨s', c, m, n, ns, a, e, rfl, hne, ⟨h1, h2, h3, h4, h5, h6, fun _ _ _ _ q => q⟩, h.1, fun r ns' a' e' H' hr0 hr1 st => ?_⟩
      refine h.2 r hr0 hr1 (.int r) H' ⟨fun b hb => ?_, ⟨⟨hne, ns', a', e', ?_, st.hc, st.len, st.a0, st.e0, st.e1⟩, nf1, nf2⟩⟩ (fun b o hb eq => ?_) (fun b hb => ?_) (by simp only [Rp])
      · have b1 : b ≠ s' := fun z => nf1 (z ▸ hb)
        have b2 : b ≠ c := fun z => nf2 (z ▸ hb)
        obtain ⟨q1, q2⟩ := jf b hb
        refine ⟨?_, q2⟩
        cases q3 : H b with
        | none => exact absurd (q1.symm.trans q3) q2
        | some o => exact (st.rest b o b1 b2 q3).trans (q3.symm.trans q1)
      · have := st.hs
        rw [this]
        simp
      · have b1 : b ≠ s' := fun z => hb (by simp [Wd.M, ssM, z])
        have b2 : b ≠ c := fun z => hb (by simp [Wd.M, ssM, z])
        exact st.rest b o b1 b2 eq
      · by_cases b1 : b = s'
        · subst b1; rw [st.hs]; simp
        · by_cases b2 : b = c
          · subst b2; rw [st.hc]; simp
          · cases q3 : H b with
            | none => exact absurd q3 hb
            | some o => rw [st.rest b o b1 b2 q3]; simp
  · exact h.elim
theorem StA.set {H0 H : Hp} {s c : Addr} {ns : List Int} {a n e a' n' e' : Int} (st : StA H0 s c ns a n e H) (hne : s ≠ c) (h0 : 0 ≤ a') (h1 : 0 ≤ e') (h2 : e' < 2147483647) : StA H0 s c ns a' n' e' (upd H s (.lst [.ref c, .int a', .int n', .int e'])) :=
  ⟨upd_same, by rw [upd_ne hne.symm]; exact st.hc, st.len, h0, h1, h2, fun b o b1 b2 q => by rw [upd_ne b1]; exact st.rest b o b1 b2 q⟩
theorem StA.pop {H0 H : Hp} {s c : Addr} {x : Int} {ns : List Int} {a n e : Int} (st : StA H0 s c (x :: ns) a n e H) (hne : s ≠ c) : StA H0 s c ns a n e (upd H c (.lst (ns.map V.int))) :=
  ⟨by rw [upd_ne hne]; exact st.hs, upd_same, by have := st.len; simp at this; omega, st.a0, st.e0, st.e1, fun b o b1 b2 q => by rw [upd_ne b2]; exact st.rest b o b1 b2 q⟩
theorem dp_ints {K : PySem.W.Frag} {H : Hp} : ∀ {ns : List Int}, DpAll K H (ns.map V.int) (ns.map PyData.int)
  | [] => .nil
  | n :: ns => .cons (.int n) dp_ints
theorem eqv_nil : ∀ ns : List Int, PyData.eqv (.list (ns.map PyData.int)) (.list []) = ns.isEmpty
  | [] => rfl
  | _ :: _ => rfl
/-! ### a loop, a comprehension as functions of their lists -/
theorem compD_pure {g : MG} {tt : MT} {el : ME} {vs : List Nat} {Q : List Dt → En → Prop} (ρ0 : En) (keep : Dt → Bool) (f : Dt → Dt) : ∀ {xs : List Dt}
    (h : ∀ x ∈ xs, ∀ (A : Dt → En → Prop) (B : En → Prop), (keep x = true → ∀ ρ3, wipeE ρ3 vs = ρ0 → A (f x) ρ3) → (keep x = false → ∀ ρ2, wipeE ρ2 vs = ρ0 → B ρ2) → g x ρ0 (fun ρ1 => tt ρ1 fun b ρ2 => if b = true then el ρ2 A else B ρ2))
    (acc : List Dt) (ρ : En), wipeE ρ vs = ρ0 → acc.length + xs.length ≤ sizeLine → Q (acc ++ (xs.filter keep).map f) ρ0 → compD g tt el vs xs acc Q ρ
  | [], h, acc, ρ, hw, hz, q => by
    show Q acc (wipeE ρ vs)
    rw [hw]
    simpa using q
  | x :: xs, h, acc, ρ, hw, hz, q => by
    unfold compD
    rw [hw]
    simp only [List.length_cons] at hz
    refine h x (List.mem_cons_self ..) _ _ (fun hk ρ3 h3 => ⟨by omega, ?_⟩) fun hk ρ2 h2 => ?_
    · refine compD_pure ρ0 keep f (fun y hy => h y (List.mem_cons_of_mem _ hy)) _ _ h3 (by simp; omega) ?_
      rw [List.filter_cons, if_pos hk] at q
      simpa using q
    · refine compD_pure ρ0 keep f (fun y hy => h y (List.mem_cons_of_mem _ hy)) _ _ h2 (by omega) ?_
      rw [List.filter_cons, if_neg (by simp [hk])] at q
      exact q

/-! ### the draw's body -/
abbrev dIx (K : PySem.W.Frag) (i : Int) : TE := tOp (rIxL K) (tVar 0) (tC (.int i))
abbrev dAdd : R2 := rI0 fun i j => V.int (i + j)
abbrev dMod : R2 := rI (fun _ j => 0 < j) fun i j => V.int (i % j)
abbrev dMul : R2 := rI CMul fun i j => V.int (i * j)
abbrev dPow : R2 := rI CPow fun i j => V.int (i ^ j.toNat)
abbrev dInt (t : TE) : TE := tCB (fun xs H Q => (∃ i, xs = [V.int i] ∧ Q (V.int i) H) ∨ ∃ k, xs = [V.bl k] ∧ Q (V.int (if k = true then 1 else 0)) H) (tCons t tNil)
abbrev dPut (i : Int) : TG := gSub (tVar 0) (tC (.int i)) rSetL
abbrev dTest (K : PySem.W.Frag) : TT := tAnd (tTest (tOp rEq (dIx K 1) (tC (.int 0)))) (tTest (tOp (rNeD K) (dIx K 0) (tLst tNil)))
abbrev dTurn (K : PySem.W.Frag) : TS :=
  tSeq (tAsg (tCB (fun xs H Q => ∃ i, xs = [V.int i] ∧ Q (V.int (if i < 0 then -i else i)) H) (tCons (tBM K "list" rPopAt (dIx K 0) (tCons (tC (.int 0)) tNil)) tNil)) (gName 2))
  (tSeq (tAsg (tOp dMod (dInt (tOp dAdd (tOp dAdd (tOp dMul (dIx K 3) (tC (.int 8191))) (tVar 2)) (tC (.int 3)))) (tC (.int 2147483647))) (dPut 3))
    (tAsg (tIf (tTest (tOp (rI0 fun i j => V.bl (decide (j ≤ i))) (tVar 2) (tOp dPow (tC (.int 10)) (tC (.int 18))))) (tVar 2) (tC (.int 0))) (dPut 1)))
abbrev dTail (K : PySem.W.Frag) : TS :=
  tSeq (tIfS (tTest (tOp (rI0 fun i j => V.bl (decide (j < i))) (dIx K 1) (tC (.int 0))))
      (tSeq (tAsg (tOp dMod (dInt (dIx K 1)) (tVar 1)) (gName 3)) (tSeq (tAsg (tOp (rI CDivW fun i j => V.int (i / j)) (dIx K 1) (tVar 1)) (dPut 1)) (tRet (tVar 3)))) tNext)
  (tSeq (tAsg (tOp dMod (dInt (tOp dPow (tOp dAdd (tOp dAdd (dIx K 3) (tOp dMul (tC (.int 7919)) (dIx K 2))) (tC (.int 104729))) (tC (.int 5)))) (tC (.int 2147483629))) (gName 4))
    (tRet (tOp dMod (tOp dMod (dInt (tOp dPow (tOp dAdd (tOp dAdd (tOp dMul (tVar 4) (tC (.int 48271))) (tOp dMul (tC (.int 30011)) (dIx K 2))) (tC (.int 29))) (tC (.int 3)))) (tC (.int 1000000007))) (tVar 1))))
abbrev dBody (K : PySem.W.Frag) : TS := tSeq (tAsg (tOp dAdd (dIx K 2) (tC (.int 1))) (dPut 2)) (tSeq (tWhile (dTest K) (dTurn K)) (dTail K))
section
variable {K : PySem.W.Frag} {H0 H : Hp} {s c : Addr} {ns : List Int} {a n e : Int}
theorem StA.ix (st : StA H0 s c ns a n e H) : SqL K H s [.ref c, .int a, .int n, .int e] := SqL.of st.hs
theorem draw_tail {D : Ends} {m : Int} {N : Nat} {σ : L2.St} (hne : s ≠ c) (st : StA H0 s c ns a N e H) (hs : σ[0]? = some (some (.ref s))) (hm : σ[1]? = some (some (.int m))) (hl : σ.length = 5) (h0 : 0 < m) (h1 : m ≤ 1000000000000000000000000000000) (hN : N ≤ CAP)
    (k : ∀ (r : Int) (ns' : List Int) (a' e' : Int) (H' : Hp), 0 ≤ r → r < m → StA H0 s c ns' a' N e' H' → D.rt (.int r) H') : dTail K D σ H := by
  obtain ⟨x0, x1, x2, x3, x4, rfl⟩ : ∃ x0 x1 x2 x3 x4, σ = [x0, x1, x2, x3, x4] := by
    match σ, hl with
    | [a, b, c, d, e], _ => exact ⟨a, b, c, d, e, rfl⟩
  simp only [List.getElem?_cons_zero, List.getElem?_cons_succ, Option.some.injEq] at hs hm
  subst hs hm
  refine ⟨_, rfl, s, _, 1, .int a, rfl, rfl, st.ix, rfl, a, 0, rfl, rfl, _, rfl, ite2 (fun ha => ?_) fun ha => ?_⟩
  · have ha := of_decide_eq_true ha
    refine ⟨_, rfl, s, _, 1, .int a, rfl, rfl, st.ix, rfl, .inl ⟨a, rfl, _, rfl, a, m, rfl, rfl, h0, ?_⟩⟩
    refine ⟨_, rfl, s, _, 1, .int a, rfl, rfl, st.ix, rfl, _, rfl, a, m, rfl, rfl, wide_div h0 (b := 100) (by omega) (by decide) (by decide), ?_⟩
    refine ⟨_, rfl, s, _, 1, 1, rfl, rfl, st.hs, rfl, ?_⟩
    refine ⟨_, rfl, k (a % m) ns (a / m) e _ (Int.emod_nonneg _ (by omega)) (Int.emod_lt_of_pos _ h0) (st.set hne ?_ st.e0 st.e1)⟩
    exact Int.ediv_nonneg st.a0 (by omega)
  · have e0 := st.e0
    have e1 := st.e1
    refine ⟨_, rfl, s, _, 3, .int e, rfl, rfl, st.ix, rfl, _, rfl, s, _, 2, .int N, rfl, rfl, st.ix, rfl, 7919, N, rfl, rfl, .inl ⟨by decide, by decide⟩, e, 7919 * N, rfl, rfl, e + 7919 * N, 104729, rfl, rfl,
      e + 7919 * N + 104729, 5, rfl, rfl, ⟨by decide, by decide, by unfold CAP at hN; omega⟩, .inl ⟨_, rfl, _, 2147483629, rfl, rfl, (by show (0 : Int) < 2147483629; decide), ?_⟩⟩
    have m0 : 0 ≤ (e + 7919 * (N : Int) + 104729) ^ (Int.toNat 5) % 2147483629 := Int.emod_nonneg _ (by decide)
    have m1 : (e + 7919 * (N : Int) + 104729) ^ (Int.toNat 5) % 2147483629 < 2147483629 := Int.emod_lt_of_pos _ (by decide)
    dsimp only
    generalize (e + 7919 * (N : Int) + 104729) ^ (Int.toNat 5) % 2147483629 = mx at m0 m1 ⊢
    refine ⟨_, rfl, mx, 48271, rfl, rfl, .inr ⟨by decide, by decide⟩, _, rfl, s, _, 2, .int N, rfl, rfl, st.ix, rfl, 30011, N, rfl, rfl, .inl ⟨by decide, by decide⟩, mx * 48271, 30011 * N, rfl, rfl, mx * 48271 + 30011 * N, 29, rfl, rfl,
      mx * 48271 + 30011 * N + 29, 3, rfl, rfl, ⟨by decide, by decide, by unfold CAP at hN; omega⟩, .inl ⟨_, rfl, _, 1000000007, rfl, rfl, (by show (0 : Int) < 1000000007; decide), _, rfl, _, m, rfl, rfl, h0, ?_⟩⟩
    exact k _ ns a e H (Int.emod_nonneg _ (by omega)) (Int.emod_lt_of_pos _ h0) st
theorem draw_body {D : Ends} {m : Int} {N : Nat} {σ : L2.St} (hne : s ≠ c) (st : StA H0 s c ns a N e H) (hs : σ[0]? = some (some (.ref s))) (hm : σ[1]? = some (some (.int m))) (hl : σ.length = 5) (h0 : 0 < m) (h1 : m ≤ 1000000000000000000000000000000) (hN : N < CAP)
    (k : ∀ (r : Int) (ns' : List Int) (a' e' : Int) (H' : Hp), 0 ≤ r → r < m → StA H0 s c ns' a' ((N : Int) + 1) e' H' → D.rt (.int r) H') : dBody K D σ H := by
  obtain ⟨x0, x1, x2, x3, x4, rfl⟩ : ∃ x0 x1 x2 x3 x4, σ = [x0, x1, x2, x3, x4] := by
    match σ, hl with
    | [a, b, c, d, e], _ => exact ⟨a, b, c, d, e, rfl⟩
  simp only [List.getElem?_cons_zero, List.getElem?_cons_succ, Option.some.injEq] at hs hm
  subst hs hm
  refine ⟨_, rfl, s, _, 2, .int N, rfl, rfl, st.ix, rfl, N, 1, rfl, rfl, _, rfl, s, _, 2, 2, rfl, rfl, st.hs, rfl, ?_⟩
  have st1 : StA H0 s c ns a ((N : Int) + 1) e (upd H s (.lst [.ref c, .int a, .int ((N : Int) + 1), .int e])) := st.set hne st.a0 st.e0 st.e1
  refine while_by (fun σ' H' => ∃ (ns' : List Int) (a' e' : Int) (y : Option V), σ' = [some (.ref s), some (.int m), y, x3, x4] ∧ StA H0 s c ns' a' ((N : Int) + 1) e' H') (fun σ' H' => match H' c with
      | some (.lst xs) => xs.length
      | _ => 0) ⟨ns, a, e, x2, rfl, st1⟩ ?_ ?_
  · rintro σ' H' ⟨ns', a', e', y, rfl, st'⟩
    have stop : ∀ H2, StA H0 s c ns' a' ((N : Int) + 1) e' H2 → dTail K D [some (.ref s), some (.int m), y, x3, x4] H2 := fun H2 st2 =>
      draw_tail (N := N + 1) hne (by exact_mod_cast st2) rfl rfl rfl h0 h1 hN fun r ns2 a2 e2 H2 r0 r1 s2 => k r ns2 a2 e2 H2 r0 r1 (by exact_mod_cast s2)
    refine ⟨_, rfl, s, _, 1, .int a', rfl, rfl, st'.ix, rfl, rfl, _, rfl, ?_⟩
    refine ite2 (fun ha => ?_) fun ha => ?_
    · refine ⟨_, rfl, s, _, 0, .ref c, rfl, rfl, st'.ix, rfl, (by show 0 ≤ sizeLine; decide), fun p hp => ?_⟩
      have npc : c ≠ p := ne_of_none st'.hc hp
      have nps : s ≠ p := ne_of_none st'.hs hp
      have dl : Dp K (upd H' p (.lst [])) (.ref c) (.list (ns'.map PyData.int)) := .lst (SqL.of (by rw [upd_ne npc]; exact st'.hc)) dp_ints
      refine ⟨_, .list [], dl, .lst (SqL.of upd_same) .nil, PySem.W.ke_shaped_ints ns', rfl, _, rfl, ?_⟩
      have st2 : StA H0 s c ns' a' ((N : Int) + 1) e' (upd H' p (.lst [])) := ⟨by rw [upd_ne nps]; exact st'.hs, by rw [upd_ne npc]; exact st'.hc, st'.len, st'.a0, st'.e0, st'.e1, fun b o b1 b2 q => by
        have q2 := st'.rest b o b1 b2 q
        rw [upd_ne (ne_of_none q2 hp)]; exact q2⟩
      rw [eqv_nil]
      cases ns' with
      | nil => exact stop _ st2
      | cons x ns' =>
        -- a turn
        have st3 := st2.pop hne
        refine ⟨_, rfl, s, _, 0, .ref c, rfl, rfl, st2.ix, rfl, Or.inl ⟨rfl, _, SqL.of st2.hc⟩, c, _, 0, 0, .int x, rfl, rfl, st2.hc, by decide, by decide, (by simp [seqIndex?]), rfl, x, rfl, ?_⟩
        have ec : (upd (upd H' p (.lst [])) c (.lst ((x :: ns').map V.int |>.eraseIdx 0))) = upd (upd H' p (.lst [])) c (.lst (ns'.map V.int)) := rfl
        rw [ec]
        have x0 : 0 ≤ (if x < 0 then -x else x) := by split <;> omega
        generalize (if x < 0 then -x else x) = ax at x0 ⊢
        have e0 := st3.e0
        have m0 : 0 ≤ (e' * 8191 + ax + 3) % 2147483647 := Int.emod_nonneg _ (by decide)
        have m1 : (e' * 8191 + ax + 3) % 2147483647 < 2147483647 := Int.emod_lt_of_pos _ (by decide)
        refine ⟨_, rfl, s, _, 3, .int e', rfl, rfl, st3.ix, rfl, e', 8191, rfl, rfl, .inr ⟨by decide, by decide⟩, _, rfl, e' * 8191, ax, rfl, rfl, e' * 8191 + ax, 3, rfl, rfl, .inl ⟨_, rfl, _, 2147483647, rfl, rfl, (by show (0 : Int) < 2147483647; decide), _, rfl, s, _, 3, 3, rfl, rfl, st3.hs, rfl, ?_⟩⟩
        have st4 := st3.set (n' := (N : Int) + 1) hne st3.a0 m0 m1
        refine ⟨_, rfl, 10, 18, rfl, rfl, ⟨by decide, by decide, by decide⟩, ax, _, rfl, rfl, _, rfl, ?_⟩
        have tail : ∀ v : Int, 0 ≤ v → (gSub (tVar 0) (tC (.int 1)) rSetL) (.int v) [some (.ref s), some (.int m), some (.int ax), x3, x4] (upd (upd (upd H' p (.lst [])) c (.lst (ns'.map V.int))) s (.lst [.ref c, .int a', .int ((N : Int) + 1), .int ((e' * 8191 + ax + 3) % 2147483647)])) (fun σ' H2 => (∃ ns2 a2 e2 y2, σ' = [some (.ref s), some (.int m), y2, x3, x4] ∧ StA H0 s c ns2 a2 ((N : Int) + 1) e2 H2) ∧
            (match H2 c with
              | some (.lst xs) => xs.length
              | _ => 0) < match H' c with
              | some (.lst xs) => xs.length
              | _ => 0) := fun v hv => by
          have st5 := st4.set (n' := (N : Int) + 1) hne hv m0 m1
          refine ⟨_, rfl, s, _, 1, 1, rfl, rfl, st4.hs, rfl, ⟨ns', v, _, some (.int ax), rfl, st5⟩, ?_⟩
          have h1 := st5.hc
          have h2 := st'.hc
          simp only [List.set_cons_succ, List.set_cons_zero] at h1 ⊢
          rw [h1, h2]
          simp
        refine ite2 (fun hb => ?_) fun hb => ?_
        · exact ⟨_, rfl, tail ax x0⟩
        · exact tail 0 (by decide)
    · exact stop _ st'
  · intro σ' H' Q Q' hQ hc
    obtain ⟨v, h1, p, xs, i, u, h2, h3, h4, h5, h6, k, h7, h8⟩ := hc
    refine ⟨v, h1, p, xs, i, u, h2, h3, h4, h5, h6, k, h7, ?_⟩
    cases k with
    | false => exact hQ _ _ h8
    | true =>
      obtain ⟨v, h1, p, xs, i, u, h2, h3, h4, h5, h6, h7⟩ := h8
      refine ⟨v, h1, p, xs, i, u, h2, h3, h4, h5, h6, fun l hl => ?_⟩
      obtain ⟨d, e, g1, g2, g3, g4, k, g5, g6⟩ := h7 l hl
      exact ⟨d, e, g1, g2, g3, g4, k, g5, hQ _ _ g6⟩
end
end DL

set_option Elab.async false
set_option linter.all false
set_option maxRecDepth 100000
set_option maxHeartbeats 1000000
set_option autoImplicit false
/-! DL7: calls by keywords; promises by a function of the data; the law's first line. -/
namespace DL
open PySem PySem.Spec L2

/-- the i-th, j-th .. of a list -/
def permL {α : Type} (ix : List Nat) (xs : List α) : List α := ix.filterMap fun i => xs[i]?
theorem perm_vals {vs : List V} {us : List Value} (r : Vals vs us) : ∀ ix : List Nat, Vals (permL ix vs) (permL ix us)
  | [] => .nil
  | i :: ix => by
    unfold permL
    rw [List.filterMap_cons, List.filterMap_cons]
    cases h : vs[i]? with
    | none =>
      rw [r.none_of h]
      exact perm_vals r ix
    | some v =>
      obtain ⟨u, h1, h2⟩ := r.get h
      rw [h1]
      exact .cons h2 (perm_vals r ix)
theorem perm_rpl {ss : Option Addr} {h : Hp} {ds : List Dt} {vs : List V} (r : RpL ss h ds vs) : ∀ ix : List Nat, RpL ss h (permL ix ds) (permL ix vs)
  | [] => .nil
  | i :: ix => by
    unfold permL
    rw [List.filterMap_cons, List.filterMap_cons]
    cases e : ds[i]? with
    | none =>
      have : vs[i]? = none := by
        rw [List.getElem?_eq_none_iff] at e ⊢
        rw [r.length]; exact e
      rw [this]
      exact perm_rpl r ix
    | some d =>
      obtain ⟨v, h1, h2⟩ := r.get e
      rw [h1]
      exact .cons h2 (perm_rpl r ix)
/-- how a call by keywords alone binds -/
def KBd (K : PySem.W.Frag) (fd : FuncData) (ps ks : List Str) (ix : List Nat) : Prop := ∀ (s : Shared) (ws : List Value), K.In s.heap → (permL ix ws).length = ps.length → BindsTo s fd ⟨[], ks.zip ws⟩ (ps.zip (permL ix ws))
theorem Fun.kbd {K : PySem.W.Frag} {x qual : Str} {st : Stmt} {f : Addr} {fd : FuncData} {ps ks : List Str} {ix : List Nat} (F : Fun K x qual st f fd)
    (h : ∀ (kV doc pm : Value) (an : Option Addr) (cdv ct : Value) (ws : List Value), (permL ix ws).length = ps.length → bindArgs (PySem.W.fnOf x qual (defArgs st) (defBody st) (defScope st) .none kV doc pm an cdv ct) ⟨[], ks.zip ws⟩ = pure (ps.zip (permL ix ws))) : KBd K fd ps ks ix := by
  obtain ⟨oc, od, kV, doc, pm, an, cdv, ct, osl, rfl, lk, hcd⟩ := F.ex
  exact fun s ws _ hl => .of_eq (h kV doc pm an cdv ct ws hl)
def tCallKw (sp : Sp) (ix : List Nat) (E : XK) (tk : TA) : TE := fun σ H Q => tk σ H fun zs H2 => sp (permL ix zs) H2 Q E
theorem pe_callKw {X : Cx} {CX : CXT} {k : Nat} {f : Addr} {fd : FuncData} {ps ks : List Str} {sp : Sp} {E : XK} {x : Str} {p pos : Pos} {kws : List Keyword} {tk : TA} {ix : List Nat}
    (F : FnOk X.prog X.w X.K X.mg X.base CX k f fd ps sp) (hr : Room k X.A) (hg : Gl X x) (hm : X.mg x = some (.ref f)) (hk : PySem.W.keepIn X.K (.ref f) = true) (hb : KBd X.K fd ps ks ix) (hx : Passes CX X E)
    (hkw : PK X kws tk) (hall : (backToKw pos (keywordEach kws X.env)).all (·.1.isSome) = true) (hks : (backToKw pos (keywordEach kws X.env)).filterMap (·.1) = ks)
    (hdb : (x == ("__debug__" : Str)) = false) (hpl : ((backTo pos (starEach [] X.env)).any (·.1) || (backToKw pos (keywordEach kws X.env)).any (·.1.isNone)) = false) :
    PE X (.Call (.Name x p) [] kws pos) (tCallKw sp ix E tk) := by
  refine ⟨fun pins s σ H Q I h => ?_⟩
  refine wpAny_Call_Name_kw (ld_glob I hg hm ?_ hdb)
  refine PySem.W.callWith_KW0 (h₀ := X.base) I.ok.mod.kin hk hall ?_ hpl
  refine thn (hkw.run pos pins s σ H _ I h) fun ws s2 ⟨zs, H2, I2, rz, q2⟩ => ⟨I2.kIn, ?_⟩
  rw [hks, List.nil_append]
  have r2 : Vals (permL ix zs) (permL ix ws) := perm_vals rz ix
  have hl : (permL ix ws).length = ps.length := by rw [← r2.length]; exact F.len _ _ _ _ q2
  refine wpAny_call (codeAny_mono (F.run X.A X.stack s2 H2 ⟨[], ks.zip ws⟩ (permL ix ws) (permL ix zs) Q E hr I2.env0 (hb s2 ws I2.kIn hl) r2 q2) fun r s' hq => ?_)
  cases r with
  | error e => exact hx pins σ H2 s2 e s' I2 hq
  | ok fl =>
    cases fl with
    | ret u => exact I2.after hq
    | next => exact False.elim hq
    | brk => exact False.elim hq
    | cont => exact False.elim hq
structure DK (X : Cx) (kws : List Keyword) (t : TA) (n : MA) : Prop where
  pk : PK X kws t
  sim : SimA t n
theorem dk_nil {X : Cx} : DK X [] tNil mNil := ⟨pk_nil, simNil⟩
theorem dk_cons {X : Cx} {e : Expr} {nm : Option Str} {kpos : Pos} {kws : List Keyword} {te : TE} {me : ME} {t : TA} {n : MA} (h : DE X e te me) (h' : DK X kws t n) : DK X (⟨nm, e, kpos⟩ :: kws) (tCons te t) (mCons me n) := ⟨pk_cons h.pe h'.pk, simCons h.sim h'.sim⟩
def mCallKw (S : Spc) (ix : List Nat) (n : MA) : ME := fun ρ Q => n ρ fun ds ρ1 => S (permL ix ds) ρ1.n fun d m => Q d ⟨m, ρ1.sl⟩
theorem simCallKw {S : Spc} {t : TA} {n : MA} {E : XK} {ix : List Nat} (hS : MonoS S) (h : SimA t n) : SimE (tCallKw (dSp S) ix E t) (mCallKw S ix n) where
  mono := fun ρ Q Q' q => h.mono _ _ _ fun ds ρ1 => hS _ _ _ _ fun d m => q _ _
  run := fun W ρ σ H R D z => h.run W ρ σ H _ D (h.mono _ _ _ (fun ds ρ1 q vs H1 D1 S1 r1 => by
    refine ⟨W.inn ρ1 H1, ρ1.n, permL ix ds, D1.inn, ?_, hS _ _ _ _ (fun d m k v H2 j hx hd r => ?_) q⟩
    · rw [inn_vw]; exact perm_rpl r1 ix
    · obtain ⟨D2, S2⟩ := D1.back j hx hd
      exact k v H2 D2 (S1.trans S2) (by rw [inn_vw] at r; exact r)) z)
theorem de_callKw {X : Cx} {kws : List Keyword} {pos p : Pos} {t : TA} {n : MA} {k : Nat} {x : Str} {ps ks : List Str} {S : Spc} {f : Addr} {fd : FuncData} {ix : List Nat} (hb : KBd X.K fd ps ks ix) (c : Cal X.prog X.w X.K X.mg X.base k x ps S f fd) (hr : Room k X.A) (ha : DK X kws t n)
    (hg : Gl X x := by exact rfl) (hall : (backToKw pos (keywordEach kws X.env)).all (·.1.isSome) = true := by exact rfl) (hks : (backToKw pos (keywordEach kws X.env)).filterMap (·.1) = ks := by exact rfl)
    (hdb : (x == ("__debug__" : Str)) = false := by decide) (hpl : ((backTo pos (starEach [] X.env)).any (·.1) || (backToKw pos (keywordEach kws X.env)).any (·.1.isNone)) = false := by exact rfl) :
    DE X (.Call (.Name x p) [] kws pos) (tCallKw (dSp S) ix E0 t) (mCallKw S ix n) := ⟨pe_callKw c.ok hr hg c.mg c.kp hb pass0 ha.pk hall hks hdb hpl, simCallKw c.mono ha.sim⟩

/-! ### promises by a function -/
/-- a def without draws, by its value -/
def fS (g : List Dt → Option Dt) : Spc := fun ds n Q => match g ds with
  | some r => Q r n
  | none => False
theorem fS_mono (g : List Dt → Option Dt) : MonoS (fS g) := fun ds n k k' h => by
  unfold fS
  split
  · exact h _ _
  · exact id
theorem fS_len {g : List Dt → Option Dt} {k : Nat} (h : ∀ ds r, g ds = some r → ds.length = k) : ∀ ds n Q, fS g ds n Q → ds.length = k := fun ds n Q q => by
  unfold fS at q
  split at q
  · rename_i r e; exact h _ _ e
  · exact q.elim
/-- no def at all -/
def noS : Spc := fun _ _ _ => False
/-- a def whose promise asks what cannot be -/
theorem cal_no {P : Program} {w : World} {K : PySem.W.Frag} {mg : Str → Option Value} {base : Heap} {x qual : Str} {st : Stmt} {f : Addr} {fd : FuncData} {ps : List Str} (k : Nat) (F : Fun K x qual st f fd) (hm : mg x = some (.ref f)) (hb : Binds K fd ps []) : Cal P w K mg base k x ps noS f fd :=
  ⟨⟨fun vs H Q E ⟨_, _, _, _, _, h⟩ => h.elim, fun A outer s H args us vs Q E _ _ _ _ ⟨_, _, _, _, _, h⟩ => h.elim⟩, hm, F.kp, hb, fun _ _ _ _ _ h => h⟩
/-- a weaker promise -/
theorem Cal.imp {P : Program} {w : World} {K : PySem.W.Frag} {mg : Str → Option Value} {base : Heap} {k : Nat} {x : Str} {ps : List Str} {S S' : Spc} {f : Addr} {fd : FuncData} (c : Cal P w K mg base k x ps S f fd) (hm : MonoS S') (h : ∀ ds n Q, S' ds n Q → S ds n Q) : Cal P w K mg base k x ps S' f fd :=
  ⟨c.ok.imp fun vs H Q E ⟨W, n, ds, j, r, q⟩ => ⟨W, n, ds, j, r, h _ _ _ q⟩, c.mg, c.kp, c.bd, hm⟩
theorem Cal.lift {P : Program} {w : World} {K : PySem.W.Frag} {mg : Str → Option Value} {base : Heap} {k j : Nat} {x : Str} {ps : List Str} {S : Spc} {f : Addr} {fd : FuncData} (c : Cal P w K mg base k x ps S f fd) (h : k ≤ j) : Cal P w K mg base j x ps S f fd := ⟨c.ok.mono h, c.mg, c.kp, c.bd, c.mono⟩

/-! ### equality of data -/
theorem deq_int (i j : Int) : deq (.int i) (.int j) = decide (i = j) := by
  simp only [deq, py, PyData.eqv]
  rw [Bool.eq_iff_iff]; simp
theorem deq_bl (i j : Bool) : deq (.bl i) (.bl j) = (i == j) := by simp only [deq, py, PyData.eqv]
mutual
theorem deq_refl : ∀ (d : Dt) (n : Nat), fineD n d = true → deq d d = true
  | .non, _, _ => by simp [deq, py, PyData.eqv]
  | .bl b, _, _ => by simp [deq, py, PyData.eqv]
  | .int b, _, _ => by simp [deq, py, PyData.eqv]
  | .str b, _, _ => by simp [deq, py, PyData.eqv]
  | .tup xs, 0, h => by simp [fineD] at h
  | .tup xs, n + 1, h => by
    have := deqL_refl xs n (by simp [fineD] at h; exact h.2)
    simpa [deq, py, PyData.eqv] using this
  | .lst xs, 0, h => by simp [fineD] at h
  | .lst xs, n + 1, h => by
    have := deqL_refl xs n (by simp [fineD] at h; exact h.2)
    simpa [deq, py, PyData.eqv] using this
  | .strm, n, h => by simp [fineD] at h
theorem deqL_refl : ∀ (ds : List Dt) (n : Nat), fineL n ds = true → PyData.eqvAll (pys ds) (pys ds) = true
  | [], _, _ => by simp [pys, PyData.eqvAll]
  | d :: ds, n, h => by
    have h' : fineD n d = true ∧ fineL n ds = true := by simpa [fineL] using h
    have h1 := deq_refl d n h'.1
    have h2 := deqL_refl ds n h'.2
    simp only [deq] at h1
    simp [pys, PyData.eqvAll, h1, h2]
end
theorem fine_ints (n : Nat) : ∀ ns : List Int, fineL n (ns.map Dt.int) = true
  | [] => rfl
  | _ :: r => by simp [fineL, fineD, fine_ints n r]

/-! ### the law's first line: the stream is made -/
/-- the promise of _law_stream -/
def spStream (K : PySem.W.Frag) : Sp := fun vs H Q _ => ∃ (a : Addr) (ns : List Int), vs = [.ref a] ∧ SqL K H a (ns.map V.int) ∧ ns.length ≤ 63 ∧
  ∀ (s c : Addr) (H' : Hp), s ≠ c → H s = none → H c = none → Same H H' → H' s = some (.lst [.ref c, .int 0, .int 0, .int 17]) → H' c = some (.lst (ns.map V.int)) → Q (.ref s) H'
/-- the state in which the law goes on -/
theorem law_rel {H H' : Hp} {s c : Addr} {ns : List Int} {σ : L2.St} {sl : List SV} (hl : σ.length = sl.length) (hne : s ≠ c) (h1 : H' s = some (.lst [.ref c, .int 0, .int 0, .int 17])) (h2 : H' c = some (.lst (ns.map V.int))) (hn : ns.length ≤ 63)
    (hs : ∀ (i : Nat) sv, sl[i]? = some sv → sv = .un ∨ (sv = .d .strm ∧ σ[i]? = some (some (.ref s)))) : DRel ⟨some (s, c), [], H'⟩ ⟨0, sl⟩ σ H' := by
  refine ⟨hl, ⟨fun a ha => absurd ha (by simp), ⟨hne, ns, 0, 17, h1, h2, hn, by decide, by decide, by decide⟩, by simp, by simp⟩, fun i x e => ?_, fun i a xs e => ?_, fun i j a xs ys e _ => ?_⟩
  · rcases hs i _ e with z | ⟨z, q⟩
    · cases z
    · cases z
      exact ⟨_, q, by simp only [Rp]; exact ⟨s, rfl, rfl⟩⟩
  · rcases hs i _ e with z | ⟨z, _⟩ <;> cases z
  · rcases hs i _ e with z | ⟨z, _⟩ <;> cases z
/-! ### short facts for simp -/
theorem seqOf_lst (xs : List Dt) : seqOf (.lst xs) = some xs := rfl
theorem seqOf_tup (xs : List Dt) : seqOf (.tup xs) = some xs := rfl
theorem seqOf_non  : seqOf (.non) = none := rfl
theorem seqOf_int (xs : Int) : seqOf (.int xs) = none := rfl
theorem seqOf_bl (xs : Bool) : seqOf (.bl xs) = none := rfl
theorem seqOf_str (xs : Str) : seqOf (.str xs) = none := rfl
theorem seqOf_strm  : seqOf (.strm) = none := rfl
theorem isNon_lst (xs : List Dt) : isNon (.lst xs) = false := rfl
theorem isNon_tup (xs : List Dt) : isNon (.tup xs) = false := rfl
theorem isNon_non  : isNon (.non) = true := rfl
theorem isNon_int (xs : Int) : isNon (.int xs) = false := rfl
theorem isNon_bl (xs : Bool) : isNon (.bl xs) = false := rfl
theorem isNon_str (xs : Str) : isNon (.str xs) = false := rfl
theorem isNon_strm  : isNon (.strm) = false := rfl
theorem tyD_lst (xs : List Dt) : tyD (.lst xs) = some .lst := rfl
theorem tyD_tup (xs : List Dt) : tyD (.tup xs) = some .tup := rfl
theorem tyD_non  : tyD (.non) = some .non := rfl
theorem tyD_int (xs : Int) : tyD (.int xs) = some .int := rfl
theorem tyD_bl (xs : Bool) : tyD (.bl xs) = some .bool := rfl
theorem tyD_str (xs : Str) : tyD (.str xs) = some .str := rfl
theorem tyD_strm  : tyD (.strm) = none := rfl
end DL

set_option Elab.async false
set_option linter.all false
set_option maxRecDepth 100000
set_option maxHeartbeats 1000000
set_option autoImplicit false
/-! DL8: the rules that lean on the written part, with K said apart (in a comprehension's block the context is another one, K the same). -/
namespace DL
open PySem PySem.Spec L2
section
variable {X : Cx} {K : PySem.W.Frag} {a b c e : Expr} {es : List Expr} {pos p p2 p3 : Pos} {ta tb te : TE} {ma mb me : ME} {t : TA} {n : MA} {x : Str}
theorem kisi (hK : X.K = K) (c : Ty) {T : Str} (hc : c ≠ .non) (hm : X.mg "isinstance" = none) (hT : X.mg T = none) (he : DE X e te me) (hg : Gl X "isinstance" := by exact rfl) (hgT : Gl X T := by exact rfl) (hv : bootBuiltins T = some (.type c.name) := by decide +kernel)
    (hn : T ≠ "__name__" := by decide) (hd : (T == ("__debug__" : Str)) = false := by decide)
    (hs : starEach [e, .Name T p2] X.env = (false, eval e X.env) :: starEach [.Name T p2] X.env := by exact rfl) (hs2 : starEach [.Name T p2] X.env = (false, eval (.Name T p2) X.env) :: starEach [] X.env := by exact rfl)
    (hpl : (backTo pos (starEach [.Name T p2] X.env)).any (·.1) = false := by exact rfl) :
    DE X (.Call (.Name "isinstance" p) [e, .Name T p2] [] pos) (tCB (rIsi K) (tCons te (tCons (tC (.ty c.name)) tNil))) (mUn (uIsi [c]) me) := by
  subst hK; exact de_isi c hc hm hT he hg hgT hv hn hd hs hs2 hpl
theorem kisiT (hK : X.K = K) (cs : List Ty) {ts : List Expr} {tt : TA} (hc : ∀ c ∈ cs, c ≠ .non) {x1} (hm : X.mg "isinstance" = none) (he : DE X e te me) (ht : PA X ts tt)
    (hq : ∀ σ H Q, Q (cs.map fun c => V.ty c.name) H → tt σ H Q) (hz : (cs.map fun c => V.ty c.name).length ≤ sizeLine) (hg : Gl X "isinstance" := by exact rfl)
    (hs : starEach [e, .Tuple ts x1 p2] X.env = (false, eval e X.env) :: starEach [.Tuple ts x1 p2] X.env := by exact rfl) (hs2 : starEach [.Tuple ts x1 p2] X.env = (false, eval (.Tuple ts x1 p2) X.env) :: starEach [] X.env := by exact rfl)
    (hpl : (backTo pos (starEach [.Tuple ts x1 p2] X.env)).any (·.1) = false := by exact rfl) :
    DE X (.Call (.Name "isinstance" p) [e, .Tuple ts x1 p2] [] pos) (tCB (rIsiT K) (tCons te (tCons (tTup tt) tNil))) (mUn (uIsi cs) me) := by
  subst hK; exact de_isiT cs hc hm he ht hq hz hg hs hs2 hpl
theorem kix (hK : X.K = K) (ha : DE X a ta ma) (hb : DE X b tb mb) (hs : PlainIx b := by exact fun _ _ => rfl) : DE X (.Subscript a b pos) (tOp (rIx K) ta tb) (mOp oIx ma mb) := by
  subst hK; exact de_ix ha hb hs
theorem kownIx (hK : X.K = K) {px : Pos} (i : Nat) (he : DE X e te me) (hv : PE X (.Name x px) (tVar i)) (hs : PlainIx e := by exact fun _ _ => rfl) : DE X (.Subscript (.Name x px) e pos) (tOp (rIx K) (tVar i) te) (mOwnIx i me) := by
  subst hK; exact de_ownIx i he hv hs
theorem klen (hK : X.K = K) (hm : X.mg "len" = none) (ha : DA X (e :: es) t n) (hg : Gl X "len" := by exact rfl)
    (he : starEach (e :: es) X.env = (false, eval e X.env) :: starEach es X.env := by exact rfl) (hpl : (backTo pos (starEach es X.env)).any (·.1) = false := by exact rfl) :
    DE X (.Call (.Name "len" p) (e :: es) [] pos) (tCB (fun xs H Q => ∃ p ys, xs = [.ref p] ∧ (SqL K H p ys ∨ SqT K H p ys) ∧ Q (.int ys.length) H) t) (mCB cLen n) := by
  subst hK; exact de_callB call_len_seq simLen hm ha hg (by decide +kernel) (by decide) (by decide) he hpl
theorem kownLen (hK : X.K = K) {px : Pos} (i : Nat) (hm : X.mg "len" = none) (hv : PE X (.Name x px) (tVar i)) (hg : Gl X "len" := by exact rfl)
    (he : starEach [.Name x px] X.env = (false, eval (.Name x px) X.env) :: starEach [] X.env := by exact rfl) (hpl : (backTo pos (starEach [] X.env)).any (·.1) = false := by exact rfl) :
    DE X (.Call (.Name "len" p) [.Name x px] [] pos) (tCB (fun xs H Q => ∃ p ys, xs = [.ref p] ∧ (SqL K H p ys ∨ SqT K H p ys) ∧ Q (.int ys.length) H) (tCons (tVar i) tNil)) (mOwnLen i) := by
  subst hK; exact de_ownLen i hm hv hg he hpl
theorem ktuple (hK : X.K = K) (hm : X.mg "tuple" = none) (ha : DA X (e :: es) t n) (hg : Gl X "tuple" := by exact rfl)
    (he : starEach (e :: es) X.env = (false, eval e X.env) :: starEach es X.env := by exact rfl) (hpl : (backTo pos (starEach es X.env)).any (·.1) = false := by exact rfl) :
    DE X (.Call (.Name "tuple" p) (e :: es) [] pos) (tCB (fun xs H Q => ∃ p ys, xs = [.ref p] ∧ ((SqL K H p ys ∧ ∀ l, H l = none → Q (.ref l) (upd H l (.tup ys))) ∨ (SqT K H p ys ∧ Q (.ref p) H))) t) (mCB cTuple n) := by
  subst hK; exact de_callTy call_tuple_of simTuple hm ha hg (by decide +kernel) (by decide) (by decide) he hpl
theorem klist (hK : X.K = K) (hm : X.mg "list" = none) (ha : DA X (e :: es) t n) (hg : Gl X "list" := by exact rfl)
    (he : starEach (e :: es) X.env = (false, eval e X.env) :: starEach es X.env := by exact rfl) (hpl : (backTo pos (starEach es X.env)).any (·.1) = false := by exact rfl) :
    DE X (.Call (.Name "list" p) (e :: es) [] pos) (tCB (fun xs H Q => ∃ p ys, xs = [.ref p] ∧ (SqL K H p ys ∨ SqT K H p ys) ∧ ∀ l, H l = none → Q (.ref l) (upd H l (.lst ys))) t) (mCB cList n) := by
  subst hK; exact de_callTy call_list_of simList hm ha hg (by decide +kernel) (by decide) (by decide) he hpl
theorem kall (hK : X.K = K) (hc : X.calm = true) (hm : X.mg "all" = none) (ha : DA X (e :: es) t n) (hg : Gl X "all" := by exact rfl)
    (he : starEach (e :: es) X.env = (false, eval e X.env) :: starEach es X.env := by exact rfl) (hpl : (backTo pos (starEach es X.env)).any (·.1) = false := by exact rfl) :
    DE X (.Call (.Name "all" p) (e :: es) [] pos) (tCB (rAll K) t) (mCB cAll n) := by
  subst hK; exact de_callB (cr_all hc) simAll hm ha hg (by decide +kernel) (by decide) (by decide) he hpl
theorem kany (hK : X.K = K) (hc : X.calm = true) (hm : X.mg "any" = none) (ha : DA X (e :: es) t n) (hg : Gl X "any" := by exact rfl)
    (he : starEach (e :: es) X.env = (false, eval e X.env) :: starEach es X.env := by exact rfl) (hpl : (backTo pos (starEach es X.env)).any (·.1) = false := by exact rfl) :
    DE X (.Call (.Name "any" p) (e :: es) [] pos) (tCB (rAny K) t) (mCB cAny n) := by
  subst hK; exact de_callB (cr_any hc) simAny hm ha hg (by decide +kernel) (by decide) (by decide) he hpl
/-- ==, != of data -/
theorem keq (hK : X.K = K) (hu : X.A.units + 64 < cLine) (ha : DE X a ta ma) (hb : DE X b tb mb) : DE X (.Compare a [.Eq] [b] pos) (tOp (rEqD K) ta tb) (mOp oEq ma mb) := by
  subst hK; exact de_cmp (op_eqD hu) simEq ha hb (nomark _)
theorem kne (hK : X.K = K) (hu : X.A.units + 64 < cLine) (ha : DE X a ta ma) (hb : DE X b tb mb) : DE X (.Compare a [.NotEq] [b] pos) (tOp (rNeD K) ta tb) (mOp oNe ma mb) := by
  subst hK; exact de_cmp (op_neD hu) simNe ha hb (nomark _)
theorem kteq (hK : X.K = K) (hu : X.A.units + 64 < cLine) (ha : DE X a ta ma) (hb : DE X b tb mb) : DT X (.Compare a [.Eq] [b] pos) (tTest (tOp (rEqD K) ta tb)) (mB (mOp oEq ma mb)) := by
  subst hK; exact dt_cmp (op_eqD hu) simEq ha hb (nomark _)
theorem ktne (hK : X.K = K) (hu : X.A.units + 64 < cLine) (ha : DE X a ta ma) (hb : DE X b tb mb) : DT X (.Compare a [.NotEq] [b] pos) (tTest (tOp (rNeD K) ta tb)) (mB (mOp oNe ma mb)) := by
  subst hK; exact dt_cmp (op_neD hu) simNe ha hb (nomark _)
theorem kin (hK : X.K = K) (ha : DE X a ta ma) (hb : DE X b tb mb) (hm : behindInMarks .In b = false := by exact rfl) : DE X (.Compare a [.In] [b] pos) (tOp (rIn K false) ta tb) (mOp (oIn false) ma mb) := by
  subst hK; exact de_cmp op_in_seq (simIn false) ha hb hm
theorem knotin (hK : X.K = K) (ha : DE X a ta ma) (hb : DE X b tb mb) (hm : behindInMarks .NotIn b = false := by exact rfl) : DE X (.Compare a [.NotIn] [b] pos) (tOp (rIn K true) ta tb) (mOp (oIn true) ma mb) := by
  subst hK; exact de_cmp op_notIn_seq (simIn true) ha hb hm
theorem ktin (hK : X.K = K) (ha : DE X a ta ma) (hb : DE X b tb mb) (hm : behindInMarks .In b = false := by exact rfl) : DT X (.Compare a [.In] [b] pos) (tTest (tOp (rIn K false) ta tb)) (mB (mOp (oIn false) ma mb)) := by
  subst hK; exact dt_cmp op_in_seq (simIn false) ha hb hm
theorem ktnotin (hK : X.K = K) (ha : DE X a ta ma) (hb : DE X b tb mb) (hm : behindInMarks .NotIn b = false := by exact rfl) : DT X (.Compare a [.NotIn] [b] pos) (tTest (tOp (rIn K true) ta tb)) (mB (mOp (oIn true) ma mb)) := by
  subst hK; exact dt_cmp op_notIn_seq (simIn true) ha hb hm
theorem kownIn (hK : X.K = K) {px : Pos} (i : Nat) (he : DE X e te me) (hv : PE X (.Name x px) (tVar i)) : DE X (.Compare e [.In] [.Name x px] pos) (tOp (rIn K false) te (tVar i)) (mOwnIn false me i) := by
  subst hK; exact de_ownIn i he hv
theorem kownNotIn (hK : X.K = K) {px : Pos} (i : Nat) (he : DE X e te me) (hv : PE X (.Name x px) (tVar i)) : DE X (.Compare e [.NotIn] [.Name x px] pos) (tOp (rIn K true) te (tVar i)) (mOwnIn true me i) := by
  subst hK; exact de_ownNotIn i he hv
theorem ktownIn (hK : X.K = K) {px : Pos} (i : Nat) (he : DE X e te me) (hv : PE X (.Name x px) (tVar i)) : DT X (.Compare e [.In] [.Name x px] pos) (tTest (tOp (rIn K false) te (tVar i))) (mB (mOwnIn false me i)) := by
  subst hK; exact dt_ownIn i he hv
theorem ktownNotIn (hK : X.K = K) {px : Pos} (i : Nat) (he : DE X e te me) (hv : PE X (.Name x px) (tVar i)) : DT X (.Compare e [.NotIn] [.Name x px] pos) (tTest (tOp (rIn K true) te (tVar i))) (mB (mOwnIn true me i)) := by
  subst hK; exact dt_ownNotIn i he hv
theorem kiseq {tg l : Expr} (hK : X.K = K) (h : DE X l te me) : DI X tg l (iSeq K te) (miSeq me) := by
  subst hK; exact di_seq h
theorem kizip {tpos : Pos} {elts : List Expr} {kk : Nat} (hK : X.K = K) (hm : X.mg "zip" = none) (ha : DA X [a, b] t n) (hg : Gl X "zip" := by exact rfl)
    (hs : starEach [a, b] X.env = (false, eval a X.env) :: starEach [b] X.env := by exact rfl) (hpl : (backTo pos (starEach [b] X.env)).any (·.1) = false := by exact rfl) : DI X (.Tuple elts kk tpos) (.Call (.Name "zip" p) [a, b] [] pos) (RZ.iZipA K t) (miZip n) := by
  subst hK; exact di_zip hm ha hg hs hpl
theorem kgtup {k : Nat} {gs : TGs} {ms : MGs} {js : List Nat} (hK : X.K = K) (n : Nat) (hc : X.calm = true) (h : DGs X es gs ms js) (hn : (assignEach es X.env).length = n := by exact rfl) (hst : (assignEach es X.env).findIdx? (·.1) = none := by exact rfl) : DG X (.Tuple es k pos) (gTup K n gs) (gmTup n ms) js := by
  subst hK; exact dg_tup n hc h hn hst
theorem kgseq {k : Nat} {gs : TGs} {ms : MGs} {js : List Nat} (hK : X.K = K) (n : Nat) (hc : X.calm = true) (h : DGs X es gs ms js) (hn : (assignEach es X.env).length = n := by exact rfl) (hst : (assignEach es X.env).findIdx? (·.1) = none := by exact rfl) : DG X (.Tuple es k pos) (gOr (gTup K n gs) (gUnl K n gs)) (gmSeq n ms) js := by
  subst hK; exact dg_seq n hc h hn hst
theorem kpopAt {apos cpos px : Pos} (hK : X.K = K) (i : Nat) (he : DE X e te me) (hv : PE X (.Name x px) (tVar i))
    (hbase : attributeBase (.Name x px) "pop" X.env (eval (.Name x px) X.env) = eval (.Name x px) X.env := by exact rfl)
    (hfew : ((backTo cpos (starEach [e] X.env)).all (fun x => !x.1) && (backToKw cpos (keywordEach [] X.env)).all (fun x => x.1.isSome) && decide ([e].length + ([] : List Keyword).length + (if ([] : List Keyword).isEmpty then 0 else 1) < 30)) = true := by exact rfl)
    (hline : (apos.endLine == cpos.line) = true := by exact rfl) (hse : starEach [e] X.env = (false, eval e X.env) :: starEach [] X.env := by exact rfl) (hplain : (backTo cpos (starEach [] X.env)).any (·.1) = false := by exact rfl) :
    DE X (.Call (.Attribute (.Name x px) "pop" apos) [e] [] cpos) (tBM K "list" rPopAt (tVar i) (tCons te tNil)) (mPopAt i me) := by
  subst hK; exact de_popAt i he hv hbase hfew hline hse hplain
end

/-! ### items at written places -/
section
variable {a b c d e f : Dt} {xs : List Dt}
theorem atI_nat' {ys : List Dt} {j : Nat} {v : Dt} (h : ys[j]? = some v) : atI ys (j : Int) = some v := by
  have hl : j < ys.length := (List.getElem?_eq_some_iff.mp h).1
  unfold atI ixN
  rw [if_pos (by omega), if_pos (by omega)]
  exact h
theorem atI_0 : atI (a :: xs) 0 = some a := atI_nat' (j := 0) rfl
theorem atI_1 : atI (a :: b :: xs) 1 = some b := atI_nat' (j := 1) rfl
theorem atI_2 : atI (a :: b :: c :: xs) 2 = some c := atI_nat' (j := 2) rfl
theorem atI_3 : atI (a :: b :: c :: d :: xs) 3 = some d := atI_nat' (j := 3) rfl
theorem atI_4 : atI (a :: b :: c :: d :: e :: xs) 4 = some e := atI_nat' (j := 4) rfl
theorem atI_last {ys : List Dt} : atI (ys ++ [a]) (-1) = some a := by
  unfold atI ixN
  rw [if_neg (by omega), if_pos (by simp; omega)]
  have : (-1 + ((ys ++ [a]).length : Int)).toNat = ys.length := by simp; omega
  simp only [Option.bind_some, this]
  simp
end
end DL

set_option Elab.async false
set_option linter.all false
set_option maxRecDepth 100000
set_option maxHeartbeats 1000000
set_option autoImplicit false
/-! K10m: strips in plain Lean. -/
namespace K10
abbrev OI := Option Int
structure Q4 where
  l : OI
  h : OI
  m : Int
  r : Int
deriving DecidableEq
def brought (l h : OI) (m r : Int) : Option Q4 :=
  if m = 0 then (if (∀ a ∈ l, a ≤ r) ∧ (∀ b ∈ h, r ≤ b) then some ⟨some r, some r, 0, r⟩ else none)
  else match l.map (fun a => a + (r - a) % m), h.map (fun b => b - (b - r) % m) with
    | some a, some b => if b < a then none else if a = b then some ⟨some a, some a, 0, a⟩ else some ⟨some a, some b, m, r % m⟩
    | l', h' => some ⟨l', h', m, r % m⟩
/-- a strip: told by itself -/
def Valid : Option Q4 → Prop
  | none => True
  | some q => 0 ≤ q.m ∧ brought q.l q.h q.m q.r = some q
def bnd (B : Int) : OI → Prop
  | none => True
  | some a => -B ≤ a ∧ a ≤ B
def Bnd (B : Int) : Option Q4 → Prop
  | none => True
  | some q => bnd B q.l ∧ bnd B q.h ∧ (-B ≤ q.m ∧ q.m ≤ B) ∧ (-B ≤ q.r ∧ q.r ≤ B)
/-- what a strip has -/
def has : Option Q4 → Int → Bool
  | none, _ => false
  | some q, n => if (∃ a ∈ q.l, n < a) ∨ (∃ b ∈ q.h, b < n) then false else if q.m = 0 then decide (n = q.r) else decide ((n - q.r) % q.m = 0)

theorem emod_bd {x m : Int} (h : 0 < m) : 0 ≤ x % m ∧ x % m < m := ⟨Int.emod_nonneg _ (by omega), Int.emod_lt_of_pos _ h⟩
/-- low end brought up: it leaves the rest -/
theorem up_mod {a r m : Int} : (r - (a + (r - a) % m)) % m = 0 := by
  have : r - (a + (r - a) % m) = (r - a) - (r - a) % m := by omega
  rw [this]
  have := Int.mul_ediv_add_emod (r - a) m
  have e : r - a - (r - a) % m = m * ((r - a) / m) := by omega
  rw [e, Int.mul_emod_right]
theorem dn_mod {b r m : Int} : ((b - (b - r) % m) - r) % m = 0 := by
  have : b - (b - r) % m - r = (b - r) - (b - r) % m := by omega
  rw [this]
  have := Int.mul_ediv_add_emod (b - r) m
  have e : b - r - (b - r) % m = m * ((b - r) / m) := by omega
  rw [e, Int.mul_emod_right]
theorem sub_mod_mod {r a m : Int} : (r % m - a) % m = (r - a) % m := by
  rw [Int.sub_emod, Int.emod_emod, ← Int.sub_emod]
theorem sub_mod_mod' {r b m : Int} : (b - r % m) % m = (b - r) % m := by
  rw [Int.sub_emod, Int.emod_emod, ← Int.sub_emod]
theorem brought_single (n : Int) : brought (some n) (some n) 0 n = some ⟨some n, some n, 0, n⟩ := by
  simp [brought]
/-- what is brought is a strip -/
theorem brought_valid (l h : OI) {m : Int} (r : Int) (hm : 0 ≤ m) : Valid (brought l h m r) := by
  by_cases h0 : m = 0
  · subst h0
    unfold brought
    rw [if_pos rfl]
    split
    · exact ⟨Int.le_refl 0, brought_single r⟩
    · trivial
  · have hm' : 0 < m := by omega
    have mm : ∀ x : Int, (x % m) % m = x % m := fun x => Int.emod_emod_of_dvd x (Int.dvd_refl m)
    have key : ∀ a : Int, a + (r - a) % m + (r % m - (a + (r - a) % m)) % m = a + (r - a) % m := fun a => by
      rw [sub_mod_mod, up_mod]; omega
    have key' : ∀ b : Int, b - (b - r) % m - (b - (b - r) % m - r % m) % m = b - (b - r) % m := fun b => by
      rw [sub_mod_mod', dn_mod]; omega
    unfold brought
    rw [if_neg h0]
    cases l with
    | none =>
      cases h with
      | none => exact ⟨hm, by simp only [brought, if_neg h0, Option.map_none, mm]⟩
      | some b => exact ⟨hm, by simp only [brought, if_neg h0, Option.map_none, Option.map_some, mm, key']⟩
    | some a =>
      cases h with
      | none => exact ⟨hm, by simp only [brought, if_neg h0, Option.map_none, Option.map_some, mm, key]⟩
      | some b =>
        simp only [Option.map_some]
        split
        · trivial
        · split
          · exact ⟨Int.le_refl 0, brought_single _⟩
          · rename_i h1 h2
            refine ⟨hm, ?_⟩
            show brought (some _) (some _) m (r % m) = _
            simp only [brought, if_neg h0, Option.map_some, key, key', mm]
            rw [if_neg h1, if_neg h2]
theorem brought_bnd {l h : OI} {m r B : Int} (hm : 0 ≤ m) (hB : 0 ≤ B) (hl : bnd B l) (hh : bnd B h) (hm' : m ≤ B) (hr : -B ≤ r ∧ r ≤ B) : Bnd (2 * B) (brought l h m r) := by
  by_cases h0 : m = 0
  · subst h0
    unfold brought
    rw [if_pos rfl]
    split
    · simp only [Bnd, bnd]; omega
    · trivial
  · have b1 : ∀ x : Int, 0 ≤ x % m ∧ x % m < m := fun x => emod_bd (by omega)
    unfold brought
    rw [if_neg h0]
    have br := b1 r
    cases l with
    | none =>
      cases h with
      | none => simp only [Option.map_none, Bnd, bnd, true_and]; omega
      | some b =>
        have := b1 (b - r)
        simp only [bnd] at hh
        simp only [Option.map_none, Option.map_some, Bnd, bnd, true_and]; omega
    | some a =>
      have := b1 (r - a)
      simp only [bnd] at hl
      cases h with
      | none => simp only [Option.map_none, Option.map_some, Bnd, bnd, true_and]; omega
      | some b =>
        have := b1 (b - r)
        simp only [bnd] at hh
        simp only [Option.map_some]
        split
        · trivial
        · split
          · simp only [Bnd, bnd]; omega
          · simp only [Bnd, bnd]; omega

/-! ### within -/
def within : Option Q4 → Option Q4 → Bool
  | none, _ => true
  | some _, none => false
  | some s, some o =>
    if (∃ f ∈ o.l, ∀ a ∈ s.l, a < f) then false
    else if (∃ f ∈ o.h, ∀ b ∈ s.h, f < b) then false
    else if o.m = 0 then decide (s.m = 0) && decide (s.r = o.r)
    else decide (s.m % o.m = 0) && decide ((s.r - o.r) % o.m = 0)
/-- members near the ends, as the law goes through them -/
def begin (q : Q4) : Int := match q.l with
  | some a => a
  | none => match q.h with
    | some b => b
    | none => q.r
def near (q : Q4) (far : Nat) : List Int :=
  (List.range (2 * far + 1)).map (fun k : Nat => begin q + (-(far : Int) + (k : Int)) * q.m) ++ (match q.h with
    | some b => (List.range (far + 1)).map fun k : Nat => b - (k : Int) * q.m
    | none => [])
/-- the law's own word: both ends, then all members near the ends -/
def inside : Option Q4 → Option Q4 → Bool
  | s, none => s.isNone
  | none, _ => true
  | some s, some o => if (o.l.isSome ∧ s.l = none) ∨ (o.h.isSome ∧ s.h = none) then false else ((near s 1).filter (has (some s))).all (has (some o))
theorem valid_shape {q : Q4} (v : Valid (some q)) : (q.m = 0 ∧ q.l = some q.r ∧ q.h = some q.r) ∨ (0 < q.m ∧ 0 ≤ q.r ∧ q.r < q.m ∧ (∀ a ∈ q.l, (q.r - a) % q.m = 0) ∧ (∀ b ∈ q.h, (b - q.r) % q.m = 0) ∧ ∀ a ∈ q.l, ∀ b ∈ q.h, a < b) := by
  obtain ⟨l, h, m, r⟩ := q
  obtain ⟨hm, e⟩ := v
  simp only at hm e ⊢
  by_cases h0 : m = 0
  · subst h0
    left
    unfold brought at e
    rw [if_pos rfl] at e
    split at e
    · simp only [Option.some.injEq, Q4.mk.injEq] at e
      exact ⟨rfl, e.1.symm, e.2.1.symm⟩
    · cases e
  · have hm' : 0 < m := by omega
    have br := emod_bd (x := r) hm'
    right
    refine ⟨hm', ?_⟩
    unfold brought at e
    rw [if_neg h0] at e
    cases l with
    | none =>
      cases h with
      | none =>
        simp only [Option.map_none, Option.some.injEq, Q4.mk.injEq, true_and] at e
        refine ⟨by omega, by omega, by simp, by simp, by simp⟩
      | some b =>
        simp only [Option.map_none, Option.map_some, Option.some.injEq, Q4.mk.injEq, true_and] at e
        refine ⟨by omega, by omega, by simp, ?_, by simp⟩
        simp only [Option.mem_def, Option.some.injEq, forall_eq']
        omega
    | some a =>
      cases h with
      | none =>
        simp only [Option.map_none, Option.map_some, Option.some.injEq, Q4.mk.injEq, true_and] at e
        refine ⟨by omega, by omega, ?_, by simp, by simp⟩
        simp only [Option.mem_def, Option.some.injEq, forall_eq']
        omega
      | some b =>
        simp only [Option.map_some] at e
        split at e
        · cases e
        · split at e
          · simp only [Option.some.injEq, Q4.mk.injEq] at e
            omega
          · simp only [Option.some.injEq, Q4.mk.injEq, true_and] at e
            refine ⟨by omega, by omega, ?_, ?_, ?_⟩
            all_goals simp only [Option.mem_def, Option.some.injEq, forall_eq']
            all_goals omega
theorem mod_zero_iff {x m : Int} : x % m = 0 ↔ ∃ k, x = m * k := by
  constructor
  · intro h
    exact ⟨x / m, by have := Int.mul_ediv_add_emod x m; omega⟩
  · rintro ⟨k, rfl⟩; exact Int.mul_emod_right ..

theorem has_some {q : Q4} {n : Int} : has (some q) n = true ↔ (∀ a ∈ q.l, a ≤ n) ∧ (∀ b ∈ q.h, n ≤ b) ∧ (if q.m = 0 then n = q.r else q.m ∣ n - q.r) := by
  simp only [has]
  split
  · rename_i h
    simp only [Bool.false_eq_true, false_iff]
    rintro ⟨h1, h2, _⟩
    rcases h with ⟨a, ha, h⟩ | ⟨b, hb, h⟩
    · have := h1 a ha; omega
    · have := h2 b hb; omega
  · rename_i h
    have g1 : ∀ a ∈ q.l, a ≤ n := fun a ha => by
      have : ¬ n < a := fun z => h (.inl ⟨a, ha, z⟩)
      omega
    have g2 : ∀ b ∈ q.h, n ≤ b := fun b hb => by
      have : ¬ b < n := fun z => h (.inr ⟨b, hb, z⟩)
      omega
    split
    · rename_i h0
      simp only [decide_eq_true_eq, h0, if_true]
      exact ⟨fun z => ⟨g1, g2, z⟩, fun z => z.2.2⟩
    · rename_i h0
      simp only [decide_eq_true_eq, h0, if_false]
      exact ⟨fun z => ⟨g1, g2, Int.dvd_of_emod_eq_zero z⟩, fun z => Int.emod_eq_zero_of_dvd z.2.2⟩
theorem within_sound {s o : Q4} (w : within (some s) (some o) = true) {n : Int} (hn : has (some s) n = true) : has (some o) n = true := by
  rw [has_some] at hn ⊢
  obtain ⟨h1, h2, h3⟩ := hn
  simp only [within] at w
  split at w
  · cases w
  · rename_i w1
    split at w
    · cases w
    · rename_i w2
      refine ⟨fun f hf => ?_, fun t ht => ?_, ?_⟩
      · have : ∃ a ∈ s.l, f ≤ a := Classical.byContradiction fun z => w1 ⟨f, hf, fun a ha => by
          have : ¬ f ≤ a := fun y => z ⟨a, ha, y⟩
          omega⟩
        obtain ⟨a, ha, hfa⟩ := this
        have := h1 a ha; omega
      · have : ∃ b ∈ s.h, b ≤ t := Classical.byContradiction fun z => w2 ⟨t, ht, fun b hb => by
          have : ¬ b ≤ t := fun y => z ⟨b, hb, y⟩
          omega⟩
        obtain ⟨b, hb, htb⟩ := this
        have := h2 b hb; omega
      · split at w
        · rename_i o0
          rw [if_pos o0]
          simp only [Bool.and_eq_true, decide_eq_true_eq] at w
          rw [if_pos w.1] at h3
          omega
        · rename_i o0
          rw [if_neg o0]
          simp only [Bool.and_eq_true, decide_eq_true_eq] at w
          have d1 := Int.dvd_of_emod_eq_zero w.1
          have d2 := Int.dvd_of_emod_eq_zero w.2
          have e : n - o.r = (n - s.r) + (s.r - o.r) := by omega
          rw [e]
          refine Int.dvd_add ?_ d2
          split at h3
          · rw [h3, Int.sub_self]; exact Int.dvd_zero _
          · exact Int.dvd_trans d1 h3
theorem within_none (o : Option Q4) : within none o = true := by cases o <;> rfl
theorem mem_near_b {q : Q4} {b : Int} (hb : q.h = some b) (k : Nat) (hk : k < 2) : b - (k : Int) * q.m ∈ near q 1 := by
  unfold near
  rw [hb]
  refine List.mem_append_right _ (List.mem_map.mpr ⟨k, List.mem_range.mpr (by omega), rfl⟩)
theorem mem_near {q : Q4} (k : Nat) (hk : k < 3) : begin q + (-1 + (k : Int)) * q.m ∈ near q 1 := by
  unfold near
  exact List.mem_append_left _ (List.mem_map.mpr ⟨k, List.mem_range.mpr (by omega), rfl⟩)
/-- two members a modulus apart near the ends -/
theorem two_near {q : Q4} (v : Valid (some q)) (hm : 0 < q.m) : ∃ n, n ∈ near q 1 ∧ n + q.m ∈ near q 1 ∧ has (some q) n = true ∧ has (some q) (n + q.m) = true := by
  have hm0 : q.m ≠ 0 := by omega
  rcases valid_shape v with ⟨h, _⟩ | ⟨_, r0, r1, hl, hh, hlh⟩
  · omega
  · cases el : q.l with
    | some a =>
      have da : q.m ∣ a - q.r := by
        have := Int.dvd_of_emod_eq_zero (hl a el)
        have := (Int.dvd_neg (a := q.m)).mpr this
        rwa [show -(q.r - a) = a - q.r by omega] at this
      have lo : ∀ b ∈ q.h, a + q.m ≤ b := fun b hb => by
        have d2 : q.m ∣ b - q.r := Int.dvd_of_emod_eq_zero (hh b hb)
        have d3 : q.m ∣ b - a := by
          have := Int.dvd_sub d2 da
          rwa [show b - q.r - (a - q.r) = b - a by omega] at this
        have lt := hlh a el b hb
        have := Int.le_of_dvd (by omega) d3
        omega
      have eb : begin q = a := by unfold begin; rw [el]
      refine ⟨a, ?_, ?_, ?_, ?_⟩
      · have := mem_near (q := q) 1 (by decide)
        rwa [eb, show a + (-1 + ((1 : Nat) : Int)) * q.m = a by simp] at this
      · have := mem_near (q := q) 2 (by decide)
        rwa [eb, show a + (-1 + ((2 : Nat) : Int)) * q.m = a + q.m by simp] at this
      · rw [has_some, if_neg hm0]
        refine ⟨fun x hx => ?_, fun b hb => ?_, da⟩
        · rw [el] at hx; cases hx; omega
        · have := lo b hb; omega
      · rw [has_some, if_neg hm0]
        refine ⟨fun x hx => ?_, fun b hb => lo b hb, ?_⟩
        · rw [el] at hx; cases hx; omega
        · rw [show a + q.m - q.r = (a - q.r) + q.m by omega]
          exact Int.dvd_add da (Int.dvd_refl _)
    | none =>
      cases eh : q.h with
      | some b =>
        have db : q.m ∣ b - q.r := Int.dvd_of_emod_eq_zero (hh b eh)
        refine ⟨b - q.m, ?_, ?_, ?_, ?_⟩
        · have := mem_near_b eh 1 (by decide)
          rwa [show b - ((1 : Nat) : Int) * q.m = b - q.m by simp] at this
        · have := mem_near_b eh 0 (by decide)
          rwa [show b - ((0 : Nat) : Int) * q.m = b - q.m + q.m by simp] at this
        · rw [has_some, if_neg hm0]
          refine ⟨fun x hx => ?_, fun c hc => ?_, ?_⟩
          · rw [el] at hx; cases hx
          · rw [eh] at hc; cases hc; omega
          · rw [show b - q.m - q.r = (b - q.r) - q.m by omega]
            exact Int.dvd_sub db (Int.dvd_refl _)
        · rw [has_some, if_neg hm0]
          refine ⟨fun x hx => ?_, fun c hc => ?_, ?_⟩
          · rw [el] at hx; cases hx
          · rw [eh] at hc; cases hc; omega
          · rw [show b - q.m + q.m - q.r = b - q.r by omega]; exact db
      | none =>
        have eb : begin q = q.r := by unfold begin; rw [el, eh]
        refine ⟨q.r, ?_, ?_, ?_, ?_⟩
        · have := mem_near (q := q) 1 (by decide)
          rwa [eb, show q.r + (-1 + ((1 : Nat) : Int)) * q.m = q.r by simp] at this
        · have := mem_near (q := q) 2 (by decide)
          rwa [eb, show q.r + (-1 + ((2 : Nat) : Int)) * q.m = q.r + q.m by simp] at this
        · rw [has_some, if_neg hm0, el, eh]
          exact ⟨fun x hx => (by cases hx), fun x hx => (by cases hx), by rw [Int.sub_self]; exact Int.dvd_zero _⟩
        · rw [has_some, if_neg hm0, el, eh]
          exact ⟨fun x hx => (by cases hx), fun x hx => (by cases hx), by rw [show q.r + q.m - q.r = q.m by omega]; exact Int.dvd_refl _⟩
/-- the ends themselves -/
theorem end_near {q : Q4} (v : Valid (some q)) : (∀ a ∈ q.l, a ∈ near q 1 ∧ has (some q) a = true) ∧ (∀ b ∈ q.h, b ∈ near q 1 ∧ has (some q) b = true) := by
  refine ⟨fun a ha => ?_, fun b hb => ?_⟩
  · have eb : begin q = a := by unfold begin; rw [show q.l = some a from ha]
    refine ⟨?_, ?_⟩
    · have := mem_near (q := q) 1 (by decide)
      rwa [eb, show a + (-1 + ((1 : Nat) : Int)) * q.m = a by simp] at this
    · rw [has_some]
      rcases valid_shape v with ⟨h0, h1, h2⟩ | ⟨h0, r0, r1, hl, hh, hlh⟩
      · rw [if_pos h0, h1, h2]
        rw [show q.l = some a from ha] at h1
        have e := Option.some.inj h1
        refine ⟨fun x hx => ?_, fun x hx => ?_, e⟩
        · cases hx; omega
        · cases hx; omega
      · rw [if_neg (by omega)]
        refine ⟨fun x hx => ?_, fun b hb => ?_, ?_⟩
        · rw [show q.l = some a from ha] at hx; cases hx; omega
        · have := hlh a ha b hb; omega
        · have := (Int.dvd_neg (a := q.m)).mpr (Int.dvd_of_emod_eq_zero (hl a ha))
          rwa [show -(q.r - a) = a - q.r by omega] at this
  · refine ⟨?_, ?_⟩
    · have := mem_near_b (q := q) hb 0 (by decide)
      rwa [show b - ((0 : Nat) : Int) * q.m = b by simp] at this
    · rw [has_some]
      rcases valid_shape v with ⟨h0, h1, h2⟩ | ⟨h0, r0, r1, hl, hh, hlh⟩
      · rw [if_pos h0, h1, h2]
        rw [show q.h = some b from hb] at h2
        have e := Option.some.inj h2
        refine ⟨fun x hx => ?_, fun x hx => ?_, e⟩
        · cases hx; omega
        · cases hx; omega
      · rw [if_neg (by omega)]
        refine ⟨fun a ha => ?_, fun x hx => ?_, Int.dvd_of_emod_eq_zero (hh b hb)⟩
        · have := hlh a ha b hb; omega
        · rw [show q.h = some b from hb] at hx; cases hx; omega
theorem inside_eq {s o : Option Q4} (vs : Valid s) (vo : Valid o) : inside s o = within s o := by
  cases s with
  | none => rw [within_none]; cases o <;> rfl
  | some s =>
    cases o with
    | none => rfl
    | some o =>
      rw [Bool.eq_iff_iff]
      constructor
      · intro h
        simp only [inside] at h
        split at h
        · cases h
        · rename_i hne
          have all : ∀ n, n ∈ near s 1 → has (some s) n = true → has (some o) n = true := fun n h1 h2 => List.all_eq_true.mp h n (List.mem_filter.mpr ⟨h1, h2⟩)
          obtain ⟨en1, en2⟩ := end_near vs
          have w1 : ¬ ∃ f ∈ o.l, ∀ a ∈ s.l, a < f := by
            rintro ⟨f, hf, q⟩
            cases ea : s.l with
            | none => exact hne (.inl ⟨by rw [show o.l = some f from hf]; rfl, ea⟩)
            | some a =>
              obtain ⟨m1, m2⟩ := en1 a ea
              have := (has_some.mp (all a m1 m2)).1 f hf
              have := q a ea
              omega
          have w2 : ¬ ∃ t ∈ o.h, ∀ b ∈ s.h, t < b := by
            rintro ⟨t, ht, q⟩
            cases eb : s.h with
            | none => exact hne (.inr ⟨by rw [show o.h = some t from ht]; rfl, eb⟩)
            | some b =>
              obtain ⟨m1, m2⟩ := en2 b eb
              have := (has_some.mp (all b m1 m2)).2.1 t ht
              have := q b eb
              omega
          simp only [within, if_neg w1, if_neg w2]
          by_cases s0 : s.m = 0
          · obtain ⟨el, eh⟩ : s.l = some s.r ∧ s.h = some s.r := by
              rcases valid_shape vs with ⟨_, h1, h2⟩ | ⟨h, _⟩
              · exact ⟨h1, h2⟩
              · omega
            obtain ⟨m1, m2⟩ := en1 s.r el
            have q := (has_some.mp (all _ m1 m2)).2.2
            by_cases o0 : o.m = 0
            · rw [if_pos o0] at q ⊢
              simp [s0, q]
            · rw [if_neg o0] at q ⊢
              simp [s0, Int.emod_eq_zero_of_dvd q]
          · have sp : 0 < s.m := by
              rcases valid_shape vs with ⟨h, _⟩ | ⟨h, _⟩
              · omega
              · exact h
            obtain ⟨n, n1, n2, n3, n4⟩ := two_near vs sp
            have q1 := (has_some.mp (all n n1 n3)).2.2
            have q2 := (has_some.mp (all _ n2 n4)).2.2
            have q3 := (has_some.mp n3).2.2
            rw [if_neg s0] at q3
            by_cases o0 : o.m = 0
            · rw [if_pos o0] at q1 q2
              omega
            · rw [if_neg o0] at q1 q2 ⊢
              have dm : o.m ∣ s.m := by
                have := Int.dvd_sub q2 q1
                rwa [show n + s.m - o.r - (n - o.r) = s.m by omega] at this
              have dr : o.m ∣ s.r - o.r := by
                have := Int.dvd_sub q1 (Int.dvd_trans dm q3)
                rwa [show n - o.r - (n - s.r) = s.r - o.r by omega] at this
              simp [Int.emod_eq_zero_of_dvd dm, Int.emod_eq_zero_of_dvd dr]
      · intro w
        have snd : ∀ n, has (some s) n = true → has (some o) n = true := fun n => within_sound w
        simp only [inside]
        have hne : ¬ ((o.l.isSome ∧ s.l = none) ∨ (o.h.isSome ∧ s.h = none)) := by
          simp only [within] at w
          split at w
          · cases w
          · rename_i w1
            split at w
            · cases w
            · rename_i w2
              rintro (⟨h1, h2⟩ | ⟨h1, h2⟩)
              · obtain ⟨f, hf⟩ := Option.isSome_iff_exists.mp h1
                exact w1 ⟨f, hf, fun a ha => by rw [h2] at ha; cases ha⟩
              · obtain ⟨f, hf⟩ := Option.isSome_iff_exists.mp h1
                exact w2 ⟨f, hf, fun a ha => by rw [h2] at ha; cases ha⟩
        rw [if_neg hne]
        exact List.all_eq_true.mpr fun n hn => snd n (List.mem_filter.mp hn).2
end K10

set_option Elab.async false
set_option linter.all false
set_option maxRecDepth 100000
set_option maxHeartbeats 1000000
set_option autoImplicit false
/-! DL9: min, max of ints; gcd by import. -/
namespace DL
open PySem PySem.Spec L2
def inOf : Dt → Option Int
  | .int b => some b
  | _ => none
def insOf : List Dt → Option (List Int)
  | [] => some []
  | d :: ds => match inOf d, insOf ds with
    | some b, some bs => some (b :: bs)
    | _, _ => none
theorem rp_ins {ss : Option Addr} {h : Hp} : ∀ {ds : List Dt} {vs : List V} {bs : List Int}, insOf ds = some bs → RpL ss h ds vs → vs = bs.map V.int
  | [], vs, bs, e, r => by cases e; exact r.inv_nil
  | d :: ds, vs, bs, e, r => by
    unfold insOf at e
    split at e
    · rename_i b cs e1 e2
      cases e
      obtain ⟨v, t, rfl, r1, r2⟩ := r.inv_cons
      cases d <;> simp [inOf] at e1
      subst e1
      simp only [Rp] at r1
      rw [r1, rp_ins e2 r2]
      rfl
    · cases e
theorem insOf_map : ∀ ns : List Int, insOf (ns.map Dt.int) = some ns
  | [] => rfl
  | n :: ns => by simp [insOf, inOf, insOf_map ns]
/-- max of a list of ints -/
def cMaxL : MC := fun xs k => match xs with
  | [.lst ds] => match insOf ds with
    | some ns => 0 < ns.length ∧ ∀ m, m ∈ ns → (∀ y ∈ ns, y ≤ m) → k (.int m)
    | none => False
  | _ => False
def cMinL : MC := fun xs k => match xs with
  | [.lst ds] => match insOf ds with
    | some ns => 0 < ns.length ∧ ∀ m, m ∈ ns → (∀ y ∈ ns, m ≤ y) → k (.int m)
    | none => False
  | _ => False
theorem simMaxL {K : PySem.W.Frag} : SimC (rMax K) cMaxL where
  mono := fun xs k k' h => by
    unfold cMaxL
    split
    · split
      · exact fun ⟨a, q⟩ => ⟨a, fun m h1 h2 => h _ (q m h1 h2)⟩
      · exact id
    · exact id
  run := fun W ρ σ H R ds vs D r h => by
    unfold cMaxL at h
    split at h
    · split at h
      · rename_i ys ns e
        obtain ⟨v, t, rfl, r1, r2⟩ := r.inv_cons
        rw [r2.inv_nil]
        simp only [Rp] at r1
        obtain ⟨a, us, rfl, g, q⟩ := r1
        have := rp_ins e q
        subst this
        exact ⟨a, ns, rfl, SqL.of (vw_sub _ _ g), h.1, fun m h1 h2 => h.2 m h1 h2 _ H D .refl (by simp only [Rp])⟩
      · exact h.elim
    · exact h.elim
theorem simMinL {K : PySem.W.Frag} : SimC (rMin K) cMinL where
  mono := fun xs k k' h => by
    unfold cMinL
    split
    · split
      · exact fun ⟨a, q⟩ => ⟨a, fun m h1 h2 => h _ (q m h1 h2)⟩
      · exact id
    · exact id
  run := fun W ρ σ H R ds vs D r h => by
    unfold cMinL at h
    split at h
    · split at h
      · rename_i ys ns e
        obtain ⟨v, t, rfl, r1, r2⟩ := r.inv_cons
        rw [r2.inv_nil]
        simp only [Rp] at r1
        obtain ⟨a, us, rfl, g, q⟩ := r1
        have := rp_ins e q
        subst this
        exact ⟨a, ns, rfl, SqL.of (vw_sub _ _ g), h.1, fun m h1 h2 => h.2 m h1 h2 _ H D .refl (by simp only [Rp])⟩
      · exact h.elim
    · exact h.elim
/-- of two ints -/
def c2 (f : Int → Int → Int) : MC := fun xs k => match xs with
  | [.int i, .int j] => k (.int (f i j))
  | _ => False
theorem sim2 {f : Int → Int → Int} : SimC (fun xs H Q => ∃ i j, xs = [V.int i, .int j] ∧ Q (V.int (f i j)) H) (c2 f) where
  mono := fun xs k k' h => by
    unfold c2
    split
    · exact h _
    · exact id
  run := fun W ρ σ H R ds vs D r h => by
    unfold c2 at h
    split at h
    · rename_i i j
      obtain ⟨v, t, rfl, r1, r2⟩ := r.inv_cons
      obtain ⟨u, t, rfl, r3, r4⟩ := r2.inv_cons
      rw [r4.inv_nil]
      simp only [Rp] at r1 r3
      exact ⟨i, j, by rw [r1, r3], h _ H D .refl (by simp only [Rp])⟩
    · exact h.elim
abbrev cMax2 : MC := c2 fun i j => if j > i then j else i
abbrev cMin2 : MC := c2 fun i j => if j < i then j else i
abbrev cGcd : MC := c2 fun a b => ((Nat.gcd a.natAbs b.natAbs : Nat) : Int)
section
variable {X : Cx} {K : PySem.W.Frag} {a b c e : Expr} {es : List Expr} {pos p p2 p3 : Pos} {ta tb te : TE} {ma mb me : ME} {t : TA} {n : MA} {x : Str}
theorem kmax2 (hc : X.calm = true) (hm : X.mg "max" = none) (ha : DA X (e :: es) t n) (hg : Gl X "max" := by exact rfl)
    (he : starEach (e :: es) X.env = (false, eval e X.env) :: starEach es X.env := by exact rfl) (hpl : (backTo pos (starEach es X.env)).any (·.1) = false := by exact rfl) :
    DE X (.Call (.Name "max" p) (e :: es) [] pos) (tCB (fun xs H Q => ∃ i j, xs = [V.int i, .int j] ∧ Q (V.int (if j > i then j else i)) H) t) (mCB cMax2 n) := de_callB (call_max2 hc) sim2 hm ha hg (by decide +kernel) (by decide) (by decide) he hpl
theorem kmin2 (hc : X.calm = true) (hm : X.mg "min" = none) (ha : DA X (e :: es) t n) (hg : Gl X "min" := by exact rfl)
    (he : starEach (e :: es) X.env = (false, eval e X.env) :: starEach es X.env := by exact rfl) (hpl : (backTo pos (starEach es X.env)).any (·.1) = false := by exact rfl) :
    DE X (.Call (.Name "min" p) (e :: es) [] pos) (tCB (fun xs H Q => ∃ i j, xs = [V.int i, .int j] ∧ Q (V.int (if j < i then j else i)) H) t) (mCB cMin2 n) := de_callB (call_min2 hc) sim2 hm ha hg (by decide +kernel) (by decide) (by decide) he hpl
theorem kmaxL (hK : X.K = K) (hc : X.calm = true) (hm : X.mg "max" = none) (ha : DA X (e :: es) t n) (hg : Gl X "max" := by exact rfl)
    (he : starEach (e :: es) X.env = (false, eval e X.env) :: starEach es X.env := by exact rfl) (hpl : (backTo pos (starEach es X.env)).any (·.1) = false := by exact rfl) :
    DE X (.Call (.Name "max" p) (e :: es) [] pos) (tCB (rMax K) t) (mCB cMaxL n) := by
  subst hK; exact de_callB (cr_max hc) simMaxL hm ha hg (by decide +kernel) (by decide) (by decide) he hpl
theorem kminL (hK : X.K = K) (hc : X.calm = true) (hm : X.mg "min" = none) (ha : DA X (e :: es) t n) (hg : Gl X "min" := by exact rfl)
    (he : starEach (e :: es) X.env = (false, eval e X.env) :: starEach es X.env := by exact rfl) (hpl : (backTo pos (starEach es X.env)).any (·.1) = false := by exact rfl) :
    DE X (.Call (.Name "min" p) (e :: es) [] pos) (tCB (rMin K) t) (mCB cMinL n) := by
  subst hK; exact de_callB (cr_min hc) simMinL hm ha hg (by decide +kernel) (by decide) (by decide) he hpl
theorem kgcd {es : List Expr} (hm : X.mg x = some (.builtin "math.gcd")) (ha : DA X (e :: es) t n) (hg : Gl X x := by exact rfl) (hdb : (x == ("__debug__" : Str)) = false := by decide)
    (he : starEach (e :: es) X.env = (false, eval e X.env) :: starEach es X.env := by exact rfl) (hpl : (backTo pos (starEach es X.env)).any (·.1) = false := by exact rfl) :
    DE X (.Call (.Name x p) (e :: es) [] pos) (tCB rGcd t) (mCB cGcd n) := ⟨pe_callBfun cr_gcd hg hm ha.pa hdb he hpl, simCB sim2 ha.sim⟩
end
end DL

set_option Elab.async false
set_option linter.all false
set_option maxRecDepth 100000
set_option maxHeartbeats 1000000
set_option autoImplicit false
/-! DL10: two local names from a pair. -/
namespace DL
open PySem PySem.Spec L2
def mPar (i j : Nat) (n : MA) : MS := fun D ρ => n ρ fun ds ρ1 => match ds with
  | [a, b] => D.nx ((ρ1.put i (.d a)).put j (.d b))
  | _ => False
theorem simPar {i j : Nat} {t : TA} {n : MA} (h : SimA t n) : SimS (tPar i j t) (mPar i j n) where
  mono := fun D D' ρ l => h.mono _ _ _ fun ds ρ1 => by
    split
    · exact l.nx _
    · exact id
  run := fun W ρ σ H D R z => h.run W ρ σ H _ R (h.mono _ _ _ (fun ds ρ1 q vs H' D' S r => by
    split at q
    · rename_i a b
      obtain ⟨v, t, rfl, r1, r2⟩ := r.inv_cons
      obtain ⟨w, t, rfl, r3, r4⟩ := r2.inv_cons
      have := r4.inv_nil
      subst this
      obtain ⟨D1, S1⟩ := D'.set (i := i) r1
      obtain ⟨D2, S2⟩ := D1.set (i := j) (r3.step S1)
      exact ⟨v, w, rfl, q _ H' D2 ((S.trans S1).trans S2)⟩
    · exact q.elim) z)
theorem ds_par {X : Cx} {x y : Str} {a b : Expr} {ta : TA} {n : MA} {px py pt pos : Pos} {kt k2 : Nat} {pt2 : Pos} (i j : Nat) (hc : X.calm = true) (hN : X.N.Nodup) (ha : DA X [a, b] ta n) (hi : X.N[i]? = some x := by rfl) (hj : X.N[j]? = some y := by rfl) (hij : i ≠ j := by decide)
    (hx : X.env.scope.names.lookup x = some .local := by rfl) (hy : X.env.scope.names.lookup y = some .local := by rfl)
    (hw : swappedStores [.Tuple [.Name x px, .Name y py] kt pt] (.Tuple [a, b] k2 pt2) X.env = pure (some [x, y]) := by exact rfl)
    (hs : swapsWithSole [.Tuple [.Name x px, .Name y py] kt pt] (.Tuple [a, b] k2 pt2) pos.line X.env = pure false := by exact rfl) :
    DS X (.Assign [.Tuple [.Name x px, .Name y py] kt pt] (.Tuple [a, b] k2 pt2) pos) (tPar i j ta) (mPar i j n) := ⟨ps_par hc hN hi hj hij hx hy ha.pa hw hs, simPar ha.sim⟩
end DL

set_option Elab.async false
set_option linter.all false
set_option maxRecDepth 100000
set_option maxHeartbeats 2000000
set_option autoImplicit false
namespace K11
open K10 PySem PySem.Spec L2 DL
def top (i : Nat) : Stmt := PySem.Challenge.pw_everypath_k11_whole_least_strips.main.body.getD i (.Pass ⟨0, 0, 0, 0⟩)
structure Txt (mg : Str → Option Value) : Prop where
  isinstance : mg "isinstance" = none
  int : mg "int" = none
  bool : mg "bool" = none
  list : mg "list" = none
  tuple : mg "tuple" = none
  dict : mg "dict" = none
  len : mg "len" = none
  abs : mg "abs" = none
  all : mg "all" = none
  zip : mg "zip" = none
  range : mg "range" = none
  min : mg "min" = none
  max : mg "max" = none
  gcd : mg "gcd" = some (.builtin "math.gcd")
def gS (k : Nat) (g : List Dt → Option Dt) : Spc := fun ds n Q => ds.length = k ∧ match g ds with
  | some r => Q r n
  | none => False
theorem gS_mono {k : Nat} {g : List Dt → Option Dt} : MonoS (gS k g) := fun ds n k k' h ⟨a, q⟩ => ⟨a, by
  revert q
  split
  · exact h _ _
  · exact id⟩
local macro_rules | `(tactic| walk_at "rd") => `(tactic| try simp only [gS, mSeq, mIfS, mRet, mRetN, mAsg, gmName, mVar, mC, mOp, mUn, uIsi, mB, mTNot, mTAnd, mTOr, mAnd, mOr, uNot, mIf, mNil, mCons, mTup, mLst, mCB, mCall, mCallKw, mNext, mNever, mDrop, mFor, miSeq, loopD, gmNil, gmCons, gmTup, gmSeq, seqOf_lst, seqOf_tup, seqOf_non, seqOf_int, seqOf_bl, seqOf_str, seqOf_strm, cLen, cTuple, cInt, cAbs, oAdd, oSub, oMul, oFdiv, oMod, oPow, oI, oI0, uI, uNeg, oLt, oLe, oGt, oGe, oIsN, oNotN, isNon_lst, isNon_tup, isNon_non, isNon_int, isNon_bl, isNon_str, isNon_strm, oEq, oNe, oIx, En.put, start0, tyD_lst, tyD_tup, tyD_non, tyD_int, tyD_bl, tyD_str, tyD_strm, isiT, deq_int, List.any_cons, List.any_nil, List.map_cons, List.map_nil, List.length_cons, List.length_nil, List.cons_append, List.nil_append, List.getElem?_cons_zero, List.getElem?_cons_succ, List.set_cons_zero, List.set_cons_succ, Bool.or_false, Bool.false_or, Bool.not_true, Bool.not_false, if_true, if_false, Bool.false_eq_true, List.reduceReplicate, Nat.reduceSub, Nat.reduceAdd, decide_eq_true_eq, Bool.not_eq_true', decide_eq_false_iff_not, fineD, true_and, and_true, and_self, sizeLine_eq, Nat.reduceLeDiff, not_true_eq_false, not_false_eq_true, reduceIte, Bool.true_eq_false, Nat.reduceEqDiff, ne_eq])

/-! ### data of strips -/
def oi : OI → Dt
  | none => .non
  | some i => .int i
def q4 (q : Q4) : List Dt := [oi q.l, oi q.h, .int q.m, .int q.r]
def sD : Option Q4 → Dt
  | none => .non
  | some q => .tup (q4 q)
def dOI : Dt → Option OI
  | .non => some none
  | .int i => some (some i)
  | _ => none
def dQ (ds : List Dt) : Option Q4 := match ds with
  | [a, b, .int m, .int r] => match dOI a, dOI b with
    | some l, some h => some ⟨l, h, m, r⟩
    | _, _ => none
  | _ => none
def dS (d : Dt) : Option (Option Q4) := match d with
  | .non => some none
  | .tup xs => (dQ xs).map some
  | .lst xs => (dQ xs).map some
  | _ => none
theorem dOI_oi (x : OI) : dOI (oi x) = some x := by cases x <;> rfl
theorem dOI_inv {d : Dt} {x : OI} (h : dOI d = some x) : d = oi x := by
  cases d <;> simp [dOI] at h <;> subst h <;> rfl
theorem dQ_q4 (q : Q4) : dQ (q4 q) = some q := by
  obtain ⟨l, h, m, r⟩ := q
  simp [dQ, q4, dOI_oi]
theorem dQ_inv {ds : List Dt} {q : Q4} (h : dQ ds = some q) : ds = q4 q := by
  unfold dQ at h
  split at h
  · split at h
    · rename_i a b m r l g e1 e2
      cases h
      rw [dOI_inv e1, dOI_inv e2]; rfl
    · cases h
  · cases h
theorem dS_sD (s : Option Q4) : dS (sD s) = some s := by
  cases s with
  | none => rfl
  | some q => simp [sD, dS, dQ_q4]
theorem dS_inv {d : Dt} {s : Option Q4} (h : dS d = some s) : (s = none ∧ d = .non) ∨ ∃ q, s = some q ∧ (d = .tup (q4 q) ∨ d = .lst (q4 q)) := by
  cases d with
  | non => cases h; exact .inl ⟨rfl, rfl⟩
  | tup xs =>
    simp only [dS, Option.map_eq_some_iff] at h
    obtain ⟨q, e, rfl⟩ := h
    exact .inr ⟨q, rfl, .inl (by rw [dQ_inv e])⟩
  | lst xs =>
    simp only [dS, Option.map_eq_some_iff] at h
    obtain ⟨q, e, rfl⟩ := h
    exact .inr ⟨q, rfl, .inr (by rw [dQ_inv e])⟩
  | _ => cases h
instance (s : Option Q4) : Decidable (Valid s) := by
  cases s with
  | none => exact .isTrue trivial
  | some q => exact inferInstanceAs (Decidable (_ ∧ _))
/-- numbers in strips, at most -/
abbrev BS : Int := 1000000000000000000000000000000000000000000000000000000000000000000000000000000000000000000000000000000000000000000000000000000000000000000000000000000000000000000000000000000000000000000000000000000000000000000
instance (B : Int) (x : OI) : Decidable (bnd B x) := by
  cases x with
  | none => exact .isTrue trivial
  | some q => exact inferInstanceAs (Decidable (_ ∧ _))
instance (B : Int) (s : Option Q4) : Decidable (Bnd B s) := by
  cases s with
  | none => exact .isTrue trivial
  | some q => exact inferInstanceAs (Decidable (_ ∧ _))
section
variable {P : Program} {w : World} {K : PySem.W.Frag} {mg : Str → Option Value} {base : Heap} {f : Addr} {fd : FuncData}
def g_is_integer : List Dt → Option Dt
  | [.int _] => some (.bl true)
  | [.strm] => none
  | [_] => some (.bl false)
  | _ => none
abbrev s_is_integer : Stmt := top 2
theorem sc_is_integer : FnScope ["thing"] ["thing"] (defScope s_is_integer) := ⟨rfl, rfl, rfl, by decide +kernel, rfl, by decide +kernel, by decide +kernel⟩
theorem c_is_integer (T : Txt mg)  (F : Fun K "is_integer" "is_integer" s_is_integer f fd) (hm : mg "is_integer" = some (.ref f)) (hb : Binds K fd ["thing"] []) : Cal P w K mg base 1 "is_integer" ["thing"] (gS 1 g_is_integer) f fd := by
  refine fnD F hm hb sc_is_integer gS_mono (fun ds n Q h => h.1) (fun cdv A outer s H E hr => ⟨_, (dss_one (ds_ret (de_and (kisi (K := K) rfl .int (by decide) T.isinstance T.int (dv 0)) (de_one (de_not (kisi (K := K) rfl .bool (by decide) T.isinstance T.bool (dv 0)))))))⟩) (fun ds n Q h => ?_)
  obtain ⟨hl, h⟩ := h
  match ds, hl with
  | [d], _ =>
    cases d <;> (simp only [g_is_integer] at h) <;> walk_at "rd" <;> exact h
def g_is_number : List Dt → Option Dt
  | [.int i] => some (.bl (decide (0 ≤ i)))
  | [.strm] => none
  | [_] => some (.bl false)
  | _ => none
abbrev s_is_number : Stmt := top 3
theorem sc_is_number : FnScope ["thing"] ["thing"] (defScope s_is_number) := ⟨rfl, rfl, rfl, by decide +kernel, rfl, by decide +kernel, by decide +kernel⟩
theorem c_is_number (T : Txt mg) {f_is_integer : Addr} {d_is_integer : FuncData} (c_is_integer : Cal P w K mg base 1 "is_integer" ["thing"] (gS 1 g_is_integer) f_is_integer d_is_integer) (F : Fun K "is_number" "is_number" s_is_number f fd) (hm : mg "is_number" = some (.ref f)) (hb : Binds K fd ["thing"] []) : Cal P w K mg base 2 "is_number" ["thing"] (gS 1 g_is_number) f fd := by
  refine fnD F hm hb sc_is_number gS_mono (fun ds n Q h => h.1) (fun cdv A outer s H E hr => ⟨_, (dss_one (ds_ret (de_and (de_call c_is_integer (hr.mono (by omega)) (da_cons (dv 0) da_nil)) (de_one (de_cmp op_ge simGe (dv 0) de_int (nomark _))))))⟩) (fun ds n Q h => ?_)
  obtain ⟨hl, h⟩ := h
  match ds, hl with
  | [d], _ =>
    cases d <;> (simp only [g_is_number] at h) <;> walk_at "rd" <;> simp only [g_is_integer] <;> exact h
def g_is_list : List Dt → Option Dt
  | [.lst _] => some (.bl true)
  | [.tup _] => some (.bl true)
  | [.strm] => none
  | [_] => some (.bl false)
  | _ => none
abbrev s_is_list : Stmt := top 4
theorem sc_is_list : FnScope ["thing"] ["thing"] (defScope s_is_list) := ⟨rfl, rfl, rfl, by decide +kernel, rfl, by decide +kernel, by decide +kernel⟩
theorem c_is_list (T : Txt mg)  (F : Fun K "is_list" "is_list" s_is_list f fd) (hm : mg "is_list" = some (.ref f)) (hb : Binds K fd ["thing"] []) : Cal P w K mg base 1 "is_list" ["thing"] (gS 1 g_is_list) f fd := by
  refine fnD F hm hb sc_is_list gS_mono (fun ds n Q h => h.1) (fun cdv A outer s H E hr => ⟨_, (dss_one (ds_ret (kisiT (K := K) rfl [.lst, .tup] (by decide) T.isinstance (dv 0) (pa_cons (pe_bltn (v := .ty (Ty.name .lst)) rfl T.list (by decide +kernel) rfl) (pa_cons (pe_bltn (v := .ty (Ty.name .tup)) rfl T.tuple (by decide +kernel) rfl) pa_nil)) (fun _ _ _ h => h) (by decide))))⟩) (fun ds n Q h => ?_)
  obtain ⟨hl, h⟩ := h
  match ds, hl with
  | [d], _ =>
    cases d <;> (simp only [g_is_list] at h) <;> walk_at "rd" <;> exact h
def g_brought : List Dt → Option Dt
  | [a, b, .int m, .int r] => match dOI a, dOI b with
    | some l, some h => if 0 ≤ m then some (sD (brought l h m r)) else none
    | _, _ => none
  | _ => none
abbrev s_brought : Stmt := top 10
theorem sc_brought : FnScope ["low", "high", "modulus", "remainder", "inside"] ["low", "high", "modulus", "remainder"] (defScope s_brought) := ⟨rfl, rfl, rfl, by decide +kernel, rfl, by decide +kernel, by decide +kernel⟩
theorem c_brought (T : Txt mg)  (F : Fun K "brought" "brought" s_brought f fd) (hm : mg "brought" = some (.ref f)) (hb : Binds K fd ["low", "high", "modulus", "remainder"] []) : Cal P w K mg base 1 "brought" ["low", "high", "modulus", "remainder"] (gS 4 g_brought) f fd := by
  refine fnD F hm hb sc_brought gS_mono (fun ds n Q h => h.1) (fun cdv A outer s H E hr => ⟨_, (dss_cons (ds_if (kteq (K := K) rfl hr.units (dv 2) de_int) (dss_cons (ds_set 4 sc_brought.nd (de_and (de_or (de_cmp op_isN simIsN (dv 0) de_non (nomark _)) (de_one (de_cmp op_le simLe (dv 0) (dv 3) (nomark _)))) (de_one (de_or (de_cmp op_isN simIsN (dv 1) de_non (nomark _)) (de_one (de_cmp op_le simLe (dv 3) (dv 1) (nomark _)))))))
      (dss_one (ds_ret (de_if (dt_val (dv 4)) (de_tup (da_cons (dv 3) (da_cons (dv 3) (da_cons de_int (da_cons (dv 3) da_nil))))) de_non)))) dss_nil)
      (dss_cons (ds_if (dt_cmp op_notN simNotN (dv 0) de_non (nomark _)) (dss_one (ds_set 0 sc_brought.nd (de_add (dv 0) (de_mod (de_sub (dv 3) (dv 0)) (dv 2))))) dss_nil)
      (dss_cons (ds_if (dt_cmp op_notN simNotN (dv 1) de_non (nomark _)) (dss_one (ds_set 1 sc_brought.nd (de_sub (dv 1) (de_mod (de_sub (dv 1) (dv 3)) (dv 2))))) dss_nil)
      (dss_cons (ds_if (DW.dt (dw_and (dt_cmp op_notN simNotN (dv 0) de_non (nomark _)) (dw_and1 (dt_cmp op_notN simNotN (dv 1) de_non (nomark _))))) (dss_cons (ds_if (dt_cmp op_gt simGt (dv 0) (dv 1) (nomark _)) (dss_one (ds_ret de_non)) dss_nil)
      (dss_one (ds_if (kteq (K := K) rfl hr.units (dv 0) (dv 1)) (dss_one (ds_ret (de_tup (da_cons (dv 0) (da_cons (dv 0) (da_cons de_int (da_cons (dv 0) da_nil))))))) dss_nil))) dss_nil)
      (dss_one (ds_ret (de_tup (da_cons (dv 0) (da_cons (dv 1) (da_cons (dv 2) (da_cons (de_mod (dv 3) (dv 2)) da_nil)))))))))))⟩) (fun ds n Q h => ?_)
  obtain ⟨hl, h⟩ := h
  unfold g_brought at h
  split at h
  · rename_i x e
    split at e
    · rename_i a b m r
      split at e
      · rename_i l g el eg
        split at e
        · rename_i hm0
          cases e
          rw [dOI_inv el, dOI_inv eg]
          cases l <;> cases g <;> simp only [oi] <;> walk_at "rd"
          all_goals (repeat' (first | (refine ⟨by omega, ?_⟩) | split))
          all_goals (simp_all [brought, sD, q4, oi]; done)
        · cases e
      · cases e
    · cases e
  · exact h.elim
theorem fine_q4 (q : Q4) (n : Nat) : fineD (n + 1) (.tup (q4 q)) = true := by
  obtain ⟨l, h, m, r⟩ := q
  cases l <;> cases h <;> rfl
/-- a datum that is a strip, its numbers not too great -/
def okS (d : Dt) : Option (Option Q4) := match dS d with
  | some s => if Valid s ∧ Bnd BS s then some s else none
  | none => none
theorem okS_inv {d : Dt} {s : Option Q4} (h : okS d = some s) : dS d = some s ∧ Valid s ∧ Bnd BS s := by
  unfold okS at h
  split at h
  · split at h
    · rename_i e v; cases h; exact ⟨e, v⟩
    · cases h
  · cases h
theorem okS_of {d : Dt} {s : Option Q4} (h : dS d = some s) (v : Valid s) (b : Bnd BS s) : okS d = some s := by
  unfold okS
  rw [h]
  simp only [if_pos (And.intro v b)]
def g_is_strip : List Dt → Option Dt
  | [d] => (okS d).map fun _ => .bl true
  | _ => none
abbrev s_is_strip : Stmt := top 12
theorem sc_is_strip : FnScope ["thing", "low", "high", "modulus", "remainder"] ["thing"] (defScope s_is_strip) := ⟨rfl, rfl, rfl, by decide +kernel, rfl, by decide +kernel, by decide +kernel⟩
theorem c_is_strip (T : Txt mg) {f_brought : Addr} {d_brought : FuncData} (c_brought : Cal P w K mg base 1 "brought" ["low", "high", "modulus", "remainder"] (gS 4 g_brought) f_brought d_brought) {f_is_integer : Addr} {d_is_integer : FuncData} (c_is_integer : Cal P w K mg base 1 "is_integer" ["thing"] (gS 1 g_is_integer) f_is_integer d_is_integer) {f_is_list : Addr} {d_is_list : FuncData} (c_is_list : Cal P w K mg base 1 "is_list" ["thing"] (gS 1 g_is_list) f_is_list d_is_list) {f_is_number : Addr} {d_is_number : FuncData} (c_is_number : Cal P w K mg base 2 "is_number" ["thing"] (gS 1 g_is_number) f_is_number d_is_number) (F : Fun K "is_strip" "is_strip" s_is_strip f fd) (hm : mg "is_strip" = some (.ref f)) (hb : Binds K fd ["thing"] []) : Cal P w K mg base 3 "is_strip" ["thing"] (gS 1 g_is_strip) f fd := by
  refine fnD F hm hb sc_is_strip gS_mono (fun ds n Q h => h.1) (fun cdv A outer s H E hr => ⟨_, (dss_cons (ds_if (dt_cmp op_isN simIsN (dv 0) de_non (nomark _)) (dss_one (ds_ret de_bl)) dss_nil)
      (dss_cons (ds_if (DW.dt (dw_or (dt_not (dt_val (de_call c_is_list (hr.mono (by omega)) (da_cons (dv 0) da_nil)))) (dw_or1 (ktne (K := K) rfl hr.units (klen (K := K) rfl T.len (da_cons (dv 0) da_nil)) de_int)))) (dss_one (ds_ret de_bl)) dss_nil)
      (dss_cons (ds_asg (dv 0) (kgseq (K := K) rfl 4 rfl (dgs_cons (dg_name 1 sc_is_strip.nd) (dgs_cons (dg_name 2 sc_is_strip.nd) (dgs_cons (dg_name 3 sc_is_strip.nd) (dgs_cons (dg_name 4 sc_is_strip.nd) dgs_nil))))))
      (dss_cons (ds_if (DW.dt (dw_or (DW.dt (dw_and (dt_cmp op_notN simNotN (dv 1) de_non (nomark _)) (dw_and1 (dt_not (dt_val (de_call c_is_integer (hr.mono (by omega)) (da_cons (dv 1) da_nil))))))) (dw_or1 (DW.dt (dw_and (dt_cmp op_notN simNotN (dv 2) de_non (nomark _)) (dw_and1 (dt_not (dt_val (de_call c_is_integer (hr.mono (by omega)) (da_cons (dv 2) da_nil)))))))))) (dss_one (ds_ret de_bl)) dss_nil)
      (dss_cons (ds_if (DW.dt (dw_or (dt_not (dt_val (de_call c_is_number (hr.mono (by omega)) (da_cons (dv 3) da_nil)))) (dw_or1 (dt_not (dt_val (de_call c_is_integer (hr.mono (by omega)) (da_cons (dv 4) da_nil))))))) (dss_one (ds_ret de_bl)) dss_nil)
      (dss_one (ds_ret (keq (K := K) rfl hr.units (de_call c_brought (hr.mono (by omega)) (da_cons (dv 1) (da_cons (dv 2) (da_cons (dv 3) (da_cons (dv 4) da_nil))))) (de_tup (da_cons (dv 1) (da_cons (dv 2) (da_cons (dv 3) (da_cons (dv 4) da_nil)))))))))))))⟩) (fun ds n Q h => ?_)
  obtain ⟨hl, h⟩ := h
  match ds, hl with
  | [d], _ =>
    simp only [g_is_strip] at h
    cases e : okS d with
    | none => rw [e] at h; exact h.elim
    | some s =>
      rw [e] at h
      have h : Q (.bl true) n := h
      obtain ⟨ed, v, _⟩ := okS_inv e
      rcases dS_inv ed with ⟨rfl, rfl⟩ | ⟨q, rfl, ed2⟩
      · walk_at "rd"; exact h
      · clear e ed
        obtain ⟨hm, eb⟩ := v
        have f1 := fine_q4 q 63
        have f2 := deq_refl _ 64 f1
        obtain ⟨a, b, m, r⟩ := q
        simp only at hm eb
        have hm1 : decide (0 ≤ m) = true := decide_eq_true hm
        rcases ed2 with rfl | rfl <;> cases a <;> cases b <;> simp only [q4, oi] at f1 f2 ⊢ <;> walk_at "rd" <;> simp only [g_is_list, g_is_integer, g_is_number, g_brought, dOI, hm1] <;> walk_at "rd" <;>
          simp only [if_pos hm, eb, sD, q4, oi] <;> (refine ⟨⟨rfl, rfl⟩, ?_⟩)
        all_goals (rw [f2]; exact h)
def g_strip_from : List Dt → Option Dt
  | [d] => (okS d).map sD
  | _ => none
theorem sD_tuple {d : Dt} {q : Q4} (h : d = .tup (q4 q) ∨ d = .lst (q4 q)) : isNon d = false ∧ seqOf d = some (q4 q) := by
  rcases h with rfl | rfl <;> exact ⟨rfl, rfl⟩
abbrev s_strip_from : Stmt := top 13
theorem sc_strip_from : FnScope ["thing"] ["thing"] (defScope s_strip_from) := ⟨rfl, rfl, rfl, by decide +kernel, rfl, by decide +kernel, by decide +kernel⟩
theorem c_strip_from (T : Txt mg) {f_is_strip : Addr} {d_is_strip : FuncData} (c_is_strip : Cal P w K mg base 3 "is_strip" ["thing"] (gS 1 g_is_strip) f_is_strip d_is_strip) (F : Fun K "strip_from" "strip_from" s_strip_from f fd) (hm : mg "strip_from" = some (.ref f)) (hb : Binds K fd ["thing"] []) : Cal P w K mg base 4 "strip_from" ["thing"] (gS 1 g_strip_from) f fd := by
  refine fnD F hm hb sc_strip_from gS_mono (fun ds n Q h => h.1) (fun cdv A outer s H E hr => ⟨_, (dss_cons (ds_if (dt_not (dt_val (de_call c_is_strip (hr.mono (by omega)) (da_cons (dv 0) da_nil)))) (dss_one ds_never) dss_nil)
      (dss_one (ds_ret (de_if (dt_cmp op_isN simIsN (dv 0) de_non (nomark _)) de_non (ktuple (K := K) rfl T.tuple (da_cons (dv 0) da_nil))))))⟩) (fun ds n Q h => ?_)
  obtain ⟨hl, h⟩ := h
  match ds, hl with
  | [d], _ =>
    simp only [g_strip_from] at h
    cases e : okS d with
    | none => rw [e] at h; exact h.elim
    | some s =>
      rw [e] at h
      have h : Q (sD s) n := h
      obtain ⟨ed, v, _⟩ := okS_inv e
      walk_at "rd"
      simp only [g_is_strip, e, Option.map_some]
      walk_at "rd"
      rcases dS_inv ed with ⟨rfl, rfl⟩ | ⟨q, rfl, ed2⟩
      · exact h
      · rcases ed2 with rfl | rfl <;> exact h
def g_integer_from : List Dt → Option Dt
  | [.int i] => some (.int i)
  | _ => none
abbrev s_integer_from : Stmt := top 14
theorem sc_integer_from : FnScope ["n"] ["n"] (defScope s_integer_from) := ⟨rfl, rfl, rfl, by decide +kernel, rfl, by decide +kernel, by decide +kernel⟩
theorem c_integer_from (T : Txt mg) {f_is_integer : Addr} {d_is_integer : FuncData} (c_is_integer : Cal P w K mg base 1 "is_integer" ["thing"] (gS 1 g_is_integer) f_is_integer d_is_integer) (F : Fun K "integer_from" "integer_from" s_integer_from f fd) (hm : mg "integer_from" = some (.ref f)) (hb : Binds K fd ["n"] []) : Cal P w K mg base 2 "integer_from" ["n"] (gS 1 g_integer_from) f fd := by
  refine fnD F hm hb sc_integer_from gS_mono (fun ds n Q h => h.1) (fun cdv A outer s H E hr => ⟨_, (dss_cons (ds_if (dt_not (dt_val (de_call c_is_integer (hr.mono (by omega)) (da_cons (dv 0) da_nil)))) (dss_one ds_never) dss_nil)
      (dss_one (ds_ret (dv 0))))⟩) (fun ds n Q h => ?_)
  obtain ⟨hl, h⟩ := h
  match ds, hl with
  | [d], _ => cases d <;> (simp only [g_integer_from] at h) <;> walk_at "rd" <;> simp only [g_is_integer] <;> walk_at "rd" <;> exact h
def g_has : List Dt → Option Dt
  | [d, .int n] => (okS d).map fun s => .bl (has s n)
  | _ => none
abbrev s_has_it : Stmt := top 15
theorem sc_has_it : FnScope ["strip", "n", "low", "high", "modulus", "remainder"] ["strip", "n"] (defScope s_has_it) := ⟨rfl, rfl, rfl, by decide +kernel, rfl, by decide +kernel, by decide +kernel⟩
theorem c_has_it (T : Txt mg)  (F : Fun K "has_it" "has_it" s_has_it f fd) (hm : mg "has_it" = some (.ref f)) (hb : Binds K fd ["strip", "n"] []) : Cal P w K mg base 1 "has_it" ["strip", "n"] (gS 2 g_has) f fd := by
  refine fnD F hm hb sc_has_it gS_mono (fun ds n Q h => h.1) (fun cdv A outer s H E hr => ⟨_, (dss_cons (ds_if (dt_cmp op_isN simIsN (dv 0) de_non (nomark _)) (dss_one (ds_ret de_bl)) dss_nil)
      (dss_cons (ds_asg (dv 0) (kgseq (K := K) rfl 4 rfl (dgs_cons (dg_name 2 sc_has_it.nd) (dgs_cons (dg_name 3 sc_has_it.nd) (dgs_cons (dg_name 4 sc_has_it.nd) (dgs_cons (dg_name 5 sc_has_it.nd) dgs_nil))))))
      (dss_cons (ds_if (DW.dt (dw_or (DW.dt (dw_and (dt_cmp op_notN simNotN (dv 2) de_non (nomark _)) (dw_and1 (dt_cmp op_lt simLt (dv 1) (dv 2) (nomark _))))) (dw_or1 (DW.dt (dw_and (dt_cmp op_notN simNotN (dv 3) de_non (nomark _)) (dw_and1 (dt_cmp op_gt simGt (dv 1) (dv 3) (nomark _)))))))) (dss_one (ds_ret de_bl)) dss_nil)
      (dss_one (ds_ret (de_if (kteq (K := K) rfl hr.units (dv 4) de_int) (keq (K := K) rfl hr.units (dv 1) (dv 5)) (keq (K := K) rfl hr.units (de_mod (de_sub (dv 1) (dv 5)) (dv 4)) de_int)))))))⟩) (fun ds n Q h => ?_)
  obtain ⟨hl, h⟩ := h
  match ds, hl with
  | [d, .int i], _ =>
    simp only [g_has] at h
    cases e : okS d with
    | none => rw [e] at h; exact h.elim
    | some s =>
      rw [e] at h
      have h : Q (.bl (has s i)) n := h
      obtain ⟨ed, v, _⟩ := okS_inv e
      rcases dS_inv ed with ⟨rfl, rfl⟩ | ⟨q, rfl, ed2⟩
      · walk_at "rd"; exact h
      · clear e ed
        obtain ⟨hm, _⟩ := v
        obtain ⟨a, b, m, r⟩ := q
        simp only at hm
        by_cases h0 : m = 0
        · subst h0
          rcases ed2 with rfl | rfl <;> cases a <;> cases b <;> simp only [q4, oi] <;> walk_at "rd"
          all_goals (repeat' split)
          all_goals (simp_all [has]; done)
        · have hm1 : 0 < m := by omega
          rcases ed2 with rfl | rfl <;> cases a <;> cases b <;> simp only [q4, oi] <;> walk_at "rd" <;> simp only [h0, if_false, hm1, true_and]
          all_goals (repeat' split)
          all_goals (simp_all [has]; done)
  | [_, .non], _ => exact h.elim
  | [_, .bl _], _ => exact h.elim
  | [_, .str _], _ => exact h.elim
  | [_, .tup _], _ => exact h.elim
  | [_, .lst _], _ => exact h.elim
  | [_, .strm], _ => exact h.elim
end
end K11

set_option Elab.async false
set_option linter.all false
set_option maxRecDepth 100000
set_option maxHeartbeats 2000000
set_option autoImplicit false
namespace K11
open K10 PySem PySem.Spec L2 DL
local macro_rules | `(tactic| walk_at "rd") => `(tactic| try simp only [gS, mSeq, mIfS, mRet, mRetN, mAsg, gmName, mVar, mC, mOp, mUn, uIsi, mB, mTNot, mTAnd, mTOr, mAnd, mOr, uNot, mIf, mNil, mCons, mTup, mLst, mCB, mCall, mCallKw, mNext, mNever, mDrop, mFor, miSeq, loopD, gmNil, gmCons, gmTup, gmSeq, seqOf_lst, seqOf_tup, seqOf_non, seqOf_int, seqOf_bl, seqOf_str, seqOf_strm, cLen, cTuple, cInt, cAbs, oAdd, oSub, oMul, oFdiv, oMod, oPow, oI, oI0, uI, uNeg, oLt, oLe, oGt, oGe, oIsN, oNotN, isNon_lst, isNon_tup, isNon_non, isNon_int, isNon_bl, isNon_str, isNon_strm, oEq, oNe, oIx, En.put, start0, tyD_lst, tyD_tup, tyD_non, tyD_int, tyD_bl, tyD_str, tyD_strm, isiT, deq_int, List.any_cons, List.any_nil, List.map_cons, List.map_nil, List.length_cons, List.length_nil, List.cons_append, List.nil_append, List.getElem?_cons_zero, List.getElem?_cons_succ, List.set_cons_zero, List.set_cons_succ, Bool.or_false, Bool.false_or, Bool.not_true, Bool.not_false, if_true, if_false, Bool.false_eq_true, List.reduceReplicate, Nat.reduceSub, Nat.reduceAdd, decide_eq_true_eq, Bool.not_eq_true', decide_eq_false_iff_not, fineD, true_and, and_true, and_self, sizeLine_eq, Nat.reduceLeDiff, not_true_eq_false, not_false_eq_true, reduceIte, Bool.true_eq_false, Nat.reduceEqDiff, ne_eq])

section
variable {P : Program} {w : World} {K : PySem.W.Frag} {mg : Str → Option Value} {base : Heap} {f : Addr} {fd : FuncData}
/-- how many a strip has -/
def size : Option Q4 → Dt
  | none => .int 0
  | some q => if q.m = 0 then .int 1 else match q.l, q.h with
    | some a, some b => .int ((b - a) / q.m + 1)
    | _, _ => .non
def g_size : List Dt → Option Dt
  | [d] => (okS d).map size
  | _ => none
theorem divW {i m : Int} (h : 0 < m) (hm : m ≤ BS) : CDivW i m := wide_div h (b := 800) (by unfold BS at hm; omega) (by decide) (by decide)
abbrev s_how_many : Stmt := top 16
theorem sc_how_many : FnScope ["strip", "low", "high", "modulus", "_"] ["strip"] (defScope s_how_many) := ⟨rfl, rfl, rfl, by decide +kernel, rfl, by decide +kernel, by decide +kernel⟩
theorem c_how_many (T : Txt mg)  (F : Fun K "how_many" "how_many" s_how_many f fd) (hm : mg "how_many" = some (.ref f)) (hb : Binds K fd ["strip"] []) : Cal P w K mg base 1 "how_many" ["strip"] (gS 1 g_size) f fd := by
  refine fnD F hm hb sc_how_many gS_mono (fun ds n Q h => h.1) (fun cdv A outer s H E hr => ⟨_, (dss_cons (ds_if (dt_cmp op_isN simIsN (dv 0) de_non (nomark _)) (dss_one (ds_ret de_int)) dss_nil)
      (dss_cons (ds_asg (dv 0) (kgseq (K := K) rfl 4 rfl (dgs_cons (dg_name 1 sc_how_many.nd) (dgs_cons (dg_name 2 sc_how_many.nd) (dgs_cons (dg_name 3 sc_how_many.nd) (dgs_cons (dg_name 4 sc_how_many.nd) dgs_nil))))))
      (dss_cons (ds_if (kteq (K := K) rfl hr.units (dv 3) de_int) (dss_one (ds_ret de_int)) dss_nil)
      (dss_one (ds_ret (de_if (DW.dt (dw_or (dt_cmp op_isN simIsN (dv 1) de_non (nomark _)) (dw_or1 (dt_cmp op_isN simIsN (dv 2) de_non (nomark _))))) de_non (de_add (de_fdiv (de_sub (dv 2) (dv 1)) (dv 3)) de_int)))))))⟩) (fun ds n Q h => ?_)
  obtain ⟨hl, h⟩ := h
  match ds, hl with
  | [d], _ =>
    simp only [g_size] at h
    cases e : okS d with
    | none => rw [e] at h; exact h.elim
    | some s =>
      rw [e] at h
      have h : Q (size s) n := h
      obtain ⟨ed, v, bd⟩ := okS_inv e
      rcases dS_inv ed with ⟨rfl, rfl⟩ | ⟨q, rfl, ed2⟩
      · walk_at "rd"; exact h
      · clear e ed
        obtain ⟨hm, _⟩ := v
        obtain ⟨_, _, ⟨_, bm⟩, _⟩ := bd
        obtain ⟨a, b, m, r⟩ := q
        simp only at hm bm
        by_cases h0 : m = 0
        · subst h0
          rcases ed2 with rfl | rfl <;> cases a <;> cases b <;> simp only [q4, oi] <;> walk_at "rd" <;> exact h
        · have hm1 : 0 < m := by omega
          have cd : ∀ i, CDivW i m := fun i => divW hm1 bm
          simp only [size, h0, if_false] at h
          rcases ed2 with rfl | rfl <;> cases a <;> cases b <;> simp only [q4, oi] <;> walk_at "rd" <;> simp only [h0, if_false, cd, true_and] <;> exact h
def g_within : List Dt → Option Dt
  | [d, e] => match okS d, okS e with
    | some s, some o => some (.bl (within s o))
    | _, _ => none
  | _ => none
def isLst : Dt → Bool
  | .lst _ => true
  | _ => false
theorem isLst_non : isLst .non = false := rfl
/-- of tuples alone -/
def g_withinT : List Dt → Option Dt
  | [d, e] => match okS d, okS e with
    | some s, some o => if isLst d || isLst e then none else some (.bl (within s o))
    | _, _ => none
  | _ => none
end
end K11

set_option Elab.async false
set_option linter.all false
set_option maxRecDepth 100000
set_option maxHeartbeats 2000000
set_option autoImplicit false
namespace K11
open K10 PySem PySem.Spec L2 DL
local macro_rules | `(tactic| walk_at "rd") => `(tactic| try simp only [gS, mSeq, mIfS, mRet, mRetN, mAsg, gmName, mVar, mC, mOp, mUn, uIsi, mB, mTNot, mTAnd, mTOr, mAnd, mOr, uNot, mIf, mNil, mCons, mTup, mLst, mCB, mCall, mCallKw, mNext, mNever, mDrop, mFor, miSeq, miZip, miRng1, miRng2, mComp, mData, mApp, mExt, mOwn, mFLst, mFCat, mFCopy, mOwnIx, mOwnLen, mOwnIn, mTYes, drawS, cAll, cAny, cList, deq_bl, owns, ownOf, loopD, gmNil, gmCons, gmTup, gmSeq, seqOf_lst, seqOf_tup, seqOf_non, seqOf_int, seqOf_bl, seqOf_str, seqOf_strm, cLen, cTuple, cInt, cAbs, oAdd, oSub, oMul, oFdiv, oMod, oPow, oI, oI0, uI, uNeg, oLt, oLe, oGt, oGe, oIsN, oNotN, isNon_lst, isNon_tup, isNon_non, isNon_int, isNon_bl, isNon_str, isNon_strm, oEq, oNe, oIx, En.put, start0, tyD_lst, tyD_tup, tyD_non, tyD_int, tyD_bl, tyD_str, tyD_strm, isiT, deq_int, List.any_cons, List.any_nil, List.map_cons, List.map_nil, List.length_cons, List.length_nil, List.cons_append, List.nil_append, List.getElem?_cons_zero, List.getElem?_cons_succ, List.set_cons_zero, List.set_cons_succ, Bool.or_false, Bool.false_or, Bool.not_true, Bool.not_false, if_true, if_false, Bool.false_eq_true, List.reduceReplicate, Nat.reduceSub, Nat.reduceAdd, decide_eq_true_eq, Bool.not_eq_true', decide_eq_false_iff_not, fineD, true_and, and_true, and_self, sizeLine_eq, Nat.reduceLeDiff, not_true_eq_false, not_false_eq_true, beq_self_eq_true, Bool.not_eq_false, Bool.not_eq_true, reduceIte, Bool.true_eq_false, Nat.reduceEqDiff, ne_eq])

section
variable {k : Nat} {P : Program} {w : World} {K : PySem.W.Frag} {mg : Str → Option Value} {base : Heap} {f : Addr} {fd : FuncData}
abbrev s_q_draw : Stmt := top 29
theorem sc_q_draw : FnScope ["_law_stream_here", "_law_many", "_law_cell", "_law_digit", "_law_mixed"] ["_law_stream_here", "_law_many"] (defScope s_q_draw) := ⟨rfl, rfl, rfl, by decide +kernel, rfl, by decide +kernel, by decide +kernel⟩
theorem c_q_draw {f : Addr} {fd : FuncData} (T : Txt mg) (F : Fun K "_law_draw" "_law_draw" s_q_draw f fd) (hm : mg "_law_draw" = some (.ref f)) (hb : Binds K fd ["_law_stream_here", "_law_many"] []) : Cal P w K mg base 1 "_law_draw" ["_law_stream_here", "_law_many"] drawS f fd := by
  refine ⟨F.ok sc_q_draw (fun vs H Q E h => ?_) (fun cdv A outer s H vs Q E hr h => ?_), hm, F.kp, hb, drawS_mono⟩
  · obtain ⟨W, n, ds, j, r, h⟩ := h
    rw [r.length]
    exact drawS_len _ _ _ h
  · obtain ⟨s, c, m, n, ns, a, e, rfl, hne, st, ⟨hm0, hm1, hn⟩, k⟩ := draw_in (K := K) h
    refine ⟨_, pss_cons (ps_asg (pe_op op_add (pe_ix ix_list (pv 0) pe_int (fun _ _ => rfl)) pe_int) (pg_sub (pv 0) pe_int set_list))
      (pss_cons (ps_while PassesOwn.never (PW.pt (pw_and (pt_cmpR op_eq (pe_ix ix_list (pv 0) pe_int (fun _ _ => rfl)) pe_int (nomark _)) (pw_and1 (pt_cmpR (op_neD hr.units) (pe_ix ix_list (pv 0) pe_int (fun _ _ => rfl)) (pe_lst pa_nil) (nomark _)))))
        (pss_cons (ps_set (i := 2) sc_q_draw.nd rfl (Or.inl rfl) (pe_callB call_abs (by rfl) T.abs (by decide +kernel) (pa_cons (pe_bm PySem.F.plainAttrs_list PySem.F.slot_list_pop PySem.F.type_list_pop mt_popAt (pe_ix ix_list (pv 0) pe_int (fun _ _ => rfl)) (pa_cons pe_int pa_nil)) pa_nil)))
        (pss_cons (ps_asg (pe_op op_mod (pe_callTy call_int1 (by rfl) T.int (by decide +kernel) (pa_cons (pe_op op_add (pe_op op_add (pe_op op_mul (pe_ix ix_list (pv 0) pe_int (fun _ _ => rfl)) pe_int) (pv 2)) pe_int) pa_nil)) pe_int) (pg_sub (pv 0) pe_int set_list))
        (pss_one (ps_asg (pe_ifExp (pt_cmpR op_ge (pv 2) (pe_op op_pow pe_int pe_int) (nomark _)) (pv 2) pe_int) (pg_sub (pv 0) pe_int set_list))))))
      (pss_cons (ps_if (pt_cmpR op_gt (pe_ix ix_list (pv 0) pe_int (fun _ _ => rfl)) pe_int (nomark _))
        (pss_cons (ps_set (i := 3) sc_q_draw.nd rfl (Or.inl rfl) (pe_op op_mod (pe_callTy call_int1 (by rfl) T.int (by decide +kernel) (pa_cons (pe_ix ix_list (pv 0) pe_int (fun _ _ => rfl)) pa_nil)) (pv 1)))
        (pss_cons (ps_asg (pe_op op_fdivW (pe_ix ix_list (pv 0) pe_int (fun _ _ => rfl)) (pv 1)) (pg_sub (pv 0) pe_int set_list))
        (pss_one (ps_ret (pv 3))))) pss_nil)
      (pss_cons (ps_set (i := 4) sc_q_draw.nd rfl (Or.inl rfl) (pe_op op_mod (pe_callTy call_int1 (by rfl) T.int (by decide +kernel) (pa_cons (pe_op op_pow (pe_op op_add (pe_op op_add (pe_ix ix_list (pv 0) pe_int (fun _ _ => rfl)) (pe_op op_mul pe_int (pe_ix ix_list (pv 0) pe_int (fun _ _ => rfl)))) pe_int) pe_int) pa_nil)) pe_int))
      (pss_one (ps_ret (pe_op op_mod (pe_op op_mod (pe_callTy call_int1 (by rfl) T.int (by decide +kernel) (pa_cons (pe_op op_pow (pe_op op_add (pe_op op_add (pe_op op_mul (pv 4) pe_int) (pe_op op_mul pe_int (pe_ix ix_list (pv 0) pe_int (fun _ _ => rfl)))) pe_int) pe_int) pa_nil)) pe_int) (pv 1))))))), ?_⟩
    exact draw_body (N := n) (H0 := H) hne st rfl rfl rfl hm0 hm1 hn fun r ns' a' e' H' r0 r1 s2 => k r ns' a' e' H' r0 r1 s2
def pickS : Spc := fun ds n Q => ds.length = 2 ∧ match ds with
  | [.strm, d] => (match seqOf d with
    | some xs => (0 < xs.length ∧ xs.length ≤ 1000 ∧ n < CAP) ∧ ∀ x ∈ xs, Q x (n + 1)
    | none => False)
  | _ => False
theorem pickS_mono : MonoS pickS := fun ds n k k' h ⟨a, q⟩ => ⟨a, by
  revert q
  split
  · split
    · exact fun ⟨c, q⟩ => ⟨c, fun x hx => h _ _ (q x hx)⟩
    · exact id
  · exact id⟩
theorem atI_toNat {α : Type} {xs : List α} {r : Int} (h0 : 0 ≤ r) (h1 : r < xs.length) : ∃ x, atI xs r = some x ∧ x ∈ xs := by
  have hlt : r.toNat < xs.length := by omega
  refine ⟨xs[r.toNat], ?_, List.getElem_mem hlt⟩
  unfold atI ixN
  rw [if_pos h0, if_pos h1]
  exact List.getElem?_eq_getElem hlt
abbrev s_q_pick : Stmt := top 30
theorem sc_q_pick : FnScope ["_law_stream_here", "_law_things"] ["_law_stream_here", "_law_things"] (defScope s_q_pick) := ⟨rfl, rfl, rfl, by decide +kernel, rfl, by decide +kernel, by decide +kernel⟩
theorem c_q_pick (T : Txt mg) {f_q_draw : Addr} {d_q_draw : FuncData} (c_q_draw : Cal P w K mg base 1 "_law_draw" ["_law_stream_here", "_law_many"] drawS f_q_draw d_q_draw) (F : Fun K "_law_pick" "_law_pick" s_q_pick f fd) (hm : mg "_law_pick" = some (.ref f)) (hb : Binds K fd ["_law_stream_here", "_law_things"] []) : Cal P w K mg base 2 "_law_pick" ["_law_stream_here", "_law_things"] pickS f fd := by
  refine fnD F hm hb sc_q_pick pickS_mono (fun ds n Q h => h.1) (fun cdv A outer s H E hr => ⟨_, (dss_one (ds_ret (kix (K := K) rfl (dv 1) (de_call c_q_draw (hr.mono (by omega)) (da_cons (dv 0) (da_cons (klen (K := K) rfl T.len (da_cons (dv 1) da_nil)) da_nil))))))⟩) (fun ds n Q h => ?_)
  obtain ⟨hl, h⟩ := h
  split at h
  · rename_i d
    split at h
    · rename_i xs e
      obtain ⟨⟨h0, h1, hn⟩, h⟩ := h
      walk_at "rd"
      simp only [e, drawS]
      refine ⟨⟨by omega, by omega, hn⟩, fun r r0 r1 => ?_⟩
      obtain ⟨x, e1, e2⟩ := atI_toNat r0 r1
      simp only [e1]
      exact h x e2
    · exact h.elim
  · exact h.elim
/-- equal data, not too deep: True -/
def sameS : Nat → Spc
  | 0 => noS
  | k + 1 => fun ds n Q => ds.length = 2 ∧ (∃ d, ds = [d, d] ∧ fineD k d = true) ∧ Q (.bl true) n
theorem sameS_mono : ∀ k, MonoS (sameS k)
  | 0 => fun _ _ _ _ _ h => h
  | k + 1 => fun ds n k k' h ⟨a, b, q⟩ => ⟨a, b, h _ _ q⟩
theorem pairs_self : ∀ {xs : List Dt} {x : Dt}, x ∈ pairs xs xs → ∃ d ∈ xs, x = .tup [d, d]
  | [], _, h => by simp [pairs] at h
  | y :: ys, x, h => by
    simp only [pairs, List.mem_cons] at h
    rcases h with rfl | h
    · exact ⟨y, by simp, rfl⟩
    · obtain ⟨d, h1, h2⟩ := pairs_self h
      exact ⟨d, by simp [h1], h2⟩
theorem fineL_mem : ∀ {ds : List Dt} {n : Nat}, fineL n ds = true → ∀ d ∈ ds, fineD n d = true
  | [], n, _, d, h => by simp at h
  | x :: xs, n, h, d, hd => by
    have h' : fineD n x = true ∧ fineL n xs = true := by simpa [fineL] using h
    rcases List.mem_cons.mp hd with rfl | hd
    · exact h'.1
    · exact fineL_mem h'.2 d hd
theorem blsOf_true {α : Type} : ∀ xs : List α, blsOf (xs.map fun _ => Dt.bl true) = some (xs.map fun _ => true)
  | [] => rfl
  | x :: xs => by simp [blsOf, blOf, blsOf_true xs]
theorem all_true {α : Type} : ∀ xs : List α, (xs.map fun _ => true).all id = true
  | [] => rfl
  | x :: xs => by simp
abbrev s_q_same : Stmt := top 31
theorem sc_q_same : FnScope ["_law_found", "_law_due", "_law_mine", "_law_theirs", "_law_key"] ["_law_found", "_law_due"] (defScope s_q_same) := ⟨rfl, rfl, rfl, by decide +kernel, rfl, by decide +kernel, by decide +kernel⟩
theorem c_q_same (T : Txt mg) {f_q_same : Addr} {d_q_same : FuncData} (c_q_same : Cal P w K mg base k "_law_same" ["_law_found", "_law_due"] (sameS k) f_q_same d_q_same) (F : Fun K "_law_same" "_law_same" s_q_same f fd) (hm : mg "_law_same" = some (.ref f)) (hb : Binds K fd ["_law_found", "_law_due"] []) : Cal P w K mg base (k+1) "_law_same" ["_law_found", "_law_due"] (sameS (k + 1)) f fd := by
  refine fnD F hm hb sc_q_same (sameS_mono _) (fun ds n Q h => h.1) (fun cdv A outer s H E hr => ⟨_, (dss_cons (ds_if (dt_val (kisiT (K := K) rfl [.lst, .tup] (by decide) T.isinstance (dv 1) (pa_cons (pe_bltn (v := .ty (Ty.name .lst)) rfl T.list (by decide +kernel) rfl) (pa_cons (pe_bltn (v := .ty (Ty.name .tup)) rfl T.tuple (by decide +kernel) rfl) pa_nil)) (fun _ _ _ h => h) (by decide))) (dss_cons (ds_if (DW.dt (dw_or (ktne (K := K) rfl hr.units (kisi (K := K) rfl .lst (by decide) T.isinstance T.list (dv 0)) (kisi (K := K) rfl .lst (by decide) T.isinstance T.list (dv 1))) (dw_or1 (ktne (K := K) rfl hr.units (kisi (K := K) rfl .tup (by decide) T.isinstance T.tuple (dv 0)) (kisi (K := K) rfl .tup (by decide) T.isinstance T.tuple (dv 1)))))) (dss_one (ds_ret de_bl)) dss_nil)
      (dss_one (ds_ret (de_and (keq (K := K) rfl hr.units (klen (K := K) rfl T.len (da_cons (dv 0) da_nil)) (klen (K := K) rfl T.len (da_cons (dv 1) da_nil))) (de_one (kall (K := K) rfl rfl T.all (da_cons (DF.de (df_comp rfl sc_q_same.nd (kizip (K := K) rfl T.zip (da_cons (dv 0) (da_cons (dv 1) da_nil))) (blkOk_by (own := [("_law_mine", 2), ("_law_theirs", 3)]) (N := ["_law_found", "_law_due", "_law_mine", "_law_theirs", "_law_key"]) (sc := defScope s_q_same) (by decide +kernel)) (fun _ _ _ _ _ => (kgtup (K := K) rfl 2 rfl (dgs_cons (dg_name 2 sc_q_same.nd) (dgs_cons (dg_name 3 sc_q_same.nd) dgs_nil)))) (fun _ _ _ _ _ => dts_nil) (fun _ _ _ _ _ => (de_call c_q_same (hr.mono (by omega)) (da_cons (dv 2) (da_cons (dv 3) da_nil)))))) da_nil))))))) dss_nil)
      (dss_cons (ds_if (dt_val (kisi (K := K) rfl .dct (by decide) T.isinstance T.dict (dv 1))) (dss_cons (ds_if (DW.dt (dw_or (dt_not (dt_val (kisi (K := K) rfl .dct (by decide) T.isinstance T.dict (dv 0)))) (dw_or1 (ktne (K := K) rfl hr.units (klen (K := K) rfl T.len (da_cons (dv 0) da_nil)) (klen (K := K) rfl T.len (da_cons (dv 1) da_nil)))))) (dss_one (ds_ret de_bl)) dss_nil)
      (dss_one (ds_ret (kall (K := K) rfl rfl T.all (da_cons (DF.de (df_comp rfl sc_q_same.nd (kiseq (K := K) rfl (dv 1)) (blkOk_by (own := [("_law_key", 4)]) (N := ["_law_found", "_law_due", "_law_mine", "_law_theirs", "_law_key"]) (sc := defScope s_q_same) (by decide +kernel)) (fun _ _ _ _ _ => (dg_name 4 sc_q_same.nd)) (fun _ _ _ _ _ => dts_nil) (fun _ _ _ _ _ => (de_and (kin (K := K) rfl (dv 4) (dv 0)) (de_one (de_call c_q_same (hr.mono (by omega)) (da_cons (kix (K := K) rfl (dv 0) (dv 4)) (da_cons (kix (K := K) rfl (dv 1) (dv 4)) da_nil)))))))) da_nil))))) dss_nil)
      (dss_cons (ds_if (DW.dt (dw_or (dt_val (kisi (K := K) rfl .bool (by decide) T.isinstance T.bool (dv 1))) (dw_or1 (dt_val (kisi (K := K) rfl .bool (by decide) T.isinstance T.bool (dv 0)))))) (dss_one (ds_ret (de_and (kisi (K := K) rfl .bool (by decide) T.isinstance T.bool (dv 1)) (de_and (kisi (K := K) rfl .bool (by decide) T.isinstance T.bool (dv 0)) (de_one (keq (K := K) rfl hr.units (dv 0) (dv 1))))))) dss_nil)
      (dss_one (ds_ret (de_and (de_not (kisiT (K := K) rfl [.lst, .tup, .dct] (by decide) T.isinstance (dv 0) (pa_cons (pe_bltn (v := .ty (Ty.name .lst)) rfl T.list (by decide +kernel) rfl) (pa_cons (pe_bltn (v := .ty (Ty.name .tup)) rfl T.tuple (by decide +kernel) rfl) (pa_cons (pe_bltn (v := .ty (Ty.name .dct)) rfl T.dict (by decide +kernel) rfl) pa_nil))) (fun _ _ _ h => h) (by decide))) (de_one (keq (K := K) rfl hr.units (dv 0) (dv 1)))))))))⟩) (fun ds n Q h => ?_)
  obtain ⟨hl, h⟩ := h
  obtain ⟨⟨d, rfl, fd⟩, h⟩ := h
  have seq : ∀ (xs : List Dt) (ρ : En) (j : Nat), k = j + 1 → fineL j xs = true → xs.length ≤ 1000000 → wipeE ρ [2, 3] = ρ → ρ.n = n → ρ.sl.length = 5 →
      compD (gmTup 2 (gmCons (gmName 2) (gmCons (gmName 3) gmNil))) mTYes (mCall (sameS k) (mCons (mVar 2) (mCons (mVar 3) mNil))) [2, 3] (pairs xs xs) []
        (fun xs ρ1 => match blsOf xs with
          | some bs => Q (Dt.bl (bs.all id)) ρ1.n
          | none => False) ρ := by
    intro xs ρ j hk fl hz hw hn h5
    subst hk
    obtain ⟨m, sl⟩ := ρ
    have hn : m = n := hn
    subst hn
    obtain ⟨x0, x1, x2, x3, x4, rfl⟩ : ∃ x0 x1 x2 x3 x4, sl = [x0, x1, x2, x3, x4] := by
      match sl, h5 with
      | [a, b, c, d, e], _ => exact ⟨a, b, c, d, e, rfl⟩
    refine compD_pure _ (fun _ => true) (fun _ => .bl true) ?_ [] _ hw ?_ ?_
    · intro x hx A B hA hB
      obtain ⟨d, hd, rfl⟩ := pairs_self hx
      have fd := fineL_mem fl d hd
      walk_at "rd"
      refine ⟨rfl, ⟨d, rfl, fd⟩, hA rfl _ ?_⟩
      exact hw
    · rw [pairs_length, sizeLine_eq]; simp; omega
    · have e1 : ((pairs xs xs).filter fun _ => true) = pairs xs xs := by simp
      rw [e1, List.nil_append, blsOf_true]
      show Q (.bl (((pairs xs xs).map fun _ => true).all id)) _
      rw [all_true]
      exact h
  cases d with
  | tup xs =>
    cases k with
    | zero => simp [fineD] at fd
    | succ k =>
      simp only [fineD, Bool.and_eq_true, decide_eq_true_eq] at fd
      walk_at "rd"
      exact seq xs _ k rfl fd.2 fd.1 rfl rfl rfl
  | lst xs =>
    cases k with
    | zero => simp [fineD] at fd
    | succ k =>
      simp only [fineD, Bool.and_eq_true, decide_eq_true_eq] at fd
      walk_at "rd"
      exact seq xs _ k rfl fd.2 fd.1 rfl rfl rfl
  | strm => cases k <;> simp [fineD] at fd
  | non => walk_at "rd"; exact h
  | bl b => walk_at "rd"; exact h
  | int b => walk_at "rd"; simpa using h
  | str b =>
    walk_at "rd"
    have f1 : fineD 0 (.str b) = true := by cases k <;> simpa [fineD] using fd
    rw [deq_refl _ 0 f1]
    exact ⟨by simpa [fineD] using f1, h⟩
theorem keep_all {xs : List Dt} : (xs.filter fun _ => true).map id = xs := by simp
/-- a list or a tuple of the same: scalars as they are; a flat row as a list or a tuple -/
def looseS : Nat → Spc
  | 0 => noS
  | 1 => fun ds n Q => ds.length = 2 ∧ ∃ d, ds = [.strm, d] ∧ isScal d = true ∧ Q d n
  | _ + 2 => fun ds n Q => ds.length = 2 ∧ ∃ d, ds = [.strm, d] ∧ ((isScal d = true ∧ Q d n) ∨ ∃ xs, seqOf d = some xs ∧ xs.all isScal = true ∧ xs.length ≤ 1000 ∧ n < CAP ∧ Q (.lst xs) (n + 1) ∧ Q (.tup xs) (n + 1))
theorem looseS_mono : ∀ k, MonoS (looseS k)
  | 0 => fun _ _ _ _ _ h => h
  | 1 => fun ds n k k' h ⟨a, d, b, c, q⟩ => ⟨a, d, b, c, h _ _ q⟩
  | _ + 2 => fun ds n k k' h ⟨a, d, b, c⟩ => ⟨a, d, b, c.elim (fun z => .inl ⟨z.1, h _ _ z.2⟩) fun ⟨xs, z1, z2, z3, z4, z5, z6⟩ => .inr ⟨xs, z1, z2, z3, z4, h _ _ z5, h _ _ z6⟩⟩
abbrev s_q_loose : Stmt := top 32
theorem sc_q_loose : FnScope ["_law_stream_here", "_law_thing", "_law_some", "_law_one"] ["_law_stream_here", "_law_thing"] (defScope s_q_loose) := ⟨rfl, rfl, rfl, by decide +kernel, rfl, by decide +kernel, by decide +kernel⟩
theorem c_q_loose1 (T : Txt mg) {f_q_draw : Addr} {d_q_draw : FuncData} (c_q_draw : Cal P w K mg base 1 "_law_draw" ["_law_stream_here", "_law_many"] drawS f_q_draw d_q_draw) {f_q_loose : Addr} {d_q_loose : FuncData} (c_q_loose : Cal P w K mg base 1 "_law_loose" ["_law_stream_here", "_law_thing"] noS f_q_loose d_q_loose) (F : Fun K "_law_loose" "_law_loose" s_q_loose f fd) (hm : mg "_law_loose" = some (.ref f)) (hb : Binds K fd ["_law_stream_here", "_law_thing"] []) : Cal P w K mg base 2 "_law_loose" ["_law_stream_here", "_law_thing"] (looseS 1) f fd := by
  refine fnD F hm hb sc_q_loose (looseS_mono _) (fun ds n Q h => h.1) (fun cdv A outer s H E hr => ⟨_, (dss_cons (ds_if (dt_val (kisiT (K := K) rfl [.lst, .tup] (by decide) T.isinstance (dv 1) (pa_cons (pe_bltn (v := .ty (Ty.name .lst)) rfl T.list (by decide +kernel) rfl) (pa_cons (pe_bltn (v := .ty (Ty.name .tup)) rfl T.tuple (by decide +kernel) rfl) pa_nil)) (fun _ _ _ h => h) (by decide))) (dss_cons (ds_setComp (i := 2) rfl sc_q_loose.nd (kiseq (K := K) rfl (dv 1)) (blkOk_by (own := [("_law_one", 3)]) (N := ["_law_stream_here", "_law_thing", "_law_some", "_law_one"]) (sc := defScope s_q_loose) (by decide +kernel)) (fun _ _ _ _ _ => (dg_name 3 sc_q_loose.nd)) (fun _ _ _ _ _ => dts_nil) (fun _ _ _ _ _ => (de_call c_q_loose (hr.mono (by omega)) (da_cons (dv 0) (da_cons (dv 3) da_nil)))) (sw_true rfl rfl rfl (by decide +kernel)))
      (dss_one (ds_ret (de_if (kteq (K := K) rfl hr.units (de_call c_q_draw (hr.mono (by omega)) (da_cons (dv 0) (da_cons de_int da_nil))) de_int) (dv 2) (ktuple (K := K) rfl T.tuple (da_cons (dv 2) da_nil)))))) dss_nil)
      (dss_one (ds_ret (dv 1))))⟩) (fun ds n Q h => ?_)
  obtain ⟨hl, h⟩ := h
  obtain ⟨d, rfl, hs, h⟩ := h
  cases d with
  | non => walk_at "rd"; exact h
  | bl b => walk_at "rd"; exact h
  | int b => walk_at "rd"; exact h
  | str b => walk_at "rd"; exact h
  | tup b => simp [isScal] at hs
  | lst b => simp [isScal] at hs
  | strm => simp [isScal] at hs
theorem c_q_loose2 (T : Txt mg) {f_q_draw : Addr} {d_q_draw : FuncData} (c_q_draw : Cal P w K mg base 1 "_law_draw" ["_law_stream_here", "_law_many"] drawS f_q_draw d_q_draw) {f_q_loose : Addr} {d_q_loose : FuncData} (c_q_loose : Cal P w K mg base 2 "_law_loose" ["_law_stream_here", "_law_thing"] (looseS 1) f_q_loose d_q_loose) (F : Fun K "_law_loose" "_law_loose" s_q_loose f fd) (hm : mg "_law_loose" = some (.ref f)) (hb : Binds K fd ["_law_stream_here", "_law_thing"] []) : Cal P w K mg base 3 "_law_loose" ["_law_stream_here", "_law_thing"] (looseS 2) f fd := by
  refine fnD F hm hb sc_q_loose (looseS_mono _) (fun ds n Q h => h.1) (fun cdv A outer s H E hr => ⟨_, (dss_cons (ds_if (dt_val (kisiT (K := K) rfl [.lst, .tup] (by decide) T.isinstance (dv 1) (pa_cons (pe_bltn (v := .ty (Ty.name .lst)) rfl T.list (by decide +kernel) rfl) (pa_cons (pe_bltn (v := .ty (Ty.name .tup)) rfl T.tuple (by decide +kernel) rfl) pa_nil)) (fun _ _ _ h => h) (by decide))) (dss_cons (ds_setComp (i := 2) rfl sc_q_loose.nd (kiseq (K := K) rfl (dv 1)) (blkOk_by (own := [("_law_one", 3)]) (N := ["_law_stream_here", "_law_thing", "_law_some", "_law_one"]) (sc := defScope s_q_loose) (by decide +kernel)) (fun _ _ _ _ _ => (dg_name 3 sc_q_loose.nd)) (fun _ _ _ _ _ => dts_nil) (fun _ _ _ _ _ => (de_call c_q_loose (hr.mono (by omega)) (da_cons (dv 0) (da_cons (dv 3) da_nil)))) (sw_true rfl rfl rfl (by decide +kernel)))
      (dss_one (ds_ret (de_if (kteq (K := K) rfl hr.units (de_call c_q_draw (hr.mono (by omega)) (da_cons (dv 0) (da_cons de_int da_nil))) de_int) (dv 2) (ktuple (K := K) rfl T.tuple (da_cons (dv 2) da_nil)))))) dss_nil)
      (dss_one (ds_ret (dv 1))))⟩) (fun ds n Q h => ?_)
  obtain ⟨hl, h⟩ := h
  obtain ⟨d, rfl, h⟩ := h
  rcases h with ⟨hs, h⟩ | ⟨xs, e, hs, hz, hn, h1, h2⟩
  · cases d with
    | non => walk_at "rd"; exact h
    | bl b => walk_at "rd"; exact h
    | int b => walk_at "rd"; exact h
    | str b => walk_at "rd"; exact h
    | tup b => simp [isScal] at hs
    | lst b => simp [isScal] at hs
    | strm => simp [isScal] at hs
  · cases d with
    | tup ys =>
      cases e
      walk_at "rd"
      refine compD_pure _ (fun _ => true) id ?_ [] _ rfl (by rw [sizeLine_eq]; simp; omega) ?_
      · intro x hx A B hA hB
        have sx := List.all_eq_true.mp hs x hx
        walk_at "rd"
        exact ⟨rfl, x, rfl, sx, hA rfl _ rfl⟩
      · rw [List.nil_append, keep_all]
        walk_at "rd"
        refine ⟨⟨by decide, by decide, hn⟩, fun r r0 r1 => ?_⟩
        walk_at "rd"
        split
        · exact h1
        · exact h2
    | lst ys =>
      cases e
      walk_at "rd"
      refine compD_pure _ (fun _ => true) id ?_ [] _ rfl (by rw [sizeLine_eq]; simp; omega) ?_
      · intro x hx A B hA hB
        have sx := List.all_eq_true.mp hs x hx
        walk_at "rd"
        exact ⟨rfl, x, rfl, sx, hA rfl _ rfl⟩
      · rw [List.nil_append, keep_all]
        walk_at "rd"
        refine ⟨⟨by decide, by decide, hn⟩, fun r r0 r1 => ?_⟩
        walk_at "rd"
        split
        · exact h1
        · exact h2
    | _ => cases e
/-- each int once -/
def once : List Int → List Int → List Int
  | acc, [] => acc
  | acc, n :: ns => once (if n ∈ acc then acc else acc ++ [n]) ns
theorem once_len : ∀ (ns acc : List Int), (once acc ns).length ≤ acc.length + ns.length
  | [], acc => by simp [once]
  | n :: ns, acc => by
    have := once_len ns (if n ∈ acc then acc else acc ++ [n])
    unfold once
    split at this <;> simp_all <;> omega
theorem once_mem : ∀ (ns acc : List Int) (x : Int), x ∈ once acc ns ↔ x ∈ acc ∨ x ∈ ns
  | [], acc, x => by simp [once]
  | n :: ns, acc, x => by
    unfold once
    rw [once_mem ns]
    split
    · rename_i h
      simp only [List.mem_cons]
      constructor
      · rintro (q | q)
        · exact .inl q
        · exact .inr (.inr q)
      · rintro (q | rfl | q)
        · exact .inl q
        · exact .inl h
        · exact .inr q
    · simp only [List.mem_append, List.mem_cons, List.not_mem_nil, or_false]
      constructor
      · rintro ((q | q) | q)
        · exact .inl q
        · exact .inr (.inl q)
        · exact .inr (.inr q)
      · rintro (q | q | q)
        · exact .inl (.inl q)
        · exact .inl (.inr q)
        · exact .inr q
theorem any_int (n : Int) : ∀ ns : List Int, (ns.map Dt.int).any (fun z => deq z (.int n)) = decide (n ∈ ns)
  | [] => rfl
  | m :: ns => by
    rw [List.map_cons, List.any_cons, any_int n ns, deq_int]
    rw [Bool.eq_iff_iff]
    simp only [Bool.or_eq_true, decide_eq_true_eq, List.mem_cons]
    exact ⟨fun h => h.imp Eq.symm id, fun h => h.imp Eq.symm id⟩
theorem ints_scal : ∀ ns : List Int, (ns.map Dt.int).all isScal = true
  | [] => rfl
  | _ :: ns => by rw [List.map_cons, List.all_cons, ints_scal ns]; rfl
def onceS : Spc := fun ds n Q => ds.length = 1 ∧ ∃ ns : List Int, ds = [.lst (ns.map Dt.int)] ∧ ns.length ≤ 1000 ∧ Q (.lst ((once [] ns).map Dt.int)) n
theorem onceS_mono : MonoS onceS := fun ds n k k' h ⟨a, ns, b, c, q⟩ => ⟨a, ns, b, c, h _ _ q⟩
abbrev s_q_each_once : Stmt := top 33
theorem sc_q_each_once : FnScope ["_law_some", "_law_found", "_law_thing"] ["_law_some"] (defScope s_q_each_once) := ⟨rfl, rfl, rfl, by decide +kernel, rfl, by decide +kernel, by decide +kernel⟩
theorem c_q_each_once (T : Txt mg)  (F : Fun K "_law_each_once" "_law_each_once" s_q_each_once f fd) (hm : mg "_law_each_once" = some (.ref f)) (hb : Binds K fd ["_law_some"] []) : Cal P w K mg base 1 "_law_each_once" ["_law_some"] onceS f fd := by
  refine fnD F hm hb sc_q_each_once onceS_mono (fun ds n Q h => h.1) (fun cdv A outer s H E hr => ⟨_, (dss_cons (ds_own 1 sc_q_each_once.nd (df_lst da_nil))
      (dss_cons (ds_for PassesOwn.never rfl (kiseq (K := K) rfl (dv 0)) (dg_name 2 sc_q_each_once.nd) (dss_one (ds_ext 1 (de_if (ktownNotIn (K := K) rfl 1 (dv 2) (pv 1)) (de_lst (da_cons (dv 2) da_nil)) (de_lst da_nil)) (pv 1))))
      (dss_one (ds_ret (dv 1)))))⟩) (fun ds n Q h => ?_)
  obtain ⟨hl, h⟩ := h
  obtain ⟨ns, rfl, hz, h⟩ := h
  walk_at "rd"
  refine ⟨by decide, fun a _ => ?_⟩
  walk_at "rd"
  have go : ∀ (ms acc : List Int) (x2 : SV), acc.length + ms.length ≤ 2000 → Q (.lst ((once acc ms).map Dt.int)) n → loopD (gmName 2) (mExt 1 (mIf (mB (mOwnIn true (mVar 2) 1)) (mLst (mCons (mVar 2) mNil)) (mLst mNil)))
      (ms.map Dt.int) { nx := fun ρ1 => match ρ1.sl[1]? with
          | some (SV.d x) => Q x ρ1.n
          | some (SV.own a xs) => Q (Dt.lst xs) ρ1.n
          | _ => False, rt := Q } { n := n, sl := [SV.d (Dt.lst (List.map Dt.int ns)), SV.own a (acc.map Dt.int), x2] } := by
    intro ms
    induction ms with
    | nil => intro acc x2 _ q; exact q
    | cons m ms ih =>
      intro acc x2 hl q
      simp only [List.length_cons] at hl
      walk_at "rd"
      rw [any_int, ints_scal]
      simp only [isScal, List.length_map, sizeLine_eq]
      refine ⟨⟨a, _, rfl⟩, ⟨by trivial, by trivial⟩, ?_⟩
      unfold once at q
      by_cases hm : m ∈ acc
      · rw [if_pos hm] at q
        simp only [hm]
        walk_at "rd"
        try simp only [List.length_map, List.append_nil]
        exact ⟨by omega, ih acc _ (by omega) q⟩
      · rw [if_neg hm] at q
        simp only [hm]
        walk_at "rd"
        try simp only [List.length_map]
        refine ⟨by omega, ?_⟩
        have := ih (acc ++ [m]) (.d (.int m)) (by simp; omega) q
        rw [List.map_append] at this
        exact this
  exact go ns [] .un (by simp; omega) h
end
end K11

set_option Elab.async false
set_option linter.all false
set_option maxRecDepth 100000
set_option maxHeartbeats 2000000
set_option autoImplicit false
namespace K11
open K10 PySem PySem.Spec L2 DL
local macro_rules | `(tactic| walk_at "rd") => `(tactic| try simp only [wipeE, List.foldr_cons, List.foldr_nil, gS, mSeq, mIfS, mRet, mRetN, mAsg, gmName, mVar, mC, mOp, mUn, uIsi, mB, mTNot, mTAnd, mTOr, mAnd, mOr, uNot, mIf, mNil, mCons, mTup, mLst, mCB, mCall, mCallKw, mNext, mNever, mDrop, mFor, miSeq, miZip, miRng1, miRng2, mComp, mData, mApp, mExt, mOwn, mFLst, mFCat, mFCopy, mOwnIx, mOwnLen, mOwnIn, mTYes, drawS, cAll, cAny, cList, deq_bl, owns, ownOf, loopD, gmNil, gmCons, gmTup, gmSeq, seqOf_lst, seqOf_tup, seqOf_non, seqOf_int, seqOf_bl, seqOf_str, seqOf_strm, cLen, cTuple, cInt, cAbs, oAdd, oSub, oMul, oFdiv, oMod, oPow, oI, oI0, uI, uNeg, oLt, oLe, oGt, oGe, oIsN, oNotN, isNon_lst, isNon_tup, isNon_non, isNon_int, isNon_bl, isNon_str, isNon_strm, oEq, oNe, oIx, atI_0, atI_1, atI_2, atI_3, atI_4, DL.atI_last, En.put, start0, tyD_lst, tyD_tup, tyD_non, tyD_int, tyD_bl, tyD_str, tyD_strm, isiT, deq_int, List.any_cons, List.any_nil, List.map_cons, List.map_nil, List.length_cons, List.length_nil, List.cons_append, List.nil_append, List.getElem?_cons_zero, List.getElem?_cons_succ, List.set_cons_zero, List.set_cons_succ, Bool.or_false, Bool.false_or, Bool.not_true, Bool.not_false, if_true, if_false, Bool.false_eq_true, List.reduceReplicate, Nat.reduceSub, Nat.reduceAdd, decide_eq_true_eq, Bool.not_eq_true', decide_eq_false_iff_not, fineD, true_and, and_true, and_self, sizeLine_eq, Nat.reduceLeDiff, not_true_eq_false, not_false_eq_true, beq_self_eq_true, Bool.not_eq_false, Bool.not_eq_true, reduceIte, Bool.true_eq_false, Nat.reduceEqDiff, ne_eq])
section
variable {k : Nat} {P : Program} {w : World} {K : PySem.W.Frag} {mg : Str → Option Value} {base : Heap} {f : Addr} {fd : FuncData}
theorem mulOk {i j : Int} (h1 : -(10 ^ 240 : Int) ≤ i ∧ i ≤ 10 ^ 240) (h2 : -(10 ^ 240 : Int) ≤ j ∧ j ≤ 10 ^ 240) : CMulW i j := wide_mul (a := 900) (b := 900) (by omega) (by omega) (by decide) (by decide) (by decide)
theorem div_bd {x m B : Int} (hm : 0 < m) (hx : -B ≤ x ∧ x ≤ B) : -B ≤ x / m ∧ x / m ≤ B := by
  have h1 := Int.mul_ediv_add_emod x m
  have h2 := emod_bd (x := x) hm
  constructor
  · refine Int.le_ediv_of_mul_le hm ?_
    have : -B * m ≤ -B * 1 := by
      have hB : 0 ≤ B := by omega
      have := Int.mul_le_mul_of_nonneg_left (show (1 : Int) ≤ m by omega) hB
      have e1 : -B * m = -(B * m) := Int.neg_mul ..
      have e2 : -B * 1 = -(B * 1) := Int.neg_mul ..
      omega
    omega
  · refine Int.ediv_le_of_le_mul hm ?_
    have hB : 0 ≤ B := by omega
    have := Int.mul_le_mul_of_nonneg_left (show (1 : Int) ≤ m by omega) hB
    omega
theorem mod_as {x m : Int} : x - m * (x / m) = x % m := (Int.emod_def x m).symm
def g_lawBrought : List Dt → Option Dt
  | [a, b, .int m, .int r] => match dOI a, dOI b with
    | some l, some h => if 0 ≤ m ∧ m ≤ BS ∧ (-BS ≤ r ∧ r ≤ BS) ∧ bnd BS l ∧ bnd BS h then some (sD (brought l h m r)) else none
    | _, _ => none
  | _ => none
abbrev s_q_strip_brought : Stmt := top 35
theorem sc_q_strip_brought : FnScope ["_law_low", "_law_high", "_law_step", "_law_rest", "_law_inside"] ["_law_low", "_law_high", "_law_step", "_law_rest"] (defScope s_q_strip_brought) := ⟨rfl, rfl, rfl, by decide +kernel, rfl, by decide +kernel, by decide +kernel⟩
theorem c_q_strip_brought (T : Txt mg)  (F : Fun K "_law_strip_brought" "_law_strip_brought" s_q_strip_brought f fd) (hm : mg "_law_strip_brought" = some (.ref f)) (hb : Binds K fd ["_law_low", "_law_high", "_law_step", "_law_rest"] []) : Cal P w K mg base 1 "_law_strip_brought" ["_law_low", "_law_high", "_law_step", "_law_rest"] (gS 4 g_lawBrought) f fd := by
  refine fnD F hm hb sc_q_strip_brought gS_mono (fun ds n Q h => h.1) (fun cdv A outer s H E hr => ⟨_, (dss_cons (ds_if (kteq (K := K) rfl hr.units (dv 2) de_int) (dss_cons (ds_set 4 sc_q_strip_brought.nd (de_and (de_or (de_cmp op_isN simIsN (dv 0) de_non (nomark _)) (de_one (de_cmp op_ge simGe (dv 3) (dv 0) (nomark _)))) (de_one (de_or (de_cmp op_isN simIsN (dv 1) de_non (nomark _)) (de_one (de_cmp op_le simLe (dv 3) (dv 1) (nomark _)))))))
      (dss_one (ds_ret (de_if (dt_val (dv 4)) (de_tup (da_cons (dv 3) (da_cons (dv 3) (da_cons de_int (da_cons (dv 3) da_nil))))) de_non)))) dss_nil)
      (dss_cons (ds_set 3 sc_q_strip_brought.nd (de_sub (dv 3) (de_mul (dv 2) (de_fdiv (dv 3) (dv 2)))))
      (dss_cons (ds_if (dt_cmp op_notN simNotN (dv 0) de_non (nomark _)) (dss_one (ds_set 0 sc_q_strip_brought.nd (de_sub (de_add (dv 0) (de_sub (dv 3) (dv 0))) (de_mul (dv 2) (de_fdiv (de_sub (dv 3) (dv 0)) (dv 2)))))) dss_nil)
      (dss_cons (ds_if (dt_cmp op_notN simNotN (dv 1) de_non (nomark _)) (dss_one (ds_set 1 sc_q_strip_brought.nd (de_add (de_sub (dv 1) (de_sub (dv 1) (dv 3))) (de_mul (dv 2) (de_fdiv (de_sub (dv 1) (dv 3)) (dv 2)))))) dss_nil)
      (dss_cons (ds_if (DW.dt (dw_and (dt_cmp op_notN simNotN (dv 0) de_non (nomark _)) (dw_and (dt_cmp op_notN simNotN (dv 1) de_non (nomark _)) (dw_and1 (dt_cmp op_ge simGe (dv 0) (dv 1) (nomark _)))))) (dss_one (ds_ret (de_if (dt_cmp op_gt simGt (dv 0) (dv 1) (nomark _)) de_non (de_tup (da_cons (dv 0) (da_cons (dv 0) (da_cons de_int (da_cons (dv 0) da_nil)))))))) dss_nil)
      (dss_one (ds_ret (de_tup (da_cons (dv 0) (da_cons (dv 1) (da_cons (dv 2) (da_cons (dv 3) da_nil))))))))))))⟩) (fun ds n Q h => ?_)
  obtain ⟨hl, h⟩ := h
  unfold g_lawBrought at h
  split at h
  · rename_i x e
    split at e
    · rename_i a b m r
      split at e
      · rename_i l g el eg
        split at e
        · rename_i hc
          cases e
          obtain ⟨hm0, hm1, hr, hl1, hl2⟩ := hc
          rw [dOI_inv el, dOI_inv eg]
          clear el eg
          unfold BS at hm1 hr hl1 hl2
          by_cases h0 : m = 0
          · subst h0
            simp only [brought, if_true] at h
            cases l <;> cases g <;> simp only [oi] <;> walk_at "rd"
            all_goals (repeat' split)
            all_goals (simp_all [sD, q4, oi])
            all_goals (first | omega | (split at h <;> first | omega | simp_all [sD, q4, oi]))
          · have hm : 0 < m := by omega
            have cd : ∀ i, CDivW i m := fun i => divW hm (by unfold BS; omega)
            have br := emod_bd (x := r) hm
            have cm : ∀ i : Int, -(10 ^ 238 : Int) ≤ i ∧ i ≤ 10 ^ 238 → CMulW m (i / m) := fun i hi => mulOk (by omega) (by have := div_bd hm hi; omega)
            have e2 : ∀ a : Int, a + (r % m - a) - m * ((r % m - a) / m) = a + (r - a) % m := fun a => by
              have := mod_as (x := r % m - a) (m := m)
              rw [sub_mod_mod] at this
              omega
            have e3 : ∀ a : Int, a - (a - r % m) + m * ((a - r % m) / m) = a - (a - r) % m := fun a => by
              have := mod_as (x := a - r % m) (m := m)
              rw [sub_mod_mod'] at this
              omega
            simp only [brought, h0, if_false] at h
            cases l <;> cases g <;> simp only [oi, bnd, Option.map_none, Option.map_some] at h hl1 hl2 ⊢ <;> walk_at "rd" <;> simp only [h0, if_false, cd, true_and, mod_as, e2, e3]
            · exact ⟨cm _ (by omega), h⟩
            · exact ⟨cm _ (by omega), cm _ (by omega), h⟩
            · exact ⟨cm _ (by omega), cm _ (by omega), h⟩
            · refine ⟨cm _ (by omega), cm _ (by omega), cm _ (by omega), ?_⟩
              repeat' split
              all_goals (split at h <;> first | exact h | omega | (split at h <;> first | exact h | omega))
        · cases e
      · cases e
    · cases e
  · exact h.elim
/-- asked of numbers not too great -/
def g_lawIn : List Dt → Option Dt
  | [d, .int n] => match okS d with
    | some s => if -BS * 1000 ≤ n ∧ n ≤ BS * 1000 then some (.bl (has s n)) else none
    | none => none
  | _ => none
theorem mod_eq {x m : Int} : (x = m * (x / m)) ↔ x % m = 0 := by
  have := mod_as (x := x) (m := m)
  constructor <;> omega
abbrev s_q_strip_in : Stmt := top 36
theorem sc_q_strip_in : FnScope ["_law_strip", "_law_n"] ["_law_strip", "_law_n"] (defScope s_q_strip_in) := ⟨rfl, rfl, rfl, by decide +kernel, rfl, by decide +kernel, by decide +kernel⟩
theorem c_q_strip_in (T : Txt mg)  (F : Fun K "_law_strip_in" "_law_strip_in" s_q_strip_in f fd) (hm : mg "_law_strip_in" = some (.ref f)) (hb : Binds K fd ["_law_strip", "_law_n"] []) : Cal P w K mg base 1 "_law_strip_in" ["_law_strip", "_law_n"] (gS 2 g_lawIn) f fd := by
  refine fnD F hm hb sc_q_strip_in gS_mono (fun ds n Q h => h.1) (fun cdv A outer s H E hr => ⟨_, (dss_cons (ds_if (DW.dt (dw_or (dt_cmp op_isN simIsN (dv 0) de_non (nomark _)) (dw_or (DW.dt (dw_and (dt_cmp op_notN simNotN (kix (K := K) rfl (dv 0) de_int) de_non (nomark _)) (dw_and1 (dt_cmp op_lt simLt (dv 1) (kix (K := K) rfl (dv 0) de_int) (nomark _))))) (dw_or1 (DW.dt (dw_and (dt_cmp op_notN simNotN (kix (K := K) rfl (dv 0) de_int) de_non (nomark _)) (dw_and1 (dt_cmp op_gt simGt (dv 1) (kix (K := K) rfl (dv 0) de_int) (nomark _))))))))) (dss_one (ds_ret de_bl)) dss_nil)
      (dss_one (ds_ret (de_if (kteq (K := K) rfl hr.units (kix (K := K) rfl (dv 0) de_int) de_int) (keq (K := K) rfl hr.units (dv 1) (kix (K := K) rfl (dv 0) de_int)) (keq (K := K) rfl hr.units (de_sub (dv 1) (kix (K := K) rfl (dv 0) de_int)) (de_mul (kix (K := K) rfl (dv 0) de_int) (de_fdiv (de_sub (dv 1) (kix (K := K) rfl (dv 0) de_int)) (kix (K := K) rfl (dv 0) de_int))))))))⟩) (fun ds n Q h => ?_)
  obtain ⟨hl, h⟩ := h
  match ds, hl with
  | [d, .int i], hl =>
    clear hl
    simp only [g_lawIn] at h
    cases e : okS d with
    | none => rw [e] at h; exact h.elim
    | some s =>
      rw [e] at h
      simp only at h
      by_cases hi : -BS * 1000 ≤ i ∧ i ≤ BS * 1000
      · rw [if_pos hi] at h
        have h : Q (.bl (has s i)) n := h
        obtain ⟨ed, v, b⟩ := okS_inv e
        clear e
        rcases dS_inv ed with ⟨rfl, rfl⟩ | ⟨q, rfl, ed2⟩
        · walk_at "rd"; exact h
        · clear ed
          obtain ⟨hm0, -⟩ := v
          obtain ⟨-, -, ⟨-, hm1⟩, hr⟩ := b
          obtain ⟨x, y, m, r⟩ := q
          simp only at hm0 hm1 hr
          unfold BS at hm1 hr hi
          by_cases h0 : m = 0
          · subst h0
            rcases ed2 with rfl | rfl <;> cases x <;> cases y <;> simp only [q4, oi] <;> walk_at "rd"
            all_goals (repeat' split)
            all_goals (simp_all [has]; done)
          · have hm : 0 < m := by omega
            have cd : ∀ i, CDivW i m := fun i => divW hm (by unfold BS; omega)
            have cm : CMulW m ((i - r) / m) := mulOk (by omega) (by have := div_bd (x := i - r) (B := 10 ^ 239) hm (by omega); omega)
            rcases ed2 with rfl | rfl <;> cases x <;> cases y <;> simp only [q4, oi] <;> walk_at "rd" <;> simp only [h0, if_false, cd, cm, true_and, mod_eq]
            all_goals (repeat' split)
            all_goals (simp_all [has]; done)
      · rw [if_neg hi] at h; exact h.elim
  | [_, .non], _ => exact h.elim
  | [_, .bl _], _ => exact h.elim
  | [_, .str _], _ => exact h.elim
  | [_, .tup _], _ => exact h.elim
  | [_, .lst _], _ => exact h.elim
  | [_, .strm], _ => exact h.elim
/-- a strip's numbers near its ends -/
def nearS : Option Q4 → Nat → List Int
  | none, _ => []
  | some q, far => once [] ((near q far).filter (has (some q)))
def someS : Spc := fun ds n Q => ds.length = 2 ∧ ∃ (d : Dt) (s : Option Q4) (far : Nat), ds = [d, .int far] ∧ okS d = some s ∧ 1 ≤ far ∧ far ≤ 3 ∧ Q (.lst ((nearS s far).map Dt.int)) n
theorem someS_mono : MonoS someS := fun ds n k k' h ⟨a, d, s, far, b, c, e, g, q⟩ => ⟨a, d, s, far, b, c, e, g, h _ _ q⟩
theorem rng_map (lo : Int) (n : Nat) (f : Int → Dt) : (rng lo n).map (fun d => match d with
    | .int i => f i
    | d => d) = (List.range n).map fun j : Nat => f (lo + (j : Int)) := by
  simp [rng, Function.comp_def]
theorem mem_rng {lo : Int} {n : Nat} {x : Dt} (h : x ∈ rng lo n) : ∃ j : Nat, j < n ∧ x = .int (lo + (j : Int)) := by
  obtain ⟨j, h1, h2⟩ := List.mem_map.mp h
  exact ⟨j, List.mem_range.mp h1, h2.symm⟩
theorem near_bd {q : Q4} {far : Nat} (hf : far ≤ 3) (b : Bnd BS (some q)) : ∀ n ∈ near q far, -BS * 10 ≤ n ∧ n ≤ BS * 10 := by
  obtain ⟨l, h, m, r⟩ := q
  obtain ⟨b1, b2, b3, b4⟩ := b
  intro n hn
  unfold near at hn
  have bb : -BS ≤ begin ⟨l, h, m, r⟩ ∧ begin ⟨l, h, m, r⟩ ≤ BS := by
    unfold begin
    cases l with
    | some a => exact b1
    | none => cases h with
      | some b => exact b2
      | none => exact b4
  generalize begin ⟨l, h, m, r⟩ = g at hn bb
  simp only at b1 b2 b3 b4 hn
  unfold BS at *
  rcases List.mem_append.mp hn with hn | hn
  · obtain ⟨k, hk, rfl⟩ := List.mem_map.mp hn
    have hk := List.mem_range.mp hk
    have : ∃ j : Int, -3 ≤ j ∧ j ≤ 3 ∧ -(far : Int) + (k : Int) = j := ⟨_, by omega, by omega, rfl⟩
    obtain ⟨j, j1, j2, e⟩ := this
    rw [e]
    rcases (by omega : j = -3 ∨ j = -2 ∨ j = -1 ∨ j = 0 ∨ j = 1 ∨ j = 2 ∨ j = 3) with rfl | rfl | rfl | rfl | rfl | rfl | rfl <;> omega
  · cases h with
    | none => simp at hn
    | some b =>
      obtain ⟨k, hk, rfl⟩ := List.mem_map.mp hn
      have hk := List.mem_range.mp hk
      simp only [bnd] at b2
      have : ∃ j : Int, 0 ≤ j ∧ j ≤ 3 ∧ (k : Int) = j := ⟨_, by omega, by omega, rfl⟩
      obtain ⟨j, j1, j2, e⟩ := this
      rw [e]
      rcases (by omega : j = 0 ∨ j = 1 ∨ j = 2 ∨ j = 3) with rfl | rfl | rfl | rfl <;> omega
theorem near_len {q : Q4} {far : Nat} (hf : far ≤ 3) : (near q far).length ≤ 12 := by
  unfold near
  rw [List.length_append, List.length_map, List.length_range]
  split
  · rw [List.length_map, List.length_range]; omega
  · simp; omega
theorem mem_map_int {ns : List Int} {x : Dt} (h : x ∈ ns.map Dt.int) : ∃ n ∈ ns, x = .int n := by
  obtain ⟨n, h1, h2⟩ := List.mem_map.mp h
  exact ⟨n, h1, h2.symm⟩
/-- a comprehension over a range -/
theorem compR {g : MG} {tt : MT} {el : ME} {vs : List Nat} {Q : List Dt → En → Prop} (ρ0 : En) (f : Int → Int) {lo : Int} {n : Nat} {ρ : En}
    (h : ∀ j : Nat, j < n → ∀ (A : Dt → En → Prop) (B : En → Prop), (∀ ρ3, wipeE ρ3 vs = ρ0 → A (.int (f (lo + (j : Int)))) ρ3) → g (.int (lo + (j : Int))) ρ0 (fun ρ1 => tt ρ1 fun b ρ2 => if b = true then el ρ2 A else B ρ2))
    (hw : wipeE ρ vs = ρ0) (hn : n ≤ 1000) (q : Q (((List.range n).map fun j : Nat => f (lo + (j : Int))).map Dt.int) ρ0) : compD g tt el vs (rng lo n) [] Q ρ := by
  refine compD_pure ρ0 (fun _ => true) (fun d => match d with
    | .int i => .int (f i)
    | d => d) ?_ [] _ hw (by rw [sizeLine_eq]; simp [rng]; omega) ?_
  · intro x hx A B ha hb
    obtain ⟨j, hj, rfl⟩ := mem_rng hx
    exact h j hj A B (ha rfl)
  · have e : ((rng lo n).filter fun _ => true) = rng lo n := by simp
    rw [List.nil_append, e]
    have := rng_map lo n (fun i => Dt.int (f i))
    have e2 : (((List.range n).map fun j : Nat => f (lo + (j : Int))).map Dt.int) = (List.range n).map fun j : Nat => Dt.int (f (lo + (j : Int))) := by simp [Function.comp_def]
    rw [e2, ← this] at q
    exact q
/-- a comprehension over ints -/
theorem compN {g : MG} {tt : MT} {el : ME} {vs : List Nat} {Q : List Dt → En → Prop} (ρ0 : En) (keep : Int → Bool) (f : Int → Dt) {ns : List Int} {ρ : En}
    (h : ∀ n ∈ ns, ∀ (A : Dt → En → Prop) (B : En → Prop), (keep n = true → ∀ ρ3, wipeE ρ3 vs = ρ0 → A (f n) ρ3) → (keep n = false → ∀ ρ3, wipeE ρ3 vs = ρ0 → B ρ3) → g (.int n) ρ0 (fun ρ1 => tt ρ1 fun b ρ2 => if b = true then el ρ2 A else B ρ2))
    (hw : wipeE ρ vs = ρ0) (hn : ns.length ≤ 1000) (q : Q ((ns.filter keep).map f) ρ0) : compD g tt el vs (ns.map Dt.int) [] Q ρ := by
  refine compD_pure ρ0 (fun d => match d with
    | .int i => keep i
    | _ => false) (fun d => match d with
    | .int i => f i
    | d => d) ?_ [] _ hw (by rw [sizeLine_eq]; simp; omega) ?_
  · intro x hx A B ha hb
    obtain ⟨n, hn, rfl⟩ := mem_map_int hx
    exact h n hn A B ha hb
  · rw [List.nil_append, List.filter_map, List.map_map]
    exact q
theorem dt_keep_all {ns : List Int} : ns.filter (fun _ => true) = ns := by simp
abbrev s_q_strip_some : Stmt := top 37
theorem sc_q_strip_some : FnScope ["_law_strip", "_law_far", "_law_low", "_law_high", "_law_step", "_law_rest", "_law_begin", "_law_found", "_law_k", "_law_n"] ["_law_strip", "_law_far"] (defScope s_q_strip_some) := ⟨rfl, rfl, rfl, by decide +kernel, rfl, by decide +kernel, by decide +kernel⟩
theorem c_q_strip_some (T : Txt mg) {f_q_each_once : Addr} {d_q_each_once : FuncData} (c_q_each_once : Cal P w K mg base 1 "_law_each_once" ["_law_some"] onceS f_q_each_once d_q_each_once) {f_q_strip_in : Addr} {d_q_strip_in : FuncData} (c_q_strip_in : Cal P w K mg base 1 "_law_strip_in" ["_law_strip", "_law_n"] (gS 2 g_lawIn) f_q_strip_in d_q_strip_in) (F : Fun K "_law_strip_some" "_law_strip_some" s_q_strip_some f fd) (hm : mg "_law_strip_some" = some (.ref f)) (hb : Binds K fd ["_law_strip", "_law_far"] []) : Cal P w K mg base 2 "_law_strip_some" ["_law_strip", "_law_far"] someS f fd := by
  refine fnD F hm hb sc_q_strip_some someS_mono (fun ds n Q h => h.1) (fun cdv A outer s H E hr => ⟨_, (dss_cons (ds_if (dt_cmp op_isN simIsN (dv 0) de_non (nomark _)) (dss_one (ds_ret (de_lst da_nil))) dss_nil)
      (dss_cons (ds_asg (dv 0) (kgseq (K := K) rfl 4 rfl (dgs_cons (dg_name 2 sc_q_strip_some.nd) (dgs_cons (dg_name 3 sc_q_strip_some.nd) (dgs_cons (dg_name 4 sc_q_strip_some.nd) (dgs_cons (dg_name 5 sc_q_strip_some.nd) dgs_nil))))))
      (dss_cons (ds_set 6 sc_q_strip_some.nd (de_if (dt_cmp op_notN simNotN (dv 2) de_non (nomark _)) (dv 2) (de_if (dt_cmp op_notN simNotN (dv 3) de_non (nomark _)) (dv 3) (dv 5))))
      (dss_cons (ds_ownComp (i := 7) rfl sc_q_strip_some.nd (di_rng2 T.range (da_cons (de_neg (dv 1)) (da_cons (de_add (dv 1) de_int) da_nil))) (blkOk_by (own := [("_law_k", 8)]) (N := ["_law_strip", "_law_far", "_law_low", "_law_high", "_law_step", "_law_rest", "_law_begin", "_law_found", "_law_k", "_law_n"]) (sc := defScope s_q_strip_some) (by decide +kernel)) (fun _ _ _ _ _ => (dg_name 8 sc_q_strip_some.nd)) (fun _ _ _ _ _ => dts_nil) (fun _ _ _ _ _ => (de_add (dv 6) (de_mul (dv 8) (dv 4)))) (sw_true rfl rfl rfl (by decide +kernel)))
      (dss_cons (ds_ext 7 (de_if (dt_cmp op_notN simNotN (dv 3) de_non (nomark _)) (DF.de (df_comp rfl sc_q_strip_some.nd (di_rng1 T.range (da_cons (de_add (dv 1) de_int) da_nil)) (blkOk_by (own := [("_law_k", 8)]) (N := ["_law_strip", "_law_far", "_law_low", "_law_high", "_law_step", "_law_rest", "_law_begin", "_law_found", "_law_k", "_law_n"]) (sc := defScope s_q_strip_some) (by decide +kernel)) (fun _ _ _ _ _ => (dg_name 8 sc_q_strip_some.nd)) (fun _ _ _ _ _ => dts_nil) (fun _ _ _ _ _ => (de_sub (dv 3) (de_mul (dv 8) (dv 4)))))) (de_lst da_nil)) (pv 7))
      (dss_one (ds_ret (de_call c_q_each_once (hr.mono (by omega)) (da_cons (DF.de (df_comp rfl sc_q_strip_some.nd (kiseq (K := K) rfl (dv 7)) (blkOk_by (own := [("_law_n", 9)]) (N := ["_law_strip", "_law_far", "_law_low", "_law_high", "_law_step", "_law_rest", "_law_begin", "_law_found", "_law_k", "_law_n"]) (sc := defScope s_q_strip_some) (by decide +kernel)) (fun _ _ _ _ _ => (dg_name 9 sc_q_strip_some.nd)) (fun _ _ _ _ _ => (dts_one (dt_val (de_call c_q_strip_in (hr.mono (by omega)) (da_cons (dv 0) (da_cons (dv 9) da_nil)))))) (fun _ _ _ _ _ => (dv 9)))) da_nil)))))))))⟩) (fun ds n Q h => ?_)
  obtain ⟨hl, h⟩ := h
  obtain ⟨d, s, far, rfl, e, f1, f2, h⟩ := h
  obtain ⟨ed, v, bd⟩ := okS_inv e
  rcases dS_inv ed with ⟨rfl, rfl⟩ | ⟨q, rfl, ed2⟩
  · walk_at "rd"; exact h
  · clear e ed
    have nb : ∀ n ∈ near q far, -BS * 1000 ≤ n ∧ n ≤ BS * 1000 := fun n hn => by have := near_bd f2 bd n hn; unfold BS at *; omega
    have nl := near_len (q := q) f2
    have okq : ∀ d, d = .tup (q4 q) ∨ d = .lst (q4 q) → okS d = some (some q) := fun d hd => by
      rcases hd with rfl | rfl
      · exact okS_of (by simp [dS, dQ_q4]) v bd
      · exact okS_of (by simp [dS, dQ_q4]) v bd
    have fin : ∀ (d : Dt) (R : Dt → En → Prop) (y : Dt) (z1 z2 z3 z4 z5 z6 z7 : SV), (d = .tup (q4 q) ∨ d = .lst (q4 q)) → (∀ ρ', ρ'.n = n → R (.lst ((nearS (some q) far).map Dt.int)) ρ') →
        compD (gmName 9) (mB (mCall (gS 2 g_lawIn) (mCons (mVar 0) (mCons (mVar 9) mNil)))) (mVar 9) [9] ((near q far).map Dt.int) [] (fun xs ρ1 => onceS [Dt.lst xs] ρ1.n fun d m => R d { n := m, sl := ρ1.sl }) { n := n, sl := [.d d, .d y, z1, z2, z3, z4, z5, z6, z7, .un] } := by
      intro d R y z1 z2 z3 z4 z5 z6 z7 hd hR
      refine compN _ (has (some q)) Dt.int ?_ rfl (by omega) ?_
      · intro i hi A B ha hb
        walk_at "rd"
        simp only [g_lawIn, okq d hd, if_pos (nb i hi)]
        cases e : has (some q) i with
        | true => walk_at "rd"; exact ha e _ rfl
        | false => walk_at "rd"; exact hb e _ rfl
      · refine ⟨rfl, _, rfl, ?_, hR _ rfl⟩
        have := List.length_filter_le (has (some q)) (near q far)
        omega
    have en : ((far : Int) + 1 - -(far : Int)).toNat = 2 * far + 1 := by omega
    have en2 : ((far : Int) + 1).toNat = far + 1 := by omega
    obtain ⟨ff, hff⟩ : ∃ ff : Int → Int, ff = fun k => begin q + k * q.m := ⟨_, rfl⟩
    obtain ⟨x, y, m, r⟩ := q
    obtain ⟨b1, b2, b3, b4⟩ := bd
    simp only at b1 b2 b3 b4
    unfold BS at *
    rcases ed2 with rfl | rfl <;> cases x <;> rcases y with _ | val <;> simp only [q4, oi] <;> simp only [bnd] at b1 b2 <;> walk_at "rd"
    all_goals (refine ⟨by omega, ?_⟩; rw [en])
    all_goals first
      | (refine compR _ ff (g := gmName 8) ?_ rfl (by omega) ?_ <;> subst hff
         · intro j hj A B ha
           walk_at "rd"
           exact ⟨mulOk (by omega) (by omega), ha _ rfl⟩
         · walk_at "rd"
           refine ⟨by omega, fun a _ => ⟨⟨_, _, rfl⟩, (by simp; omega), ?_⟩⟩
           rw [show ∀ l : List Int, l.map Dt.int ++ [] = (l ++ []).map Dt.int from fun l => by simp]
           exact fin _ (fun d ρ => Q d ρ.n) _ _ _ _ _ _ _ _ (by simp [q4, oi]) fun ρ' e => e ▸ h)
      | (refine compR _ ff (g := gmName 8) ?_ rfl (by omega) ?_ <;> subst hff
         · intro j hj A B ha
           walk_at "rd"
           exact ⟨mulOk (by omega) (by omega), ha _ rfl⟩
         · walk_at "rd"
           refine ⟨by omega, fun a _ => ⟨⟨_, _, rfl⟩, by omega, ?_⟩⟩
           rw [en2]
           refine compR _ (fun k => val - k * m) (g := gmName 8) ?_ rfl (by omega) ?_
           · intro j hj A B ha
             walk_at "rd"
             exact ⟨mulOk (by omega) (by omega), ha _ rfl⟩
           · walk_at "rd"
             refine ⟨(by simp; omega), ?_⟩
             simp only [Int.zero_add]
             rw [← List.map_append]
             exact fin _ (fun d ρ => Q d ρ.n) _ _ _ _ _ _ _ _ (by simp [q4, oi]) fun ρ' e => e ▸ h)
end
end K11

set_option Elab.async false
set_option linter.all false
set_option maxRecDepth 100000
set_option maxHeartbeats 2000000
set_option autoImplicit false
namespace K11
open K10 PySem PySem.Spec L2 DL
local macro_rules | `(tactic| walk_at "rd") => `(tactic| try simp only [wipeE, List.foldr_cons, List.foldr_nil, gS, mSeq, mIfS, mRet, mRetN, mAsg, gmName, mVar, mC, mOp, mUn, uIsi, mB, mTNot, mTAnd, mTOr, mAnd, mOr, uNot, mIf, mNil, mCons, mTup, mLst, mCB, mCall, mCallKw, mNext, mNever, mDrop, mFor, miSeq, miZip, miRng1, miRng2, mComp, mData, mApp, mExt, mOwn, mFLst, mFCat, mFCopy, mOwnIx, mOwnLen, mOwnIn, mTYes, drawS, cAll, cAny, cList, deq_bl, owns, ownOf, loopD, gmNil, gmCons, gmTup, gmSeq, seqOf_lst, seqOf_tup, seqOf_non, seqOf_int, seqOf_bl, seqOf_str, seqOf_strm, cLen, cTuple, cInt, cAbs, oAdd, oSub, oMul, oFdiv, oMod, oPow, oI, oI0, uI, uNeg, oLt, oLe, oGt, oGe, oIsN, oNotN, isNon_lst, isNon_tup, isNon_non, isNon_int, isNon_bl, isNon_str, isNon_strm, oEq, oNe, oIx, atI_0, atI_1, atI_2, atI_3, atI_4, DL.atI_last, En.put, start0, tyD_lst, tyD_tup, tyD_non, tyD_int, tyD_bl, tyD_str, tyD_strm, isiT, deq_int, List.any_cons, List.any_nil, List.map_cons, List.map_nil, List.length_cons, List.length_nil, List.cons_append, List.nil_append, List.getElem?_cons_zero, List.getElem?_cons_succ, List.set_cons_zero, List.set_cons_succ, Bool.or_false, Bool.false_or, Bool.not_true, Bool.not_false, if_true, if_false, Bool.false_eq_true, List.reduceReplicate, Nat.reduceSub, Nat.reduceAdd, decide_eq_true_eq, Bool.not_eq_true', decide_eq_false_iff_not, fineD, true_and, and_true, and_self, sizeLine_eq, Nat.reduceLeDiff, not_true_eq_false, not_false_eq_true, beq_self_eq_true, Bool.not_eq_false, Bool.not_eq_true, reduceIte, Bool.true_eq_false, Nat.reduceEqDiff, ne_eq])

section
variable {k : Nat} {P : Program} {w : World} {K : PySem.W.Frag} {mg : Str → Option Value} {base : Heap} {f : Addr} {fd : FuncData}
/-- an int, not too great -/
abbrev AI : Int := 100000000000000000000000000000000000000000
def anyS : Spc := fun ds n Q => ds.length = 1 ∧ ds = [.strm] ∧ n + 10 < CAP ∧ ∀ (i : Int) (n' : Nat), -AI ≤ i → i ≤ AI → n' ≤ n + 6 → Q (.int i) n'
theorem anyS_mono : MonoS anyS := fun ds n k k' h ⟨a, b, c, q⟩ => ⟨a, b, c, fun i n' x y z => h _ _ (q i n' x y z)⟩
abbrev s_q_any_integer : Stmt := top 39
theorem sc_q_any_integer : FnScope ["_law_stream_here", "_law_way", "_law_great"] ["_law_stream_here"] (defScope s_q_any_integer) := ⟨rfl, rfl, rfl, by decide +kernel, rfl, by decide +kernel, by decide +kernel⟩
theorem c_q_any_integer (T : Txt mg) {f_q_draw : Addr} {d_q_draw : FuncData} (c_q_draw : Cal P w K mg base 1 "_law_draw" ["_law_stream_here", "_law_many"] drawS f_q_draw d_q_draw) (F : Fun K "_law_any_integer" "_law_any_integer" s_q_any_integer f fd) (hm : mg "_law_any_integer" = some (.ref f)) (hb : Binds K fd ["_law_stream_here"] []) : Cal P w K mg base 2 "_law_any_integer" ["_law_stream_here"] anyS f fd := by
  refine fnD F hm hb sc_q_any_integer anyS_mono (fun ds n Q h => h.1) (fun cdv A outer s H E hr => ⟨_, (dss_cons (ds_set 1 sc_q_any_integer.nd (de_call c_q_draw (hr.mono (by omega)) (da_cons (dv 0) (da_cons de_int da_nil))))
      (dss_cons (ds_if (dt_cmp op_lt simLt (dv 1) de_int (nomark _)) (dss_one (ds_ret (de_sub (de_call c_q_draw (hr.mono (by omega)) (da_cons (dv 0) (da_cons de_int da_nil))) de_int))) dss_nil)
      (dss_cons (ds_if (dt_cmp op_lt simLt (dv 1) de_int (nomark _)) (dss_one (ds_ret (de_sub (de_call c_q_draw (hr.mono (by omega)) (da_cons (dv 0) (da_cons de_int da_nil))) de_int))) dss_nil)
      (dss_cons (ds_set 2 sc_q_any_integer.nd (de_add (de_mul (de_call c_q_draw (hr.mono (by omega)) (da_cons (dv 0) (da_cons (de_pow de_int de_int) da_nil))) (de_pow de_int de_int)) (de_call c_q_draw (hr.mono (by omega)) (da_cons (dv 0) (da_cons (de_pow de_int de_int) da_nil)))))
      (dss_one (ds_ret (de_if (kteq (K := K) rfl hr.units (de_call c_q_draw (hr.mono (by omega)) (da_cons (dv 0) (da_cons de_int da_nil))) de_int) (dv 2) (de_sub de_int (dv 2)))))))))⟩) (fun ds n Q h => ?_)
  obtain ⟨hl, h⟩ := h
  obtain ⟨rfl, hn, h⟩ := h
  unfold CAP at hn
  unfold AI at h
  walk_at "rd"
  have p9 : (10 : Int) ^ Int.toNat 9 = 1000000000 := by decide
  have p31 : (10 : Int) ^ Int.toNat 31 = 10000000000000000000000000000000 := by decide
  have c9 : CPow 10 9 := ⟨by decide, by decide, by decide⟩
  have c31 : CPow 10 31 := ⟨by decide, by decide, by decide⟩
  simp only [p9, p31, c9, c31, true_and]
  unfold CAP
  refine ⟨by omega, fun r r0 r1 => ?_⟩
  split
  · exact ⟨by omega, fun r r0 r1 => h _ _ (by omega) (by omega) (by omega)⟩
  · split
    · exact ⟨by omega, fun r r0 r1 => h _ _ (by omega) (by omega) (by omega)⟩
    · refine ⟨by omega, fun r r0 r1 => ⟨mulOk (by omega) (by omega), by omega, fun r' r0' r1' => ⟨by omega, fun r2 r20 r21 => ?_⟩⟩⟩
      split
      · exact h _ _ (by omega) (by omega) (by omega)
      · exact h _ _ (by omega) (by omega) (by omega)
end
end K11

set_option Elab.async false
set_option linter.all false
set_option maxRecDepth 100000
set_option maxHeartbeats 2000000
set_option autoImplicit false
namespace K11
open K10 PySem PySem.Spec L2 DL
local macro_rules | `(tactic| walk_at "rd") => `(tactic| try simp only [wipeE, List.foldr_cons, List.foldr_nil, gS, mSeq, mIfS, mRet, mRetN, mAsg, gmName, mVar, mC, mOp, mUn, uIsi, mB, mTNot, mTAnd, mTOr, mAnd, mOr, uNot, mIf, mNil, mCons, mTup, mLst, mCB, mCall, mCallKw, mNext, mNever, mDrop, mFor, miSeq, miZip, miRng1, miRng2, mComp, mData, mApp, mExt, mOwn, mFLst, mFCat, mFCopy, mOwnIx, mOwnLen, mOwnIn, mTYes, drawS, cAll, cAny, cList, deq_bl, owns, ownOf, loopD, gmNil, gmCons, gmTup, gmSeq, seqOf_lst, seqOf_tup, seqOf_non, seqOf_int, seqOf_bl, seqOf_str, seqOf_strm, cLen, cTuple, cInt, cAbs, oAdd, oSub, oMul, oFdiv, oMod, oPow, oI, oI0, uI, uNeg, oLt, oLe, oGt, oGe, oIsN, oNotN, isNon_lst, isNon_tup, isNon_non, isNon_int, isNon_bl, isNon_str, isNon_strm, oEq, oNe, oIx, atI_0, atI_1, atI_2, atI_3, atI_4, DL.atI_last, En.put, start0, tyD_lst, tyD_tup, tyD_non, tyD_int, tyD_bl, tyD_str, tyD_strm, isiT, deq_int, List.any_cons, List.any_nil, List.map_cons, List.map_nil, List.length_cons, List.length_nil, List.cons_append, List.nil_append, List.getElem?_cons_zero, List.getElem?_cons_succ, List.set_cons_zero, List.set_cons_succ, Bool.or_false, Bool.false_or, Bool.not_true, Bool.not_false, if_true, if_false, Bool.false_eq_true, List.reduceReplicate, Nat.reduceSub, Nat.reduceAdd, decide_eq_true_eq, Bool.not_eq_true', decide_eq_false_iff_not, fineD, true_and, and_true, and_self, sizeLine_eq, Nat.reduceLeDiff, not_true_eq_false, not_false_eq_true, beq_self_eq_true, Bool.not_eq_false, Bool.not_eq_true, reduceIte, Bool.true_eq_false, Nat.reduceEqDiff, ne_eq])

section
variable {k : Nat} {P : Program} {w : World} {K : PySem.W.Frag} {mg : Str → Option Value} {base : Heap} {f : Addr} {fd : FuncData}
/-- four fields, not too great -/
abbrev QI : Int := 1000000000000000000000000000000000000000000
def quadS : Spc := fun ds n Q => ds.length = 1 ∧ ds = [.strm] ∧ n + 50 < CAP ∧ ∀ (q : Q4) (n' : Nat), Bnd QI (some q) → 0 ≤ q.m → n' ≤ n + 40 → Q (.tup (q4 q)) n'
theorem quadS_mono : MonoS quadS := fun ds n k k' h ⟨a, b, c, q⟩ => ⟨a, b, c, fun i n' x y z => h _ _ (q i n' x y z)⟩
theorem cut {a b : MS} {D : DEnds} {ρ : En} (h : ∀ kk : En → Prop, (kk = fun ρ' => b D ρ') → a { D with nx := kk } ρ) : mSeq a b D ρ := h _ rfl
theorem oi_non (x : OI) : isNon (oi x) = x.isNone := by cases x <;> rfl
abbrev s_q_strip_quadruple : Stmt := top 40
theorem sc_q_strip_quadruple : FnScope ["_law_stream_here", "_law_low", "_law_high", "_law_step"] ["_law_stream_here"] (defScope s_q_strip_quadruple) := ⟨rfl, rfl, rfl, by decide +kernel, rfl, by decide +kernel, by decide +kernel⟩
theorem c_q_strip_quadruple (T : Txt mg) {f_q_any_integer : Addr} {d_q_any_integer : FuncData} (c_q_any_integer : Cal P w K mg base 2 "_law_any_integer" ["_law_stream_here"] anyS f_q_any_integer d_q_any_integer) {f_q_draw : Addr} {d_q_draw : FuncData} (c_q_draw : Cal P w K mg base 1 "_law_draw" ["_law_stream_here", "_law_many"] drawS f_q_draw d_q_draw) {f_q_pick : Addr} {d_q_pick : FuncData} (c_q_pick : Cal P w K mg base 2 "_law_pick" ["_law_stream_here", "_law_things"] pickS f_q_pick d_q_pick) (F : Fun K "_law_strip_quadruple" "_law_strip_quadruple" s_q_strip_quadruple f fd) (hm : mg "_law_strip_quadruple" = some (.ref f)) (hb : Binds K fd ["_law_stream_here"] []) : Cal P w K mg base 3 "_law_strip_quadruple" ["_law_stream_here"] quadS f fd := by
  refine fnD F hm hb sc_q_strip_quadruple quadS_mono (fun ds n Q h => h.1) (fun cdv A outer s H E hr => ⟨_, (dss_cons (ds_set 1 sc_q_strip_quadruple.nd (de_if (kteq (K := K) rfl hr.units (de_call c_q_draw (hr.mono (by omega)) (da_cons (dv 0) (da_cons de_int da_nil))) de_int) de_non (de_call c_q_any_integer (hr.mono (by omega)) (da_cons (dv 0) da_nil))))
      (dss_cons (ds_set 2 sc_q_strip_quadruple.nd (de_if (kteq (K := K) rfl hr.units (de_call c_q_draw (hr.mono (by omega)) (da_cons (dv 0) (da_cons de_int da_nil))) de_int) de_non (de_call c_q_any_integer (hr.mono (by omega)) (da_cons (dv 0) da_nil))))
      (dss_cons (ds_if (DW.dt (dw_and (dt_cmp op_notN simNotN (dv 1) de_non (nomark _)) (dw_and1 (dt_cmp op_gt simGt (de_call c_q_draw (hr.mono (by omega)) (da_cons (dv 0) (da_cons de_int da_nil))) de_int (nomark _))))) (dss_one (ds_set 2 sc_q_strip_quadruple.nd (de_add (dv 1) (de_call c_q_pick (hr.mono (by omega)) (da_cons (dv 0) (da_cons (de_lst (da_cons de_int (da_cons de_int (da_cons de_int (da_cons de_int (da_cons de_int (da_cons de_int (da_cons de_int (da_cons de_int da_nil))))))))) da_nil)))))) dss_nil)
      (dss_cons (ds_set 3 sc_q_strip_quadruple.nd (de_call c_q_pick (hr.mono (by omega)) (da_cons (dv 0) (da_cons (de_lst (da_cons de_int (da_cons de_int (da_cons de_int (da_cons de_int (da_cons de_int (da_cons de_int (da_cons de_int (da_cons de_int (da_cons de_int (da_cons de_int (da_cons de_int (da_cons de_int (da_cons (de_callB call_abs simAbs T.abs (da_cons (de_call c_q_any_integer (hr.mono (by omega)) (da_cons (dv 0) da_nil)) da_nil)) da_nil)))))))))))))) da_nil))))
      (dss_one (ds_ret (de_tup (da_cons (dv 1) (da_cons (dv 2) (da_cons (dv 3) (da_cons (de_call c_q_any_integer (hr.mono (by omega)) (da_cons (dv 0) da_nil)) da_nil)))))))))))⟩) (fun ds n Q h => ?_)
  obtain ⟨hl, h⟩ := h
  obtain ⟨rfl, hn, h⟩ := h
  unfold CAP at hn
  refine cut fun kk hkk => ?_
  have C1 : ∀ (l : OI) (n1 : Nat), bnd AI l → n1 ≤ n + 7 → kk { n := n1, sl := [.d .strm, .d (oi l), .un, .un] } := by
    intro l n1 b1 hn1
    subst hkk
    refine cut fun kk hkk => ?_
    have C2 : ∀ (g : OI) (n1 : Nat), bnd AI g → n1 ≤ n + 14 → kk { n := n1, sl := [.d .strm, .d (oi l), .d (oi g), .un] } := by
      intro g n1 b2 hn1
      subst hkk
      refine cut fun kk hkk => ?_
      have C3 : ∀ (g : OI) (n1 : Nat), bnd QI g → n1 ≤ n + 20 → kk { n := n1, sl := [.d .strm, .d (oi l), .d (oi g), .un] } := by
        intro g n1 b2 hn1
        subst hkk
        refine cut fun kk hkk => ?_
        have C4 : ∀ (m : Int) (n1 : Nat), 0 ≤ m → m ≤ AI → n1 ≤ n + 28 → kk { n := n1, sl := [.d .strm, .d (oi l), .d (oi g), .d (.int m)] } := by
          intro m n1 m0 m1 hn1
          subst hkk
          walk_at "rd"
          refine ⟨rfl, rfl, by unfold CAP; omega, fun i n2 i0 i1 hn2 => ?_⟩
          refine h ⟨l, g, m, i⟩ n2 ⟨?_, b2, ?_, ?_⟩ m0 (by omega)
          · cases l with
            | none => trivial
            | some a => unfold AI at b1; unfold QI; simp only [bnd] at b1 ⊢; omega
          · unfold QI AI at *; show -(1000000000000000000000000000000000000000000 : Int) ≤ m ∧ m ≤ 1000000000000000000000000000000000000000000; omega
          · unfold QI AI at *; show -(1000000000000000000000000000000000000000000 : Int) ≤ i ∧ i ≤ 1000000000000000000000000000000000000000000; omega
        walk_at "rd"
        refine ⟨rfl, rfl, by unfold CAP; omega, fun i n2 i0 i1 hn2 => ⟨rfl, ⟨by simp, by simp, by unfold CAP; omega⟩, fun x hx => ?_⟩⟩
        have : ∃ m : Int, x = .int m ∧ 0 ≤ m ∧ m ≤ AI := by
          simp only [List.mem_cons, List.not_mem_nil, or_false] at hx
          unfold AI at *
          rcases hx with rfl | rfl | rfl | rfl | rfl | rfl | rfl | rfl | rfl | rfl | rfl | rfl | rfl
          all_goals (refine ⟨_, rfl, ?_⟩; first | omega | (split <;> omega))
        obtain ⟨m, rfl, m0, m1⟩ := this
        exact C4 m _ m0 m1 (by omega)
      have b2' : bnd QI g := by
        cases g with
        | none => trivial
        | some a => unfold AI at b2; unfold QI; simp only [bnd] at b2 ⊢; omega
      cases l with
      | none => walk_at "rd"; exact C3 g _ b2' (by omega)
      | some a =>
        simp only [oi]
        walk_at "rd"
        refine ⟨⟨by omega, by omega, by unfold CAP; omega⟩, fun r r0 r1 => ?_⟩
        split
        · refine ⟨rfl, ⟨by simp, by simp, by unfold CAP; omega⟩, fun x hx => ?_⟩
          have : ∃ m : Int, x = .int m ∧ 0 ≤ m ∧ m ≤ 400 := by
            simp only [List.mem_cons, List.not_mem_nil, or_false] at hx
            rcases hx with rfl | rfl | rfl | rfl | rfl | rfl | rfl | rfl
            all_goals (refine ⟨_, rfl, ?_⟩; omega)
          obtain ⟨m, rfl, m0, m1⟩ := this
          exact C3 (some (a + m)) _ (by unfold AI at b1; unfold QI; simp only [bnd] at b1 ⊢; omega) (by omega)
        · exact C3 g _ b2' (by omega)
    walk_at "rd"
    refine ⟨⟨by omega, by omega, by unfold CAP; omega⟩, fun r r0 r1 => ?_⟩
    split
    · exact C2 none _ trivial (by omega)
    · exact ⟨rfl, rfl, by unfold CAP; omega, fun i n2 i0 i1 hn2 => C2 (some i) _ ⟨i0, i1⟩ (by omega)⟩
  walk_at "rd"
  refine ⟨⟨by omega, by omega, by unfold CAP; omega⟩, fun r r0 r1 => ?_⟩
  split
  · exact C1 none _ trivial (by omega)
  · exact ⟨rfl, rfl, by unfold CAP; omega, fun i n2 i0 i1 hn2 => C1 (some i) _ ⟨i0, i1⟩ (by omega)⟩
end
end K11

set_option Elab.async false
set_option linter.all false
set_option maxRecDepth 100000
set_option maxHeartbeats 2000000
set_option autoImplicit false
namespace K11
open K10 PySem PySem.Spec L2 DL
local macro_rules | `(tactic| walk_at "rd") => `(tactic| try simp only [wipeE, List.foldr_cons, List.foldr_nil, gS, mSeq, mIfS, mRet, mRetN, mAsg, gmName, mVar, mC, mOp, mUn, uIsi, mB, mTNot, mTAnd, mTOr, mAnd, mOr, uNot, mIf, mNil, mCons, mTup, mLst, mCB, mCall, mCallKw, mNext, mNever, mDrop, mFor, miSeq, miZip, miRng1, miRng2, mComp, mData, mApp, mExt, mOwn, mFLst, mFCat, mFCopy, mOwnIx, mOwnLen, mOwnIn, mTYes, drawS, cAll, cAny, cList, deq_bl, owns, ownOf, loopD, gmNil, gmCons, gmTup, gmSeq, seqOf_lst, seqOf_tup, seqOf_non, seqOf_int, seqOf_bl, seqOf_str, seqOf_strm, cLen, cTuple, cInt, cAbs, oAdd, oSub, oMul, oFdiv, oMod, oPow, oI, oI0, uI, uNeg, oLt, oLe, oGt, oGe, oIsN, oNotN, isNon_lst, isNon_tup, isNon_non, isNon_int, isNon_bl, isNon_str, isNon_strm, oEq, oNe, oIx, atI_0, atI_1, atI_2, atI_3, atI_4, DL.atI_last, En.put, start0, tyD_lst, tyD_tup, tyD_non, tyD_int, tyD_bl, tyD_str, tyD_strm, isiT, deq_int, List.any_cons, List.any_nil, List.map_cons, List.map_nil, List.length_cons, List.length_nil, List.cons_append, List.nil_append, List.getElem?_cons_zero, List.getElem?_cons_succ, List.set_cons_zero, List.set_cons_succ, Bool.or_false, Bool.false_or, Bool.not_true, Bool.not_false, if_true, if_false, Bool.false_eq_true, List.reduceReplicate, Nat.reduceSub, Nat.reduceAdd, decide_eq_true_eq, Bool.not_eq_true', decide_eq_false_iff_not, fineD, true_and, and_true, and_self, sizeLine_eq, Nat.reduceLeDiff, not_true_eq_false, not_false_eq_true, beq_self_eq_true, Bool.not_eq_false, Bool.not_eq_true, reduceIte, Bool.true_eq_false, Nat.reduceEqDiff, ne_eq])

section
variable {k : Nat} {P : Program} {w : World} {K : PySem.W.Frag} {mg : Str → Option Value} {base : Heap} {f : Addr} {fd : FuncData}
/-- kept strips: numbers at most -/
abbrev BK : Int := 10000000000000000000000000000000000000000000
/-- numbers in strips that are asked about, at most -/
abbrev BQ : Int := 10000000000000000000000000000000000000000000000000000000000000000000000000000000000000000000000000000
/-- moduli that are small, or of which one divides the other -/
def Mate (s s' : Option Q4) : Prop := ∀ q p, s = some q → s' = some p → p.m ≤ 1000 ∨ q.m ∣ p.m ∨ p.m ∣ q.m
theorem brought_m {l g : OI} {m r : Int} {p : Q4} (h : brought l g m r = some p) : p.m = 0 ∨ p.m = m := by
  unfold brought at h
  split at h
  · split at h
    · cases h; exact .inl rfl
    · cases h
  · split at h
    · split at h
      · cases h
      · split at h <;> cases h
        · exact .inl rfl
        · exact .inr rfl
    · cases h; exact .inr rfl
theorem okI {x : OI} (h : ∀ a ∈ x, -(BK * 3) ≤ a ∧ a ≤ BK * 3) : bnd (BK * 3) x := by
  cases x with
  | none => trivial
  | some a => exact h a rfl
theorem lawB {l g : OI} {m r : Int} {Q : Dt → Nat → Prop} {n : Nat} (h0 : 0 ≤ m) (hm : m ≤ BK * 3) (hr : -(BK * 3) ≤ r ∧ r ≤ BK * 3) (hl : bnd (BK * 3) l) (hg : bnd (BK * 3) g)
    (q : ∀ s, s = brought l g m r → Valid s → Bnd BQ s → Q (sD s) n) : match g_lawBrought [oi l, oi g, .int m, .int r] with
      | some d => Q d n
      | none => False := by
  have wk : ∀ {x : OI}, bnd (BK * 3) x → bnd BS x := fun {x} h => by
    cases x with
    | none => trivial
    | some a => simp only [bnd] at h ⊢; unfold BK at h; unfold BS; omega
  unfold g_lawBrought
  simp only [dOI_oi]
  rw [if_pos ⟨h0, by unfold BK at hm; unfold BS; omega, by unfold BK at hr; unfold BS; omega, wk hl, wk hg⟩]
  refine q _ rfl (brought_valid l g r h0) ?_
  have b := brought_bnd (B := BK * 3) (l := l) (h := g) (m := m) (r := r) h0 (by decide) hl hg hm hr
  revert b
  cases brought l g m r with
  | none => intro _; trivial
  | some q =>
    obtain ⟨l', g', m', r'⟩ := q
    rintro ⟨b1, b2, b3, b4⟩
    refine ⟨?_, ?_, ?_, ?_⟩
    · cases l' with
      | none => trivial
      | some a => simp only [bnd] at b1 ⊢; unfold BK at b1; unfold BQ; omega
    · cases g' with
      | none => trivial
      | some a => simp only [bnd] at b2 ⊢; unfold BK at b2; unfold BQ; omega
    · simp only at b3 ⊢; unfold BK at b3; unfold BQ; omega
    · simp only at b4 ⊢; unfold BK at b4; unfold BQ; omega
def besideS : Spc := fun ds n Q => ds.length = 2 ∧ ∃ s, ds = [.strm, sD s] ∧ Valid s ∧ Bnd BK s ∧ n + 10 < CAP ∧ ∀ s' n', Valid s' → Bnd BQ s' → Mate s s' → n' ≤ n + 2 → Q (sD s') n'
theorem besideS_mono : MonoS besideS := fun ds n k k' h ⟨a, s, b, c, d, e, q⟩ => ⟨a, s, b, c, d, e, fun i n' x y z z2 => h _ _ (q i n' x y z z2)⟩
theorem v_pt (n : Int) : Valid (some ⟨some n, some n, 0, n⟩) := ⟨Int.le_refl 0, brought_single n⟩
theorem v_two (n : Int) : Valid (some ⟨some (n - 2), some n, 2, n % 2⟩) := by
  refine ⟨(by decide : (0 : Int) ≤ 2), ?_⟩
  simp only [brought, Option.map_some, show (2 : Int) ≠ 0 by decide, if_false]
  have e1 : n - 2 + (n % 2 - (n - 2)) % 2 = n - 2 := by omega
  have e2 : n - (n - n % 2) % 2 = n := by omega
  rw [e1, e2, if_neg (by omega), if_neg (by omega)]
  simp
theorem v_up (n : Int) : Valid (some ⟨some n, none, 1, 0⟩) := by
  refine ⟨(by decide : (0 : Int) ≤ 1), ?_⟩
  simp [brought]
theorem v_half {q : Q4} (v : Valid (some q)) (hm : 0 < q.m) : Valid (some ⟨q.l, none, q.m, q.r⟩) ∧ Valid (some ⟨none, q.h, q.m, q.r⟩) := by
  rcases valid_shape v with ⟨h, _⟩ | ⟨_, r0, r1, hl, hh, _⟩
  · omega
  · obtain ⟨l, g, m, r⟩ := q
    simp only at hm r0 r1 hl hh
    have rm : r % m = r := Int.emod_eq_of_lt r0 r1
    have m0 : m ≠ 0 := by omega
    constructor
    · refine ⟨by show 0 ≤ m; omega, ?_⟩
      cases l with
      | none => simp [brought, m0, rm]
      | some a =>
        have := hl a rfl
        simp [brought, m0, rm, this]
    · refine ⟨by show 0 ≤ m; omega, ?_⟩
      cases g with
      | none => simp [brought, m0, rm]
      | some a =>
        have := hh a rfl
        simp [brought, m0, rm, this]
theorem pick_five {ds : List Dt} {x : Dt} (n : Int) (hn : -BK ≤ n ∧ n ≤ BK) (hx : x ∈ [Dt.non, .tup [.int n, .int n, .int 0, .int n], .tup [.int (n + 1), .int (n + 1), .int 0, .int (n + 1)], .tup [.int (n - 2), .int n, .int 2, .int (n % 2)], .tup [.int n, .non, .int 1, .int 0]]) :
    ∃ s, x = sD s ∧ Valid s ∧ Bnd BQ s ∧ ∀ p, s = some p → p.m ≤ 1000 := by
  simp only [List.mem_cons, List.not_mem_nil, or_false] at hx
  unfold BK at hn
  rcases hx with rfl | rfl | rfl | rfl | rfl
  · exact ⟨none, rfl, trivial, trivial, by rintro p ⟨⟩⟩
  · exact ⟨_, rfl, v_pt n, (by unfold BQ; refine ⟨?_, ?_, ?_, ?_⟩ <;> simp only [bnd] <;> omega), by rintro p ⟨⟩; exact (by decide : (0 : Int) ≤ 1000)⟩
  · exact ⟨_, rfl, v_pt (n + 1), (by unfold BQ; refine ⟨?_, ?_, ?_, ?_⟩ <;> simp only [bnd] <;> omega), by rintro p ⟨⟩; exact (by decide : (0 : Int) ≤ 1000)⟩
  · exact ⟨_, rfl, v_two n, (by unfold BQ; refine ⟨?_, ?_, ?_, ?_⟩ <;> simp only [bnd] <;> omega), by rintro p ⟨⟩; exact (by decide : (2 : Int) ≤ 1000)⟩
  · exact ⟨_, rfl, v_up n, (by unfold BQ; refine ⟨?_, ?_, ?_, ?_⟩ <;> simp only [bnd] <;> omega), by rintro p ⟨⟩; exact (by decide : (1 : Int) ≤ 1000)⟩
theorem bnd_wk {B C : Int} (h : B ≤ C) {x : OI} (b : bnd B x) : bnd C x := by
  cases x with
  | none => trivial
  | some a => simp only [bnd] at b ⊢; omega
theorem pick_rest {q : Q4} {x : Dt} (v : Valid (some q)) (b : Bnd BK (some q)) (hm : 0 < q.m) (hx : x ∈ [Dt.non, .tup [.int q.r, .int q.r, .int 0, .int q.r], .tup [oi q.l, .non, .int q.m, .int q.r], .tup [.non, oi q.h, .int q.m, .int q.r], .tup (q4 q)]) :
    ∃ s, x = sD s ∧ Valid s ∧ Bnd BQ s ∧ ∀ p, s = some p → p.m = 0 ∨ p.m = q.m := by
  obtain ⟨b1, b2, b3, b4⟩ := b
  have wl : bnd BQ q.l := bnd_wk (by decide) b1
  have wh : bnd BQ q.h := bnd_wk (by decide) b2
  have wm : -BQ ≤ q.m ∧ q.m ≤ BQ := by unfold BK at b3; unfold BQ; omega
  have wr : -BQ ≤ q.r ∧ q.r ≤ BQ := by unfold BK at b4; unfold BQ; omega
  have w0 : -BQ ≤ (0 : Int) ∧ (0 : Int) ≤ BQ := by decide
  simp only [List.mem_cons, List.not_mem_nil, or_false] at hx
  rcases hx with rfl | rfl | rfl | rfl | rfl
  · exact ⟨none, rfl, trivial, trivial, by rintro p ⟨⟩⟩
  · exact ⟨_, rfl, v_pt q.r, ⟨wr, wr, w0, wr⟩, by rintro p ⟨⟩; exact .inl rfl⟩
  · exact ⟨some ⟨q.l, none, q.m, q.r⟩, rfl, (v_half v hm).1, ⟨wl, trivial, wm, wr⟩, by rintro p ⟨⟩; exact .inr rfl⟩
  · exact ⟨some ⟨none, q.h, q.m, q.r⟩, rfl, (v_half v hm).2, ⟨trivial, wh, wm, wr⟩, by rintro p ⟨⟩; exact .inr rfl⟩
  · exact ⟨some q, rfl, v, ⟨wl, wh, wm, wr⟩, by rintro p ⟨⟩; exact .inr rfl⟩
end
end K11

set_option Elab.async false
set_option linter.all false
set_option maxRecDepth 100000
set_option maxHeartbeats 400000
set_option autoImplicit false
namespace K11
open K10 PySem PySem.Spec L2 DL
local macro_rules | `(tactic| walk_at "rd") => `(tactic| try simp only [wipeE, List.foldr_cons, List.foldr_nil, gS, mSeq, mIfS, mRet, mRetN, mAsg, gmName, mVar, mC, mOp, mUn, uIsi, mB, mTNot, mTAnd, mTOr, mAnd, mOr, uNot, mIf, mNil, mCons, mTup, mLst, mCB, mCall, mCallKw, mNext, mNever, mDrop, mFor, miSeq, miZip, miRng1, miRng2, mComp, mData, mApp, mExt, mOwn, mFLst, mFCat, mFCopy, mOwnIx, mOwnLen, mOwnIn, mTYes, drawS, cAll, cAny, cList, deq_bl, owns, ownOf, loopD, gmNil, gmCons, gmTup, gmSeq, seqOf_lst, seqOf_tup, seqOf_non, seqOf_int, seqOf_bl, seqOf_str, seqOf_strm, cLen, cTuple, cInt, cAbs, oAdd, oSub, oMul, oFdiv, oMod, oPow, oI, oI0, uI, uNeg, oLt, oLe, oGt, oGe, oIsN, oNotN, isNon_lst, isNon_tup, isNon_non, isNon_int, isNon_bl, isNon_str, isNon_strm, oEq, oNe, oIx, atI_0, atI_1, atI_2, atI_3, atI_4, DL.atI_last, En.put, start0, tyD_lst, tyD_tup, tyD_non, tyD_int, tyD_bl, tyD_str, tyD_strm, isiT, deq_int, List.any_cons, List.any_nil, List.map_cons, List.map_nil, List.length_cons, List.length_nil, List.cons_append, List.nil_append, List.getElem?_cons_zero, List.getElem?_cons_succ, List.set_cons_zero, List.set_cons_succ, Bool.or_false, Bool.false_or, Bool.not_true, Bool.not_false, if_true, if_false, Bool.false_eq_true, List.reduceReplicate, Nat.reduceSub, Nat.reduceAdd, decide_eq_true_eq, Bool.not_eq_true', decide_eq_false_iff_not, fineD, true_and, and_true, and_self, sizeLine_eq, Nat.reduceLeDiff, not_true_eq_false, not_false_eq_true, beq_self_eq_true, Bool.not_eq_false, Bool.not_eq_true, reduceIte, Bool.true_eq_false, Nat.reduceEqDiff, ne_eq])

section
variable {k : Nat} {P : Program} {w : World} {K : PySem.W.Frag} {mg : Str → Option Value} {base : Heap} {f : Addr} {fd : FuncData}
theorem cutIf {t : MT} {a b : MS} {D : DEnds} {ρ : En} (h : ∀ ka kb : En → Prop, (ka = fun ρ => a D ρ) → (kb = fun ρ => b D ρ) → t ρ (fun c ρ1 => if c = true then ka ρ1 else kb ρ1)) : mIfS t a b D ρ := h _ _ rfl rfl
abbrev s_q_strip_beside : Stmt := top 42
theorem sc_q_strip_beside : FnScope ["_law_stream_here", "_law_strip", "_law_n", "_law_low", "_law_high", "_law_step", "_law_rest", "_law_way"] ["_law_stream_here", "_law_strip"] (defScope s_q_strip_beside) := ⟨rfl, rfl, rfl, by decide +kernel, rfl, by decide +kernel, by decide +kernel⟩
theorem c_q_strip_beside (T : Txt mg) {f_q_draw : Addr} {d_q_draw : FuncData} (c_q_draw : Cal P w K mg base 1 "_law_draw" ["_law_stream_here", "_law_many"] drawS f_q_draw d_q_draw) {f_q_pick : Addr} {d_q_pick : FuncData} (c_q_pick : Cal P w K mg base 2 "_law_pick" ["_law_stream_here", "_law_things"] pickS f_q_pick d_q_pick) {f_q_strip_brought : Addr} {d_q_strip_brought : FuncData} (c_q_strip_brought : Cal P w K mg base 1 "_law_strip_brought" ["_law_low", "_law_high", "_law_step", "_law_rest"] (gS 4 g_lawBrought) f_q_strip_brought d_q_strip_brought) (F : Fun K "_law_strip_beside" "_law_strip_beside" s_q_strip_beside f fd) (hm : mg "_law_strip_beside" = some (.ref f)) (hb : Binds K fd ["_law_stream_here", "_law_strip"] []) : Cal P w K mg base 3 "_law_strip_beside" ["_law_stream_here", "_law_strip"] besideS f fd := by
  refine fnD F hm hb sc_q_strip_beside besideS_mono (fun ds n Q h => h.1) (fun cdv A outer s H E hr => ⟨_, (dss_cons (ds_if (DW.dt (dw_or (dt_cmp op_isN simIsN (dv 1) de_non (nomark _)) (dw_or1 (kteq (K := K) rfl hr.units (kix (K := K) rfl (dv 1) de_int) de_int)))) (dss_cons (ds_set 2 sc_q_strip_beside.nd (de_if (dt_cmp op_isN simIsN (dv 1) de_non (nomark _)) de_int (kix (K := K) rfl (dv 1) de_int)))
      (dss_one (ds_ret (de_call c_q_pick (hr.mono (by omega)) (da_cons (dv 0) (da_cons (de_lst (da_cons de_non (da_cons (de_tup (da_cons (dv 2) (da_cons (dv 2) (da_cons de_int (da_cons (dv 2) da_nil))))) (da_cons (de_tup (da_cons (de_add (dv 2) de_int) (da_cons (de_add (dv 2) de_int) (da_cons de_int (da_cons (de_add (dv 2) de_int) da_nil))))) (da_cons (de_tup (da_cons (de_sub (dv 2) de_int) (da_cons (dv 2) (da_cons de_int (da_cons (de_mod (de_callTy call_int1 simInt T.int (da_cons (dv 2) da_nil)) de_int) da_nil))))) (da_cons (de_tup (da_cons (dv 2) (da_cons de_non (da_cons de_int (da_cons de_int da_nil))))) da_nil)))))) da_nil)))))) dss_nil)
      (dss_cons (ds_asg (dv 1) (kgseq (K := K) rfl 4 rfl (dgs_cons (dg_name 3 sc_q_strip_beside.nd) (dgs_cons (dg_name 4 sc_q_strip_beside.nd) (dgs_cons (dg_name 5 sc_q_strip_beside.nd) (dgs_cons (dg_name 6 sc_q_strip_beside.nd) dgs_nil))))))
      (dss_cons (ds_set 7 sc_q_strip_beside.nd (de_call c_q_draw (hr.mono (by omega)) (da_cons (dv 0) (da_cons de_int da_nil))))
      (dss_cons (ds_if (DW.dt (dw_and (kteq (K := K) rfl hr.units (dv 7) de_int) (dw_and1 (dt_cmp op_notN simNotN (dv 3) de_non (nomark _))))) (dss_one (ds_ret (de_call c_q_strip_brought (hr.mono (by omega)) (da_cons (de_add (dv 3) (dv 5)) (da_cons (dv 4) (da_cons (dv 5) (da_cons (dv 6) da_nil))))))) dss_nil)
      (dss_cons (ds_if (DW.dt (dw_and (kteq (K := K) rfl hr.units (dv 7) de_int) (dw_and1 (dt_cmp op_notN simNotN (dv 3) de_non (nomark _))))) (dss_one (ds_ret (de_call c_q_strip_brought (hr.mono (by omega)) (da_cons (de_sub (dv 3) (dv 5)) (da_cons (dv 4) (da_cons (dv 5) (da_cons (dv 6) da_nil))))))) dss_nil)
      (dss_cons (ds_if (DW.dt (dw_and (kteq (K := K) rfl hr.units (dv 7) de_int) (dw_and1 (dt_cmp op_notN simNotN (dv 4) de_non (nomark _))))) (dss_one (ds_ret (de_call c_q_strip_brought (hr.mono (by omega)) (da_cons (dv 3) (da_cons (de_sub (dv 4) (dv 5)) (da_cons (dv 5) (da_cons (dv 6) da_nil))))))) dss_nil)
      (dss_cons (ds_if (DW.dt (dw_and (kteq (K := K) rfl hr.units (dv 7) de_int) (dw_and1 (dt_cmp op_notN simNotN (dv 4) de_non (nomark _))))) (dss_one (ds_ret (de_call c_q_strip_brought (hr.mono (by omega)) (da_cons (dv 3) (da_cons (de_add (dv 4) (dv 5)) (da_cons (dv 5) (da_cons (dv 6) da_nil))))))) dss_nil)
      (dss_cons (ds_if (kteq (K := K) rfl hr.units (dv 7) de_int) (dss_one (ds_ret (de_call c_q_strip_brought (hr.mono (by omega)) (da_cons (dv 3) (da_cons (dv 4) (da_cons (de_mul de_int (dv 5)) (da_cons (dv 6) da_nil))))))) dss_nil)
      (dss_cons (ds_if (kteq (K := K) rfl hr.units (dv 7) de_int) (dss_one (ds_ret (de_call c_q_strip_brought (hr.mono (by omega)) (da_cons (dv 3) (da_cons (dv 4) (da_cons (de_if (kteq (K := K) rfl hr.units (de_mod (de_callTy call_int1 simInt T.int (da_cons (dv 5) da_nil)) de_int) de_int) (de_fdiv (dv 5) de_int) de_int) (da_cons (dv 6) da_nil))))))) dss_nil)
      (dss_cons (ds_if (kteq (K := K) rfl hr.units (dv 7) de_int) (dss_one (ds_ret (de_call c_q_strip_brought (hr.mono (by omega)) (da_cons (dv 3) (da_cons (dv 4) (da_cons (dv 5) (da_cons (de_add (dv 6) de_int) da_nil))))))) dss_nil)
      (dss_one (ds_ret (de_call c_q_pick (hr.mono (by omega)) (da_cons (dv 0) (da_cons (de_lst (da_cons de_non (da_cons (de_tup (da_cons (dv 6) (da_cons (dv 6) (da_cons de_int (da_cons (dv 6) da_nil))))) (da_cons (de_tup (da_cons (dv 3) (da_cons de_non (da_cons (dv 5) (da_cons (dv 6) da_nil))))) (da_cons (de_tup (da_cons de_non (da_cons (dv 4) (da_cons (dv 5) (da_cons (dv 6) da_nil))))) (da_cons (dv 1) da_nil)))))) da_nil)))))))))))))))⟩) (fun ds n Q h => ?_)
  obtain ⟨hl, h⟩ := h
  obtain ⟨s, rfl, v, b, hn, h⟩ := h
  unfold CAP at hn
  have z4 : (4 : Nat) ≤ sizeLine := by decide
  have z5 : (5 : Nat) ≤ sizeLine := by decide
  cases s with
  | none =>
    refine cut fun kk hkk => ?_
    clear hkk
    refine cutIf fun ka kb hka hkb => ?_
    simp only [sD]
    have C : ∀ sl, sl = [.d .strm, .d .non, .un, .un, .un, .un, .un, .un] → ka ⟨n, sl⟩ := by
      intro sl hsl
      subst hka hsl
      refine cut fun kk2 hkk2 => ?_
      have C2 : kk2 ⟨n, [.d .strm, .d .non, .d (.int 3), .un, .un, .un, .un, .un]⟩ := ?_
      · clear hkk2; walk_at "rd"; exact C2
      subst hkk2
      refine And.intro z4 (And.intro z4 (And.intro (by decide : (0 : Int) < 2) (And.intro z4 (And.intro z4 (And.intro z5 (And.intro rfl (And.intro ?_ ?_)))))))
      · exact ⟨(by decide : 0 < 5), (by decide : 5 ≤ 1000), (show n < CAP by unfold CAP; omega)⟩
      intro x hx
      obtain ⟨s, rfl, v', b', mm⟩ := pick_five (ds := []) 3 (by decide) hx
      exact h s (n + 1) v' b' (fun q p e _ => by cases e) (by omega)
    walk_at "rd"
    exact C _ rfl
  | some q =>
    rcases valid_shape v with ⟨h0, h1, h2⟩ | ⟨hm, r0, r1, hl, hh, _⟩
    · obtain ⟨l, g, m, r⟩ := q
      simp only at h0 h1 h2
      subst h0 h1 h2
      have b4 := b.2.2.2
      simp only at b4
      refine cut fun kk hkk => ?_
      clear hkk
      refine cutIf fun ka kb hka hkb => ?_
      simp only [sD, q4, oi]
      have C : ∀ sl, sl = [.d .strm, .d (.tup [.int r, .int r, .int 0, .int r]), .un, .un, .un, .un, .un, .un] → ka ⟨n, sl⟩ := by
        intro sl hsl
        subst hka hsl
        refine cut fun kk2 hkk2 => ?_
        have C2 : kk2 ⟨n, [.d .strm, .d (.tup [.int r, .int r, .int 0, .int r]), .d (.int r), .un, .un, .un, .un, .un]⟩ := ?_
        · clear hkk2; walk_at "rd"; exact C2
        subst hkk2
        refine And.intro z4 (And.intro z4 (And.intro (by decide : (0 : Int) < 2) (And.intro z4 (And.intro z4 (And.intro z5 (And.intro rfl (And.intro ?_ ?_)))))))
        · exact ⟨(by decide : 0 < 5), (by decide : 5 ≤ 1000), (show n < CAP by unfold CAP; omega)⟩
        intro x hx
        obtain ⟨s, rfl, v', b', mm⟩ := pick_five (ds := []) r b4 hx
        exact h s (n + 1) v' b' (fun q p _ e => .inl (mm p e)) (by omega)
      walk_at "rd"
      exact C _ rfl
    · have pr := fun x => pick_rest (x := x) v b hm
      obtain ⟨l, g, m, r⟩ := q
      obtain ⟨b1, b2, b3, b4⟩ := b
      simp only at hm b1 b2 b3 b4
      have m0 : m ≠ 0 := by omega
      unfold BK at b1 b2 b3 b4
      simp only [sD, q4] at h pr ⊢
      have hq : ∀ s' n', Valid s' → Bnd BQ s' → Mate (some ⟨l, g, m, r⟩) s' → n' ≤ n + 1 → Q (sD s') n' := fun s' n' v' b' mt hn' => h s' n' v' b' mt (by omega)
      have bl3 : bnd (BK * 3) l := bnd_wk (B := BK) (by decide) b1
      have bg3 : bnd (BK * 3) g := bnd_wk (B := BK) (by decide) b2
      have step : ∀ (L G : Dt) (l' g' : OI) (m' r' : Int), L = oi l' → G = oi g' → 0 ≤ m' → m' ≤ BK * 3 → (-(BK * 3) ≤ r' ∧ r' ≤ BK * 3) → bnd (BK * 3) l' → bnd (BK * 3) g' → (m ∣ m' ∨ m' ∣ m) → match g_lawBrought [L, G, .int m', .int r'] with
          | some d => Q d (n + 1)
          | none => False := fun L G l' g' m' r' e1 e2 x1 x2 x3 x4 x5 hd => by
        subst e1 e2
        refine lawB x1 x2 x3 x4 x5 fun s' es v' b' => hq s' _ v' b' (fun q p e1 e2 => ?_) (by omega)
        cases e1
        subst e2
        rcases brought_m es.symm with e | e
        · exact .inl (by omega)
        · simp only [e]; exact .inr hd
      obtain ⟨sl0, hsl0⟩ : ∃ sl0 : List SV, sl0 = [.d .strm, .d (.tup [oi l, oi g, .int m, .int r]), .un, .un, .un, .un, .un, .un] := ⟨_, rfl⟩
      obtain ⟨sl1, hsl1⟩ : ∃ sl1 : Int → List SV, sl1 = fun way => [.d .strm, .d (.tup [oi l, oi g, .int m, .int r]), .un, .d (oi l), .d (oi g), .d (.int m), .d (.int r), .d (.int way)] := ⟨_, rfl⟩
      refine cut fun kk hkk => ?_
      have C0 : kk { n := n, sl := sl0 } := by
        subst hkk
        refine cut fun kk hkk => ?_
        have C1 : kk { n := n, sl := [.d .strm, .d (.tup [oi l, oi g, .int m, .int r]), .un, .d (oi l), .d (oi g), .d (.int m), .d (.int r), .un] } := by
          subst hkk
          refine cut fun kk hkk => ?_
          have C2 : ∀ way, kk { n := n + 1, sl := sl1 way } := by
            intro way
            subst hkk
            refine cut fun kk hkk => ?_
            have D0 : kk { n := n + 1, sl := sl1 way } := by
              subst hkk
              refine cut fun kk hkk => ?_
              have D1 : kk { n := n + 1, sl := sl1 way } := by
                subst hkk
                refine cut fun kk hkk => ?_
                have D2 : kk { n := n + 1, sl := sl1 way } := by
                  subst hkk
                  refine cut fun kk hkk => ?_
                  have D3 : kk { n := n + 1, sl := sl1 way } := by
                    subst hkk
                    refine cut fun kk hkk => ?_
                    have D4 : kk { n := n + 1, sl := sl1 way } := by
                      subst hkk
                      refine cut fun kk hkk => ?_
                      have D5 : kk { n := n + 1, sl := sl1 way } := by
                        subst hkk
                        refine cut fun kk hkk => ?_
                        have D6 : kk { n := n + 1, sl := sl1 way } := by
                          subst hkk
                          subst hsl1
                          refine And.intro z4 (And.intro z4 (And.intro z4 (And.intro z5 (And.intro rfl (And.intro ?_ ?_)))))
                          · exact ⟨(by decide : 0 < 5), (by decide : 5 ≤ 1000), (show n + 1 < CAP by unfold CAP; omega)⟩
                          intro x hx
                          obtain ⟨s, rfl, v', b', mm⟩ := pr x hx
                          refine h s (n + 2) v' b' (fun q p e1 e2 => ?_) (by omega)
                          cases e1
                          rcases mm p e2 with e | e
                          · exact .inl (by omega)
                          · exact .inr (.inl (by rw [e]; exact Int.dvd_refl _))
                        refine cutIf fun ka kb hka hkb => ?_
                        have D6 : kb { n := n + 1, sl := sl1 way } := by subst hkb; exact D6
                        clear hkb hkk
                        subst hsl1
                        have E : ka { n := n + 1, sl := [.d .strm, .d (.tup [oi l, oi g, .int m, .int r]), .un, .d (oi l), .d (oi g), .d (.int m), .d (.int r), .d (.int way)] } := by subst hka; exact And.intro rfl (step _ _ _ _ _ _ rfl rfl (by omega) (by unfold BK; omega) (by unfold BK; omega) bl3 bg3 (.inl (Int.dvd_refl _)))
                        walk_at "rd"
                        split
                        · exact E
                        · exact D6
                      refine cutIf fun ka kb hka hkb => ?_
                      have D5 : kb { n := n + 1, sl := sl1 way } := by subst hkb; exact D5
                      clear hkb hkk
                      subst hsl1
                      have E1 := divW (i := m) (m := 2) (by decide) (by decide)
                      have E2 : m % 2 = 0 → match g_lawBrought [oi l, oi g, .int (m / 2), .int r] with
                        | some d => Q d (n + 1)
                        | none => False := fun e => step _ _ _ _ _ _ rfl rfl (by omega) (by unfold BK; omega) (by unfold BK; omega) bl3 bg3 (.inr ⟨2, by omega⟩)
                      have E3 : match g_lawBrought [oi l, oi g, .int 1, .int r] with
                        | some d => Q d (n + 1)
                        | none => False := step _ _ _ _ _ _ rfl rfl (by omega) (by unfold BK; omega) (by unfold BK; omega) bl3 bg3 (.inr (Int.one_dvd _))
                      have E : ka { n := n + 1, sl := [.d .strm, .d (.tup [oi l, oi g, .int m, .int r]), .un, .d (oi l), .d (oi g), .d (.int m), .d (.int r), .d (.int way)] } := by
                        subst hka
                        walk_at "rd"
                        split
                        · exact ⟨(by decide : (0 : Int) < 2), E1, E2 (by assumption)⟩
                        · exact ⟨(by decide : (0 : Int) < 2), E3⟩
                      walk_at "rd"
                      split
                      · exact E
                      · exact D5
                    refine cutIf fun ka kb hka hkb => ?_
                    have D4 : kb { n := n + 1, sl := sl1 way } := by subst hkb; exact D4
                    clear hkb hkk
                    subst hsl1
                    have E : ka { n := n + 1, sl := [.d .strm, .d (.tup [oi l, oi g, .int m, .int r]), .un, .d (oi l), .d (oi g), .d (.int m), .d (.int r), .d (.int way)] } := by subst hka; exact And.intro (mulOk (by omega) (by omega)) (And.intro rfl (step _ _ _ _ _ _ rfl rfl (by omega) (by unfold BK; omega) (by unfold BK; omega) bl3 bg3 (.inl (Int.dvd_mul_left ..))))
                    walk_at "rd"
                    split
                    · exact E
                    · exact D4
                  refine cutIf fun ka kb hka hkb => ?_
                  have D3 : kb { n := n + 1, sl := sl1 way } := by subst hkb; exact D3
                  clear hkb hkk
                  subst hsl1
                  cases g with
                  | none => clear hka; walk_at "rd"; (try split) <;> exact D3
                  | some a =>
                    simp only [oi] at D3 hka ⊢
                    have E : ka { n := n + 1, sl := [.d .strm, .d (.tup [oi l, .int a, .int m, .int r]), .un, .d (oi l), .d (.int a), .d (.int m), .d (.int r), .d (.int way)] } := by
                      subst hka
                      exact And.intro rfl (step _ _ _ (some (a + m)) _ _ rfl rfl (by omega) (by unfold BK; omega) (by unfold BK; omega) bl3 (by unfold BK; simp only [bnd] at b2 ⊢; omega) (.inl (Int.dvd_refl _)))
                    walk_at "rd"
                    split
                    · exact E
                    · exact D3
                refine cutIf fun ka kb hka hkb => ?_
                have D2 : kb { n := n + 1, sl := sl1 way } := by subst hkb; exact D2
                clear hkb hkk
                subst hsl1
                cases g with
                | none => clear hka; walk_at "rd"; (try split) <;> exact D2
                | some a =>
                  simp only [oi] at D2 hka ⊢
                  have E : ka { n := n + 1, sl := [.d .strm, .d (.tup [oi l, .int a, .int m, .int r]), .un, .d (oi l), .d (.int a), .d (.int m), .d (.int r), .d (.int way)] } := by
                    subst hka
                    exact And.intro rfl (step _ _ _ (some (a - m)) _ _ rfl rfl (by omega) (by unfold BK; omega) (by unfold BK; omega) bl3 (by unfold BK; simp only [bnd] at b2 ⊢; omega) (.inl (Int.dvd_refl _)))
                  walk_at "rd"
                  split
                  · exact E
                  · exact D2
              refine cutIf fun ka kb hka hkb => ?_
              have D1 : kb { n := n + 1, sl := sl1 way } := by subst hkb; exact D1
              clear hkb hkk
              subst hsl1
              cases l with
              | none => clear hka; walk_at "rd"; (try split) <;> exact D1
              | some a =>
                simp only [oi] at D1 hka ⊢
                have E : ka { n := n + 1, sl := [.d .strm, .d (.tup [.int a, oi g, .int m, .int r]), .un, .d (.int a), .d (oi g), .d (.int m), .d (.int r), .d (.int way)] } := by
                  subst hka
                  exact And.intro rfl (step _ _ (some (a - m)) _ _ _ rfl rfl (by omega) (by unfold BK; omega) (by unfold BK; omega) (by unfold BK; simp only [bnd] at b1 ⊢; omega) bg3 (.inl (Int.dvd_refl _)))
                walk_at "rd"
                split
                · exact E
                · exact D1
            refine cutIf fun ka kb hka hkb => ?_
            have D0 : kb { n := n + 1, sl := sl1 way } := by subst hkb; exact D0
            clear hkb hkk
            subst hsl1
            cases l with
            | none => clear hka; walk_at "rd"; (try split) <;> exact D0
            | some a =>
              simp only [oi] at D0 hka ⊢
              have E : ka { n := n + 1, sl := [.d .strm, .d (.tup [.int a, oi g, .int m, .int r]), .un, .d (.int a), .d (oi g), .d (.int m), .d (.int r), .d (.int way)] } := by
                subst hka
                exact And.intro rfl (step _ _ (some (a + m)) _ _ _ rfl rfl (by omega) (by unfold BK; omega) (by unfold BK; omega) (by unfold BK; simp only [bnd] at b1 ⊢; omega) bg3 (.inl (Int.dvd_refl _)))
              walk_at "rd"
              split
              · exact E
              · exact D0
          subst hsl1
          clear hkk
          walk_at "rd"
          exact ⟨by unfold CAP; omega, fun r r0 r1 => C2 r⟩
        subst hsl0
        clear hkk
        walk_at "rd"
        exact C1
      clear hkk
      refine cutIf fun ka kb hka hkb => ?_
      have C0 : kb { n := n, sl := sl0 } := by subst hkb; exact C0
      clear hka hkb
      subst hsl0
      walk_at "rd"
      simp only [m0, if_false]
      exact C0
end
end K11

set_option Elab.async false
set_option linter.all false
set_option maxRecDepth 100000
set_option maxHeartbeats 1000000
set_option autoImplicit false
/-! K11m: least strips in plain Lean. -/
namespace K11
open K10
/-- gcd of moduli -/
def gc (a b : Int) : Int := ((Nat.gcd a.natAbs b.natAbs : Nat) : Int)
theorem gc_nn (a b : Int) : 0 ≤ gc a b := by unfold gc; omega
theorem gc_dvd {d a b : Int} : d ∣ gc a b ↔ d ∣ a ∧ d ∣ b := by
  constructor
  · intro h
    exact ⟨Int.dvd_trans h (Int.gcd_dvd_left ..), Int.dvd_trans h (Int.gcd_dvd_right ..)⟩
  · rintro ⟨h1, h2⟩
    exact Int.dvd_coe_gcd h1 h2
theorem dvd_ext {m m' : Int} (h : 0 ≤ m) (h' : 0 ≤ m') (e : ∀ d, d ∣ m ↔ d ∣ m') : m = m' :=
  Int.dvd_antisymm h h' ((e m).mp (Int.dvd_refl m)) ((e m').mpr (Int.dvd_refl m'))
theorem mod_congr {m x y : Int} (d : m ∣ x - y) : x % m = y % m := Int.emod_eq_emod_iff_emod_sub_eq_zero.mpr (Int.emod_eq_zero_of_dvd d)
theorem brought_congr {l h : OI} {m r r' : Int} (d : m ∣ r - r') : brought l h m r = brought l h m r' := by
  by_cases h0 : m = 0
  · subst h0
    have : r - r' = 0 := Int.zero_dvd.mp d
    have : r = r' := by omega
    rw [this]
  · have e0 : r % m = r' % m := mod_congr d
    have e1 : ∀ a, (r - a) % m = (r' - a) % m := fun a => mod_congr (by rwa [show r - a - (r' - a) = r - r' by omega])
    have e2 : ∀ b, (b - r) % m = (b - r') % m := fun b => mod_congr (by
      rw [show b - r - (b - r') = -(r - r') by omega]; exact (Int.dvd_neg).mpr d)
    unfold brought
    simp only [if_neg h0, e0, e1, e2]
def one (n : Int) : Option Q4 := some ⟨some n, some n, 0, n⟩
theorem one_brought (n : Int) : brought (some n) (some n) 0 n = one n := brought_single n
theorem dvd_sub_swap {d x y : Int} (h : d ∣ x - y) : d ∣ y - x := by
  have := (Int.dvd_neg (a := d)).mpr h
  rwa [show -(x - y) = y - x by omega] at this
/-! ### around some -/
def gcdF (s0 : Int) (S : List Int) (g : Int) : Int := S.foldl (fun g n => gc g (n - s0)) g
theorem gcdF_dvd (s0 : Int) : ∀ (S : List Int) (g d : Int), d ∣ gcdF s0 S g ↔ d ∣ g ∧ ∀ n ∈ S, d ∣ n - s0
  | [], g, d => by simp [gcdF]
  | n :: S, g, d => by
    have := gcdF_dvd s0 S (gc g (n - s0)) d
    rw [gc_dvd] at this
    simp only [List.mem_cons, forall_eq_or_imp, ← and_assoc]
    exact this
theorem gcdF_nn (s0 : Int) : ∀ (S : List Int) (g : Int), 0 ≤ g → 0 ≤ gcdF s0 S g
  | [], g, h => h
  | n :: S, g, h => gcdF_nn s0 S _ (gc_nn _ _)
def Least (S : List Int) (a : Int) : Prop := a ∈ S ∧ ∀ y ∈ S, a ≤ y
def Most (S : List Int) (a : Int) : Prop := a ∈ S ∧ ∀ y ∈ S, y ≤ a
/-- what is told around S -/
def Around (S : List Int) (lo hi : Bool) (t : Option Q4) : Prop := match S with
  | [] => t = none
  | s0 :: _ => ∀ a b, (lo = true → Least S a) → (hi = true → Most S b) → t = brought (if lo then some a else none) (if hi then some b else none) (gcdF s0 S 0) s0
theorem around_of {S : List Int} {lo hi : Bool} {L H : OI} {m r : Int} (ne : S ≠ []) (hm : 0 ≤ m) (hg : ∀ d, d ∣ m ↔ ∀ x ∈ S, ∀ y ∈ S, d ∣ x - y) (hr : ∀ x ∈ S, m ∣ x - r)
    (hl : (lo = true ∧ ∃ a, Least S a ∧ L = some a) ∨ (lo = false ∧ L = none)) (hh : (hi = true ∧ ∃ a, Most S a ∧ H = some a) ∨ (hi = false ∧ H = none)) : Around S lo hi (brought L H m r) := by
  cases S with
  | nil => exact absurd rfl ne
  | cons s0 S =>
    intro a b ha hb
    have em : m = gcdF s0 (s0 :: S) 0 := dvd_ext hm (gcdF_nn _ _ _ (Int.le_refl 0)) fun d => by
      rw [hg, gcdF_dvd]
      constructor
      · exact fun h => ⟨Int.dvd_zero d, fun n hn => h n hn s0 (by simp)⟩
      · rintro ⟨_, h⟩ x hx y hy
        have := Int.dvd_sub (h x hx) (h y hy)
        rwa [show x - s0 - (y - s0) = x - y by omega] at this
    rw [← em]
    have eL : (if lo then some a else none) = L := by
      rcases hl with ⟨rfl, c, ⟨c1, c2⟩, rfl⟩ | ⟨rfl, rfl⟩
      · obtain ⟨a1, a2⟩ := ha rfl
        have := a2 c c1
        have := c2 a a1
        simp only [if_true]; congr 1; omega
      · rfl
    have eH : (if hi then some b else none) = H := by
      rcases hh with ⟨rfl, c, ⟨c1, c2⟩, rfl⟩ | ⟨rfl, rfl⟩
      · obtain ⟨a1, a2⟩ := hb rfl
        have := a2 c c1
        have := c2 b a1
        simp only [if_true]; congr 1; omega
      · rfl
    rw [eL, eH]
    exact brought_congr (dvd_sub_swap (hr s0 (by simp)))
/-! ### members near the ends -/
structure NearP (q : Q4) (S : List Int) : Prop where
  mem : ∀ x ∈ S, has (some q) x = true
  lo : ∀ a, q.l = some a → a ∈ S
  hi : ∀ b, q.h = some b → b ∈ S
  two : q.m ≠ 0 → ∃ x, x ∈ S ∧ x + q.m ∈ S
section
variable {q p : Q4} {S T : List Int}
theorem has_dvd {x : Int} (h : has (some q) x = true) : q.m ∣ x - q.r := by
  have := (has_some.mp h).2.2
  split at this
  · rename_i e; rw [this, Int.sub_self]; exact Int.dvd_zero _
  · exact this
theorem valid_m (v : Valid (some q)) : 0 ≤ q.m := v.1
theorem NearP.ne (n : NearP q S) (v : Valid (some q)) : S ≠ [] := by
  rcases valid_shape v with ⟨_, h, _⟩ | ⟨h, _⟩
  · exact List.ne_nil_of_mem (n.lo _ h)
  · obtain ⟨x, h, _⟩ := n.two (by omega)
    exact List.ne_nil_of_mem h
theorem NearP.least (n : NearP q S) {a : Int} (h : q.l = some a) : Least S a := ⟨n.lo a h, fun y hy => (has_some.mp (n.mem y hy)).1 a h⟩
theorem NearP.most (n : NearP q S) {a : Int} (h : q.h = some a) : Most S a := ⟨n.hi a h, fun y hy => (has_some.mp (n.mem y hy)).2.1 a h⟩
theorem NearP.spread (n : NearP q S) (d : Int) : d ∣ q.m ↔ ∀ x ∈ S, ∀ y ∈ S, d ∣ x - y := by
  constructor
  · intro h x hx y hy
    have := Int.dvd_sub (Int.dvd_trans h (has_dvd (n.mem x hx))) (Int.dvd_trans h (has_dvd (n.mem y hy)))
    rwa [show x - q.r - (y - q.r) = x - y by omega] at this
  · intro h
    by_cases h0 : q.m = 0
    · rw [h0]; exact Int.dvd_zero _
    · obtain ⟨x, h1, h2⟩ := n.two h0
      have := h _ h2 _ h1
      rwa [show x + q.m - x = q.m by omega] at this
/-- the strip itself, around what is near -/
theorem NearP.self (n : NearP q S) (v : Valid (some q)) : Around S q.l.isSome q.h.isSome (some q) := by
  rw [← v.2]
  refine around_of (n.ne v) v.1 n.spread (fun x hx => has_dvd (n.mem x hx)) ?_ ?_
  · cases e : q.l with
    | none => exact .inr ⟨rfl, rfl⟩
    | some a => exact .inl ⟨rfl, a, n.least e, rfl⟩
  · cases e : q.h with
    | none => exact .inr ⟨rfl, rfl⟩
    | some a => exact .inl ⟨rfl, a, n.most e, rfl⟩
end
def o2 (g : Int → Int → Int) : OI → OI → OI
  | some a, some b => some (g a b)
  | _, _ => none
/-- the strip around both -/
def around : Option Q4 → Option Q4 → Option Q4
  | none, o => o
  | some s, none => some s
  | some s, some o => brought (o2 (fun i j => if j < i then j else i) s.l o.l) (o2 (fun i j => if j > i then j else i) s.h o.h) (gc (gc s.m o.m) (if s.r - o.r < 0 then -(s.r - o.r) else s.r - o.r)) s.r
def summed : Option Q4 → Option Q4 → Option Q4
  | some s, some o => brought (o2 (· + ·) s.l o.l) (o2 (· + ·) s.h o.h) (gc s.m o.m) (s.r + o.r)
  | _, _ => none
/-- members near, of None too -/
def NearO : Option Q4 → List Int → Prop
  | none, S => S = []
  | some q, S => NearP q S
def loO : Option Q4 → Bool
  | none => true
  | some q => q.l.isSome
def hiO : Option Q4 → Bool
  | none => true
  | some q => q.h.isSome
theorem abs_dvd {d x : Int} : d ∣ (if x < 0 then -x else x) ↔ d ∣ x := by
  split
  · exact Int.dvd_neg
  · exact Iff.rfl
theorem joined_due {s o : Option Q4} {S T : List Int} (vs : Valid s) (vo : Valid o) (ns : NearO s S) (no : NearO o T) : Around (S ++ T) (loO s && loO o) (hiO s && hiO o) (around s o) := by
  cases s with
  | none =>
    cases (show S = [] from ns)
    cases o with
    | none => cases (show T = [] from no); rfl
    | some p => exact NearP.self no vo
  | some q =>
    have ns : NearP q S := ns
    cases o with
    | none =>
      cases (show T = [] from no)
      rw [List.append_nil]
      simp only [loO, hiO, Bool.and_true]
      exact ns.self vs
    | some p =>
      have no : NearP p T := no
      have ap : ∀ x, x ∈ S ++ T ↔ x ∈ S ∨ x ∈ T := fun x => List.mem_append
      refine around_of (fun h => ns.ne vs (List.append_eq_nil_iff.mp h).1) (gc_nn _ _) (fun d => ?_) (fun x hx => ?_) ?_ ?_
      · rw [gc_dvd, gc_dvd, abs_dvd]
        constructor
        · rintro ⟨⟨h1, h2⟩, h3⟩ x hx y hy
          have e : ∀ x ∈ S ++ T, d ∣ x - q.r := fun x hx => by
            rcases (ap x).mp hx with h | h
            · exact Int.dvd_trans h1 (has_dvd (ns.mem x h))
            · have := Int.dvd_sub (Int.dvd_trans h2 (has_dvd (no.mem x h))) h3
              rwa [show x - p.r - (q.r - p.r) = x - q.r by omega] at this
          have := Int.dvd_sub (e x hx) (e y hy)
          rwa [show x - q.r - (y - q.r) = x - y by omega] at this
        · intro h
          have h1 : d ∣ q.m := (ns.spread d).mpr fun x hx y hy => h x ((ap x).mpr (.inl hx)) y ((ap y).mpr (.inl hy))
          have h2 : d ∣ p.m := (no.spread d).mpr fun x hx y hy => h x ((ap x).mpr (.inr hx)) y ((ap y).mpr (.inr hy))
          refine ⟨⟨h1, h2⟩, ?_⟩
          obtain ⟨x, hx⟩ := List.exists_mem_of_ne_nil _ (ns.ne vs)
          obtain ⟨y, hy⟩ := List.exists_mem_of_ne_nil _ (no.ne vo)
          have a1 := h x ((ap x).mpr (.inl hx)) y ((ap y).mpr (.inr hy))
          have a2 := Int.dvd_trans h1 (has_dvd (ns.mem x hx))
          have a3 := Int.dvd_trans h2 (has_dvd (no.mem y hy))
          have := Int.dvd_add (Int.dvd_sub a1 a2) a3
          rwa [show x - y - (x - q.r) + (y - p.r) = q.r - p.r by omega] at this
      · have g1 := (gc_dvd (d := gc (gc q.m p.m) (if q.r - p.r < 0 then -(q.r - p.r) else q.r - p.r))).mp (Int.dvd_refl _)
        obtain ⟨g1, g2⟩ := g1
        rw [abs_dvd] at g2
        obtain ⟨g3, g4⟩ := gc_dvd.mp g1
        rcases (ap x).mp hx with h | h
        · exact Int.dvd_trans g3 (has_dvd (ns.mem x h))
        · have := Int.dvd_sub (Int.dvd_trans g4 (has_dvd (no.mem x h))) g2
          rwa [show x - p.r - (q.r - p.r) = x - q.r by omega] at this
      · simp only [loO]
        cases e : q.l with
        | none => exact .inr ⟨rfl, rfl⟩
        | some a =>
          cases f : p.l with
          | none => exact .inr ⟨rfl, rfl⟩
          | some b =>
            obtain ⟨a1, a2⟩ := ns.least e
            obtain ⟨b1, b2⟩ := no.least f
            refine .inl ⟨rfl, _, ?_, rfl⟩
            dsimp only
            split
            · exact ⟨(ap _).mpr (.inr b1), fun y hy => by
                rcases (ap y).mp hy with h | h
                · have := a2 y h; omega
                · exact b2 y h⟩
            · exact ⟨(ap _).mpr (.inl a1), fun y hy => by
                rcases (ap y).mp hy with h | h
                · exact a2 y h
                · have := b2 y h; omega⟩
      · simp only [hiO]
        cases e : q.h with
        | none => exact .inr ⟨rfl, rfl⟩
        | some a =>
          cases f : p.h with
          | none => exact .inr ⟨rfl, rfl⟩
          | some b =>
            obtain ⟨a1, a2⟩ := ns.most e
            obtain ⟨b1, b2⟩ := no.most f
            refine .inl ⟨rfl, _, ?_, rfl⟩
            dsimp only
            split
            · exact ⟨(ap _).mpr (.inr b1), fun y hy => by
                rcases (ap y).mp hy with h | h
                · have := a2 y h; omega
                · exact b2 y h⟩
            · exact ⟨(ap _).mpr (.inl a1), fun y hy => by
                rcases (ap y).mp hy with h | h
                · exact a2 y h
                · have := b2 y h; omega⟩
/-- all sums of two -/
def sums (S T : List Int) : List Int := S.flatMap fun n => T.map fun m => n + m
theorem mem_sums {S T : List Int} {x : Int} : x ∈ sums S T ↔ ∃ a ∈ S, ∃ b ∈ T, x = a + b := by
  simp only [sums, List.mem_flatMap, List.mem_map]
  constructor
  · rintro ⟨a, h, b, g, rfl⟩; exact ⟨a, h, b, g, rfl⟩
  · rintro ⟨a, h, b, g, rfl⟩; exact ⟨a, h, b, g, rfl⟩
theorem sum_due {s o : Option Q4} {S T : List Int} (vs : Valid s) (vo : Valid o) (ns : NearO s S) (no : NearO o T) : Around (sums S T) (loO s && loO o) (hiO s && hiO o) (summed s o) := by
  cases s with
  | none => cases (show S = [] from ns); rfl
  | some q =>
    have ns : NearP q S := ns
    cases o with
    | none =>
      cases (show T = [] from no)
      have : sums S [] = [] := by
        cases e : sums S [] with
        | nil => rfl
        | cons x r =>
          have : x ∈ sums S [] := by rw [e]; simp
          obtain ⟨_, _, b, hb, _⟩ := mem_sums.mp this
          cases hb
      rw [this]; rfl
    | some p =>
      have no : NearP p T := no
      obtain ⟨x0, hx0⟩ := List.exists_mem_of_ne_nil _ (ns.ne vs)
      obtain ⟨y0, hy0⟩ := List.exists_mem_of_ne_nil _ (no.ne vo)
      refine around_of (List.ne_nil_of_mem (mem_sums.mpr ⟨x0, hx0, y0, hy0, rfl⟩)) (gc_nn _ _) (fun d => ?_) (fun x hx => ?_) ?_ ?_
      · rw [gc_dvd]
        constructor
        · rintro ⟨h1, h2⟩ x hx y hy
          obtain ⟨a, ha, b, hb, rfl⟩ := mem_sums.mp hx
          obtain ⟨c, hc, e, he, rfl⟩ := mem_sums.mp hy
          have := Int.dvd_add ((ns.spread d).mp h1 a ha c hc) ((no.spread d).mp h2 b hb e he)
          rwa [show a - c + (b - e) = a + b - (c + e) by omega] at this
        · intro h
          refine ⟨(ns.spread d).mpr fun x hx y hy => ?_, (no.spread d).mpr fun x hx y hy => ?_⟩
          · have := h _ (mem_sums.mpr ⟨x, hx, y0, hy0, rfl⟩) _ (mem_sums.mpr ⟨y, hy, y0, hy0, rfl⟩)
            rwa [show x + y0 - (y + y0) = x - y by omega] at this
          · have := h _ (mem_sums.mpr ⟨x0, hx0, x, hx, rfl⟩) _ (mem_sums.mpr ⟨x0, hx0, y, hy, rfl⟩)
            rwa [show x0 + x - (x0 + y) = x - y by omega] at this
      · obtain ⟨g3, g4⟩ := gc_dvd.mp (Int.dvd_refl (gc q.m p.m))
        obtain ⟨a, ha, b, hb, rfl⟩ := mem_sums.mp hx
        have := Int.dvd_add (Int.dvd_trans g3 (has_dvd (ns.mem a ha))) (Int.dvd_trans g4 (has_dvd (no.mem b hb)))
        rwa [show a - q.r + (b - p.r) = a + b - (q.r + p.r) by omega] at this
      · simp only [loO]
        cases e : q.l with
        | none => exact .inr ⟨rfl, rfl⟩
        | some a =>
          cases f : p.l with
          | none => exact .inr ⟨rfl, rfl⟩
          | some b =>
            obtain ⟨a1, a2⟩ := ns.least e
            obtain ⟨b1, b2⟩ := no.least f
            refine .inl ⟨rfl, _, ⟨mem_sums.mpr ⟨a, a1, b, b1, rfl⟩, fun y hy => ?_⟩, rfl⟩
            obtain ⟨c, hc, e, he, rfl⟩ := mem_sums.mp hy
            have := a2 c hc
            have := b2 e he
            omega
      · simp only [hiO]
        cases e : q.h with
        | none => exact .inr ⟨rfl, rfl⟩
        | some a =>
          cases f : p.h with
          | none => exact .inr ⟨rfl, rfl⟩
          | some b =>
            obtain ⟨a1, a2⟩ := ns.most e
            obtain ⟨b1, b2⟩ := no.most f
            refine .inl ⟨rfl, _, ⟨mem_sums.mpr ⟨a, a1, b, b1, rfl⟩, fun y hy => ?_⟩, rfl⟩
            obtain ⟨c, hc, e, he, rfl⟩ := mem_sums.mp hy
            have := a2 c hc
            have := b2 e he
            omega
/-- each number of a strip times n -/
def multd (n : Int) : Option Q4 → Option Q4
  | none => none
  | some q => if n = 0 then some ⟨some 0, some 0, 0, 0⟩ else
    if n < 0 then brought (q.h.map (n * ·)) (q.l.map (n * ·)) ((if n < 0 then -n else n) * q.m) (n * q.r)
    else brought (q.l.map (n * ·)) (q.h.map (n * ·)) ((if n < 0 then -n else n) * q.m) (n * q.r)
theorem mult_due {n : Int} {s : Option Q4} {S : List Int} (vs : Valid s) (ns : NearO s S) :
    Around (S.map (n * ·)) ((if n < 0 then hiO s else loO s) || decide (n = 0)) ((if n < 0 then loO s else hiO s) || decide (n = 0)) (multd n s) := by
  cases s with
  | none => cases (show S = [] from ns); rfl
  | some q =>
    have ns : NearP q S := ns
    have mm : ∀ x, x ∈ S.map (n * ·) ↔ ∃ a ∈ S, n * a = x := fun x => List.mem_map
    have ne : S.map (n * ·) ≠ [] := by simpa using ns.ne vs
    obtain ⟨x0, hx0⟩ := List.exists_mem_of_ne_nil _ (ns.ne vs)
    by_cases h0 : n = 0
    · subst h0
      simp only [multd, if_true, decide_true, Bool.or_true]
      have z : ∀ x ∈ S.map ((0 : Int) * ·), x = 0 := fun x hx => by
        obtain ⟨a, _, rfl⟩ := (mm x).mp hx
        exact Int.zero_mul a
      have m0 : (0 : Int) ∈ S.map ((0 : Int) * ·) := (mm 0).mpr ⟨x0, hx0, Int.zero_mul _⟩
      have : (some ⟨some 0, some 0, 0, 0⟩ : Option Q4) = brought (some 0) (some 0) 0 0 := (brought_single 0).symm
      rw [this]
      refine around_of ne (Int.le_refl 0) (fun d => ⟨fun _ x hx y hy => ?_, fun _ => Int.dvd_zero d⟩) (fun x hx => ?_) (.inl ⟨rfl, 0, ⟨m0, fun y hy => ?_⟩, rfl⟩) (.inl ⟨rfl, 0, ⟨m0, fun y hy => ?_⟩, rfl⟩)
      · rw [z x hx, z y hy]; exact Int.dvd_zero d
      · rw [z x hx]; exact Int.dvd_zero _
      · rw [z y hy]; exact Int.le_refl 0
      · rw [z y hy]; exact Int.le_refl 0
    · have ga : ∀ d, d ∣ (if n < 0 then -n else n) * q.m ↔ d ∣ n * q.m := fun d => by
        split
        · rw [Int.neg_mul]; exact Int.dvd_neg
        · exact Iff.rfl
      have gg : ∀ d, d ∣ (if n < 0 then -n else n) * q.m ↔ ∀ x ∈ S.map (n * ·), ∀ y ∈ S.map (n * ·), d ∣ x - y := fun d => by
        rw [ga]
        constructor
        · intro h x hx y hy
          obtain ⟨a, ha, rfl⟩ := (mm x).mp hx
          obtain ⟨b, hb, rfl⟩ := (mm y).mp hy
          have := (ns.spread q.m).mp (Int.dvd_refl _) a ha b hb
          have := Int.mul_dvd_mul_left n this
          rw [Int.mul_sub] at this
          exact Int.dvd_trans h this
        · intro h
          by_cases hm : q.m = 0
          · rw [hm, Int.mul_zero]; exact Int.dvd_zero d
          · obtain ⟨x, h1, h2⟩ := ns.two hm
            have := h _ ((mm _).mpr ⟨_, h2, rfl⟩) _ ((mm _).mpr ⟨_, h1, rfl⟩)
            rwa [← Int.mul_sub, show x + q.m - x = q.m by omega] at this
      have gr : ∀ x ∈ S.map (n * ·), (if n < 0 then -n else n) * q.m ∣ x - n * q.r := fun x hx => by
        obtain ⟨a, ha, rfl⟩ := (mm x).mp hx
        rw [← Int.mul_sub]
        have := Int.mul_dvd_mul_left n (has_dvd (ns.mem a ha))
        refine Int.dvd_trans ?_ this
        split
        · rw [Int.neg_mul]; exact Int.neg_dvd.mpr (Int.dvd_refl _)
        · exact Int.dvd_refl _
      have hm0 := vs.1
      by_cases hn : n < 0
      · have hmn : 0 ≤ (if n < 0 then -n else n) * q.m := by
          rw [if_pos hn]; exact Int.mul_nonneg (by omega) hm0
        have mono : ∀ a b : Int, a ≤ b → n * b ≤ n * a := fun a b h => Int.mul_le_mul_of_nonpos_left (by omega) h
        simp only [multd, if_neg h0, if_pos hn, decide_eq_false h0, Bool.or_false, hiO, loO]
        rw [if_pos hn] at hmn gg gr
        refine around_of ne hmn gg gr ?_ ?_
        · cases e : q.h with
          | none => exact .inr ⟨rfl, rfl⟩
          | some a =>
            obtain ⟨a1, a2⟩ := ns.most e
            refine .inl ⟨rfl, n * a, ⟨(mm _).mpr ⟨a, a1, rfl⟩, fun y hy => ?_⟩, rfl⟩
            obtain ⟨b, hb, rfl⟩ := (mm y).mp hy
            exact mono _ _ (a2 b hb)
        · cases e : q.l with
          | none => exact .inr ⟨rfl, rfl⟩
          | some a =>
            obtain ⟨a1, a2⟩ := ns.least e
            refine .inl ⟨rfl, n * a, ⟨(mm _).mpr ⟨a, a1, rfl⟩, fun y hy => ?_⟩, rfl⟩
            obtain ⟨b, hb, rfl⟩ := (mm y).mp hy
            exact mono _ _ (a2 b hb)
      · have hmn : 0 ≤ (if n < 0 then -n else n) * q.m := by
          rw [if_neg hn]; exact Int.mul_nonneg (by omega) hm0
        have mono : ∀ a b : Int, a ≤ b → n * a ≤ n * b := fun a b h => Int.mul_le_mul_of_nonneg_left h (by omega)
        simp only [multd, if_neg h0, if_neg hn, decide_eq_false h0, Bool.or_false, hiO, loO]
        rw [if_neg hn] at hmn gg gr
        refine around_of ne hmn gg gr ?_ ?_
        · cases e : q.l with
          | none => exact .inr ⟨rfl, rfl⟩
          | some a =>
            obtain ⟨a1, a2⟩ := ns.least e
            refine .inl ⟨rfl, n * a, ⟨(mm _).mpr ⟨a, a1, rfl⟩, fun y hy => ?_⟩, rfl⟩
            obtain ⟨b, hb, rfl⟩ := (mm y).mp hy
            exact mono _ _ (a2 b hb)
        · cases e : q.h with
          | none => exact .inr ⟨rfl, rfl⟩
          | some a =>
            obtain ⟨a1, a2⟩ := ns.most e
            refine .inl ⟨rfl, n * a, ⟨(mm _).mpr ⟨a, a1, rfl⟩, fun y hy => ?_⟩, rfl⟩
            obtain ⟨b, hb, rfl⟩ := (mm y).mp hy
            exact mono _ _ (a2 b hb)
end K11

set_option Elab.async false
set_option linter.all false
set_option maxRecDepth 100000
set_option maxHeartbeats 1000000
set_option autoImplicit false
/-! K11mb: what two strips have in common; a strip without one of its numbers. -/
namespace K11
open K10
def maxO : OI → OI → OI
  | none, o => o
  | some a, none => some a
  | some a, some b => some (if a < b then b else a)
def minO : OI → OI → OI
  | none, o => o
  | some a, none => some a
  | some a, some b => some (if b < a then b else a)
theorem maxO_comm (a b : OI) : maxO a b = maxO b a := by
  cases a <;> cases b <;> simp only [maxO]
  congr 1; split <;> split <;> omega
theorem minO_comm (a b : OI) : minO a b = minO b a := by
  cases a <;> cases b <;> simp only [minO]
  congr 1; split <;> split <;> omega
/-- least number that both divide -/
def lc (a b : Int) : Int := a / gc a b * b
theorem lc_dvd {a b d : Int} (ha : 0 < a) (hb : 0 < b) : lc a b ∣ d ↔ a ∣ d ∧ b ∣ d := by
  obtain ⟨A, rfl⟩ : ∃ A : Nat, a = (A : Int) := ⟨a.toNat, by omega⟩
  obtain ⟨B, rfl⟩ : ∃ B : Nat, b = (B : Int) := ⟨b.toNat, by omega⟩
  have e : lc (A : Int) (B : Int) = ((Nat.lcm A B : Nat) : Int) := by
    unfold lc gc
    simp only [Int.natAbs_natCast]
    have h1 : A / Nat.gcd A B * B = Nat.lcm A B := by
      unfold Nat.lcm
      rw [Nat.mul_comm A B, Nat.mul_div_assoc B (Nat.gcd_dvd_left A B), Nat.mul_comm]
    rw [← h1]
    simp
  rw [e, Int.ofNat_dvd_left, Int.ofNat_dvd_left, Int.ofNat_dvd_left]
  constructor
  · intro h
    exact ⟨Nat.dvd_trans (Nat.dvd_lcm_left A B) h, Nat.dvd_trans (Nat.dvd_lcm_right A B) h⟩
  · rintro ⟨h1, h2⟩
    exact Nat.lcm_dvd h1 h2
theorem gc_pos {a b : Int} (ha : 0 < a) : 0 < gc a b := by
  have h := gc_nn a b
  have : gc a b ≠ 0 := fun e => by
    have := (gc_dvd.mp (Int.dvd_refl (gc a b))).1
    rw [e] at this
    have := Int.zero_dvd.mp this
    omega
  omega
theorem lc_pos {a b : Int} (ha : 0 < a) (hb : 0 < b) : 0 < lc a b := by
  unfold lc
  have h := (gc_dvd.mp (Int.dvd_refl (gc a b))).1
  have hg := gc_pos (b := b) ha
  obtain ⟨k, hk⟩ := h
  have : a / gc a b = k := by
    rw [show a / gc a b = (gc a b * k) / gc a b by rw [← hk]]
    exact Int.mul_ediv_cancel_left k (by omega)
  rw [this]
  have hk0 : 0 < k := by
    rcases Int.lt_or_le 0 k with h | h
    · exact h
    · have := Int.mul_nonpos_of_nonneg_of_nonpos (Int.le_of_lt hg) h
      omega
  exact Int.mul_pos hk0 hb
theorem lc_comm {a b : Int} (ha : 0 < a) (hb : 0 < b) : lc a b = lc b a :=
  dvd_ext (Int.le_of_lt (lc_pos ha hb)) (Int.le_of_lt (lc_pos hb ha)) fun d => by
    have q1 := (lc_dvd ha hb (d := lc b a)).mpr (by
      obtain ⟨x, y⟩ := (lc_dvd hb ha).mp (Int.dvd_refl (lc b a)); exact ⟨y, x⟩)
    have q2 := (lc_dvd hb ha (d := lc a b)).mpr (by
      obtain ⟨x, y⟩ := (lc_dvd ha hb).mp (Int.dvd_refl (lc a b)); exact ⟨y, x⟩)
    have : lc a b = lc b a := Int.dvd_antisymm (Int.le_of_lt (lc_pos ha hb)) (Int.le_of_lt (lc_pos hb ha)) q1 q2
    rw [this]
def Both (q p : Q4) (x : Int) : Prop := q.m ∣ x - q.r ∧ p.m ∣ x - p.r
open Classical in
noncomputable def common : Option Q4 → Option Q4 → Option Q4
  | some q, some p =>
    if q.m = 0 then (if has (some p) q.r = true then some q else none)
    else if p.m = 0 then (if has (some q) p.r = true then some p else none)
    else if h : ∃ x, Both q p x then brought (maxO q.l p.l) (minO q.h p.h) (lc q.m p.m) (Classical.choose h) else none
  | _, _ => none
theorem common_at {q p : Q4} {x : Int} (h0 : 0 < q.m) (h1 : 0 < p.m) (b : Both q p x) : common (some q) (some p) = brought (maxO q.l p.l) (minO q.h p.h) (lc q.m p.m) x := by
  have h : ∃ x, Both q p x := ⟨x, b⟩
  simp only [common, if_neg (show ¬ q.m = 0 by omega), if_neg (show ¬ p.m = 0 by omega), dif_pos h]
  apply brought_congr
  obtain ⟨c1, c2⟩ := Classical.choose_spec h
  refine (lc_dvd h0 h1).mpr ⟨?_, ?_⟩
  · have := Int.dvd_sub c1 b.1
    rwa [show Classical.choose h - q.r - (x - q.r) = Classical.choose h - x by omega] at this
  · have := Int.dvd_sub c2 b.2
    rwa [show Classical.choose h - p.r - (x - p.r) = Classical.choose h - x by omega] at this
theorem common_no {q p : Q4} (h0 : 0 < q.m) (h1 : 0 < p.m) (b : ∀ x, ¬ Both q p x) : common (some q) (some p) = none := by
  have h : ¬ ∃ x, Both q p x := fun ⟨x, hx⟩ => b x hx
  simp only [common, if_neg (show ¬ q.m = 0 by omega), if_neg (show ¬ p.m = 0 by omega), dif_neg h]
theorem single {q : Q4} (v : Valid (some q)) (h : q.m = 0) : q = ⟨some q.r, some q.r, 0, q.r⟩ := by
  obtain ⟨l, g, m, r⟩ := q
  rcases valid_shape v with ⟨h1, h2, h3⟩ | ⟨h1, _⟩
  · simp only at h1 h2 h3 ⊢; subst h1 h2 h3; rfl
  · simp only at h h1; omega
theorem common_comm {s o : Option Q4} (vs : Valid s) (vo : Valid o) : common s o = common o s := by
  cases s with
  | none => cases o <;> rfl
  | some q =>
    cases o with
    | none => rfl
    | some p =>
      by_cases h0 : q.m = 0
      · by_cases h1 : p.m = 0
        · have e1 := single vs h0
          have e2 := single vo h1
          simp only [common, if_pos h0, if_pos h1]
          rw [e1, e2]
          by_cases e : q.r = p.r
          · rw [e]
          · rw [if_neg, if_neg]
            · rw [has_some]; rintro ⟨_, _, h⟩; simp only [if_true] at h; omega
            · rw [has_some]; rintro ⟨_, _, h⟩; simp only [if_true] at h; omega
        · simp only [common, if_pos h0, if_neg h1]
      · by_cases h1 : p.m = 0
        · simp only [common, if_neg h0, if_pos h1]
        · have p0 : 0 < q.m := by have := vs.1; omega
          have p1 : 0 < p.m := by have := vo.1; omega
          by_cases h : ∃ x, Both q p x
          · obtain ⟨x, hx⟩ := h
            rw [common_at p0 p1 hx, common_at p1 p0 ⟨hx.2, hx.1⟩, maxO_comm, minO_comm, lc_comm p0 p1]
          · rw [common_no p0 p1 fun x hx => h ⟨x, hx⟩, common_no p1 p0 fun x hx => h ⟨x, hx.2, hx.1⟩]
/-- the law's search: among so many turns of the coarse strip one lies in the fine one, if any does -/
theorem search {f c : Q4} {x : Int} (hf : 0 < f.m) (b : Both f c x) : ∃ k : Nat, (k : Int) < f.m ∧ f.m ∣ c.r + (k : Int) * c.m - f.r ∧ (f.m ∣ c.m → k = 0) := by
  obtain ⟨⟨u, hu⟩, ⟨t, ht⟩⟩ := b
  by_cases hd : f.m ∣ c.m
  · refine ⟨0, by simpa using hf, ?_, fun _ => rfl⟩
    have h1 : f.m ∣ x - f.r := ⟨u, hu⟩
    have h2 : f.m ∣ x - c.r := Int.dvd_trans hd ⟨t, ht⟩
    have := Int.dvd_sub h1 h2
    rwa [show x - f.r - (x - c.r) = c.r + ((0 : Nat) : Int) * c.m - f.r by simp; omega] at this
  · have e := emod_bd (x := t) hf
    refine ⟨(t % f.m).toNat, by omega, ?_, fun h => absurd h hd⟩
    rw [show (((t % f.m).toNat : Nat) : Int) = t % f.m by omega]
    have e2 := Int.mul_ediv_add_emod t f.m
    have h1 : f.m ∣ x - f.r := ⟨u, hu⟩
    have h2 : f.m ∣ f.m * (t / f.m) * c.m := ⟨t / f.m * c.m, by rw [Int.mul_assoc]⟩
    have := Int.dvd_sub h1 h2
    have e3 : t % f.m * c.m = c.m * t - f.m * (t / f.m) * c.m := by
      rw [show t % f.m = t - f.m * (t / f.m) by omega, Int.sub_mul, Int.mul_comm t]
    rwa [show x - f.r - f.m * (t / f.m) * c.m = c.r + t % f.m * c.m - f.r by omega] at this
/-! ### strips that cross -/
theorem pre_mod {t b L : Int} (hb : 0 < b) (hL : 0 < L) (d : b ∣ L) : t % b + (t - t % b) % L = t % L := by
  have e1 := emod_bd (x := t) hb
  have e2 := emod_bd (x := t) hL
  have e3 : t % L % b = t % b := Int.emod_emod_of_dvd t d
  have e4 : t % b ≤ t % L := by
    have h := Int.mul_ediv_add_emod (t % L) b
    have : 0 ≤ b * (t % L / b) := Int.mul_nonneg (by omega) (Int.ediv_nonneg e2.1 (by omega))
    omega
  have e5 : (t - t % b) % L = t % L - t % b := by
    have h1 : (t - t % b) % L = (t % L - t % b) % L := mod_congr (by
      rw [show t - t % b - (t % L - t % b) = t - t % L by omega]
      have := Int.mul_ediv_add_emod t L
      exact ⟨t / L, by omega⟩)
    rw [h1, Int.emod_eq_of_lt (by omega) (by omega)]
  omega
theorem brought_pre {A B n a b L : Int} (ha : 0 < a) (hb : 0 < b) (hL : 0 < L) (da : a ∣ L) (db : b ∣ L) :
    brought (some (A + (n - A) % b)) (some (B - (B - n) % a)) L n = brought (some A) (some B) L n := by
  have e1 : A + (n - A) % b + (n - (A + (n - A) % b)) % L = A + (n - A) % L := by
    have := pre_mod (t := n - A) hb hL db
    rw [show n - (A + (n - A) % b) = n - A - (n - A) % b by omega]; omega
  have e2 : B - (B - n) % a - (B - (B - n) % a - n) % L = B - (B - n) % L := by
    have := pre_mod (t := B - n) ha hL da
    rw [show B - (B - n) % a - n = B - n - (B - n) % a by omega]; omega
  unfold brought
  simp only [if_neg (show ¬ L = 0 by omega), Option.map_some, e1, e2]
theorem crossing {a b n F : Int} (ha : 0 < a) (hb : 0 < b) : common (brought none (some F) a n) (brought (some (-F)) none b n) = brought (some (-F)) (some F) (lc a b) n := by
  have e1 : brought none (some F) a n = some ⟨none, some (F - (F - n) % a), a, n % a⟩ := by
    unfold brought; simp only [if_neg (show ¬ a = 0 by omega), Option.map_none, Option.map_some]
  have e2 : brought (some (-F)) none b n = some ⟨some (-F + (n - -F) % b), none, b, n % b⟩ := by
    unfold brought; simp only [if_neg (show ¬ b = 0 by omega), Option.map_none, Option.map_some]
  rw [e1, e2]
  have m1 : ∀ a : Int, a ∣ n - n % a := fun a => by
    have := Int.mul_ediv_add_emod n a
    exact ⟨n / a, by omega⟩
  obtain ⟨d1, d2⟩ := (lc_dvd ha hb).mp (Int.dvd_refl (lc a b))
  rw [common_at (x := n) ha hb ⟨m1 a, m1 b⟩]
  simp only [maxO, minO]
  exact brought_pre ha hb (lc_pos ha hb) d1 d2
/-! ### without one -/
structure Near3 (q : Q4) (S : List Int) : Prop extends NearP q S where
  up : ∀ a, q.l = some a → ∀ k : Nat, k ≤ 3 → has (some q) (a + (k : Int) * q.m) = true → a + (k : Int) * q.m ∈ S
  dn : ∀ b, q.h = some b → ∀ k : Nat, k ≤ 3 → has (some q) (b - (k : Int) * q.m) = true → b - (k : Int) * q.m ∈ S
  mid : q.l = none → q.h = none → ∀ k : Int, -3 ≤ k → k ≤ 3 → q.r + k * q.m ∈ S
/-- what stays, around it: one, two, three numbers go one by one -/
def fold1 (ns : List Int) (f : Option Q4) : Option Q4 := ns.foldl (fun f x => around f (one x)) f
def without (n : Int) : Option Q4 → Option Q4
  | none => none
  | some q => if has (some q) n = true then
      (if q.m = 0 then none else
        match q.l, q.h with
        | some a, some b =>
          if (b - a) / q.m + 1 ≤ 3 then fold1 (((List.range ((b - a) / q.m + 1).toNat).map fun k : Nat => a + (k : Int) * q.m).filter (· ≠ n)) none
          else if n = a then brought (some (a + q.m)) (some b) q.m q.r else if n = b then brought (some a) (some (b - q.m)) q.m q.r else some q
        | some a, none => if n = a then brought (some (a + q.m)) none q.m q.r else some q
        | none, some b => if n = b then brought none (some (b - q.m)) q.m q.r else some q
        | none, none => some q)
    else some q
theorem around_one {x y : Int} (h : x < y) : around (one x) (one y) = brought (some x) (some y) (y - x) x := by
  simp only [around, one, o2]
  have : gc (gc 0 0) (if x - y < 0 then -(x - y) else x - y) = y - x := by
    rw [if_pos (by omega)]
    refine dvd_ext (gc_nn _ _) (by omega) fun d => ?_
    rw [gc_dvd, gc_dvd, show -(x - y) = y - x by omega]
    exact ⟨fun h => h.2, fun h => ⟨⟨Int.dvd_zero d, Int.dvd_zero d⟩, h⟩⟩
  rw [this, if_neg (by omega), if_pos (by omega)]
theorem pair_around {S : List Int} {x y : Int} (h : x < y) (hx : x ∈ S) (hy : y ∈ S) (all : ∀ z ∈ S, z = x ∨ z = y) : Around S true true (brought (some x) (some y) (y - x) x) := by
  refine around_of (List.ne_nil_of_mem hx) (by omega) (fun d => ⟨fun hd z hz w hw => ?_, fun hd => hd y hy x hx⟩) (fun z hz => ?_) (.inl ⟨rfl, x, ⟨hx, fun z hz => ?_⟩, rfl⟩) (.inl ⟨rfl, y, ⟨hy, fun z hz => ?_⟩, rfl⟩)
  · rcases all z hz with rfl | rfl <;> rcases all w hw with rfl | rfl
    · rw [Int.sub_self]; exact Int.dvd_zero d
    · exact dvd_sub_swap hd
    · exact hd
    · rw [Int.sub_self]; exact Int.dvd_zero d
  · rcases all z hz with rfl | rfl
    · rw [Int.sub_self]; exact Int.dvd_zero _
    · exact Int.dvd_refl _
  · rcases all z hz with rfl | rfl <;> omega
  · rcases all z hz with rfl | rfl <;> omega
theorem sole_around {S : List Int} {x : Int} (hx : x ∈ S) (all : ∀ z ∈ S, z = x) : Around S true true (one x) := by
  rw [← one_brought]
  refine around_of (List.ne_nil_of_mem hx) (by omega) (fun d => ⟨fun hd z hz w hw => ?_, fun hd => Int.dvd_zero d⟩) (fun z hz => ?_) (.inl ⟨rfl, x, ⟨hx, fun z hz => ?_⟩, rfl⟩) (.inl ⟨rfl, x, ⟨hx, fun z hz => ?_⟩, rfl⟩)
  · rw [all z hz, all w hw, Int.sub_self]; exact Int.dvd_zero d
  · rw [all z hz, Int.sub_self]; exact Int.dvd_zero _
  · rw [all z hz]; exact Int.le_refl _
  · rw [all z hz]; exact Int.le_refl _
end K11

set_option Elab.async false
set_option linter.all false
set_option maxRecDepth 100000
set_option maxHeartbeats 1000000
set_option autoImplicit false
/-! K11mc: a strip without one of its numbers, as the law reckons it. -/
namespace K11
open K10
theorem aroundW {q : Q4} {F : List Int} {lo hi : Bool} {L H : OI} (hm : 0 < q.m) (mem : ∀ x ∈ F, has (some q) x = true) (two : ∃ x, x ∈ F ∧ x + q.m ∈ F)
    (hl : (lo = true ∧ ∃ a, Least F a ∧ L = some a) ∨ (lo = false ∧ L = none)) (hh : (hi = true ∧ ∃ a, Most F a ∧ H = some a) ∨ (hi = false ∧ H = none)) : Around F lo hi (brought L H q.m q.r) := by
  obtain ⟨x0, h1, h2⟩ := two
  refine around_of (List.ne_nil_of_mem h1) (by omega) (fun d => ⟨fun h x hx y hy => ?_, fun h => ?_⟩) (fun x hx => has_dvd (mem x hx)) hl hh
  · have := Int.dvd_sub (Int.dvd_trans h (has_dvd (mem x hx))) (Int.dvd_trans h (has_dvd (mem y hy)))
    rwa [show x - q.r - (y - q.r) = x - y by omega] at this
  · have := h _ h2 _ h1
    rwa [show x0 + q.m - x0 = q.m by omega] at this
/-- numbers a modulus apart at least -/
theorem apart {q : Q4} {x y : Int} (hx : has (some q) x = true) (hy : has (some q) y = true) (h : x < y) : x + q.m ≤ y := by
  have := Int.dvd_sub (has_dvd hy) (has_dvd hx)
  have := Int.le_of_dvd (by omega) this
  omega
theorem without_due {n : Int} {q : Q4} {S : List Int} (v : Valid (some q)) (ns : Near3 q S) (hn : has (some q) n = true) : Around (S.filter (· ≠ n)) q.l.isSome q.h.isSome (without n (some q)) := by
  have fm : ∀ x, x ∈ S.filter (· ≠ n) ↔ x ∈ S ∧ x ≠ n := fun x => by simp [List.mem_filter]
  simp only [without, if_pos hn]
  by_cases h0 : q.m = 0
  · have e := single v h0
    have rn : ∀ x, has (some q) x = true → x = q.r := fun x hx => by
      have := (has_some.mp hx).2.2
      rwa [if_pos h0] at this
    have : S.filter (· ≠ n) = [] := List.filter_eq_nil_iff.mpr fun x hx => by
      have := rn x (ns.mem x hx)
      have := rn n hn
      simp; omega
    rw [this, if_pos h0]
    rfl
  · rw [if_neg h0]
    have hm : 0 < q.m := by have := v.1; omega
    have memF : ∀ x ∈ S.filter (· ≠ n), has (some q) x = true := fun x hx => ns.mem x ((fm x).mp hx).1
    rcases valid_shape v with ⟨h, _⟩ | ⟨_, r0, r1, hl, hh, hlh⟩
    · omega
    · have dl : ∀ a, q.l = some a → q.m ∣ a - q.r := fun a ha => dvd_sub_swap (Int.dvd_of_emod_eq_zero (hl a ha))
      have dh : ∀ b, q.h = some b → q.m ∣ b - q.r := fun b hb => Int.dvd_of_emod_eq_zero (hh b hb)
      have hasU : ∀ a, q.l = some a → ∀ k : Nat, (∀ b, q.h = some b → a + (k : Int) * q.m ≤ b) → has (some q) (a + (k : Int) * q.m) = true := fun a ha k hb => by
        rw [has_some, if_neg h0]
        refine ⟨fun x hx => ?_, hb, ?_⟩
        · rw [ha] at hx; cases hx
          have := Int.mul_nonneg (Int.natCast_nonneg k) (Int.le_of_lt hm)
          omega
        · have := Int.dvd_add (dl a ha) (Int.dvd_mul_left (k : Int) q.m)
          rwa [show a - q.r + (k : Int) * q.m = a + (k : Int) * q.m - q.r by omega] at this
      have hasD : ∀ b, q.h = some b → ∀ k : Nat, (∀ a, q.l = some a → a ≤ b - (k : Int) * q.m) → has (some q) (b - (k : Int) * q.m) = true := fun b hb k ha => by
        rw [has_some, if_neg h0]
        refine ⟨ha, fun x hx => ?_, ?_⟩
        · rw [hb] at hx; cases hx
          have := Int.mul_nonneg (Int.natCast_nonneg k) (Int.le_of_lt hm)
          omega
        · have := Int.dvd_sub (dh b hb) (Int.dvd_mul_left (k : Int) q.m)
          rwa [show b - q.r - (k : Int) * q.m = b - (k : Int) * q.m - q.r by omega] at this
      have bn := has_some.mp hn
      cases el : q.l with
      | some a =>
        have lea : ∀ x ∈ S, a ≤ x := fun x hx => (has_some.mp (ns.mem x hx)).1 a el
        have up : ∀ k : Nat, k ≤ 3 → (∀ b, q.h = some b → a + (k : Int) * q.m ≤ b) → a + (k : Int) * q.m ∈ S := fun k hk hb => ns.up a el k hk (hasU a el k hb)
        have hasA : has (some q) a = true := ns.mem a (ns.lo a el)
        cases eh : q.h with
        | some b =>
          have leb : ∀ x ∈ S, x ≤ b := fun x hx => (has_some.mp (ns.mem x hx)).2.1 b eh
          have hasB : has (some q) b = true := ns.mem b (ns.hi b eh)
          have upb : ∀ k : Nat, k ≤ 3 → a + (k : Int) * q.m ≤ b → a + (k : Int) * q.m ∈ S := fun k hk hb => up k hk fun c hc => by rw [eh] at hc; cases hc; exact hb
          simp only
          have lt := hlh a el b eh
          obtain ⟨j, hj⟩ : q.m ∣ b - a := by
            have := Int.dvd_sub (dh b eh) (dl a el)
            rwa [show b - q.r - (a - q.r) = b - a by omega] at this
          have ej : (b - a) / q.m = j := by rw [hj]; exact Int.mul_ediv_cancel_left j h0
          have j0 : 0 < j := by
            rcases Int.lt_or_le 0 j with h | h
            · exact h
            · have := Int.mul_nonpos_of_nonneg_of_nonpos (Int.le_of_lt hm) h
              omega
          rw [ej]
          obtain ⟨i, hi⟩ : q.m ∣ n - a := by
            have := Int.dvd_sub (has_dvd hn) (dl a el)
            rwa [show n - q.r - (a - q.r) = n - a by omega] at this
          have na := bn.1 a el
          have nb := bn.2.1 b eh
          by_cases hk : j + 1 ≤ 3
          · rw [if_pos hk]
            have all : ∀ x, has (some q) x = true → x = a ∨ x = a + q.m ∨ (x = a + q.m + q.m ∧ j = 2) := fun x hx => by
              have h1 := (has_some.mp hx).1 a el
              have h2 := (has_some.mp hx).2.1 b eh
              by_cases e1 : x = a
              · exact .inl e1
              · have h3 := apart hasA hx (by omega)
                by_cases e2 : x = a + q.m
                · exact .inr (.inl e2)
                · rcases (by omega : j = 1 ∨ j = 2) with rfl | rfl
                  · omega
                  · have u1 := upb 1 (by omega) (by simp; omega)
                    have h4 := apart (ns.mem _ u1) hx (by simp; omega)
                    simp at h4
                    exact .inr (.inr ⟨by omega, rfl⟩)
            have a0 : a ∈ S := ns.lo a el
            have a1 : a + q.m ∈ S := by
              have := upb 1 (by omega) (by simp; have := apart hasA hasB lt; omega)
              simpa using this
            rcases (by omega : j = 1 ∨ j = 2) with rfl | rfl
            · have e2 : ((1 : Int) + 1).toNat = 2 := rfl
              rw [e2]
              have er : ((List.range 2).map fun k : Nat => a + (k : Int) * q.m) = [a, a + q.m] := by
                simp [List.range_succ]
              rw [er]
              rcases all n hn with rfl | rfl | ⟨_, h⟩
              · have : ([n, n + q.m].filter (· ≠ n)) = [n + q.m] := by
                  have h1 : (decide (n + q.m ≠ n)) = true := by simp; omega
                  have h2 : (decide (n ≠ n)) = false := by simp
                  simp only [List.filter, h1, h2]
                rw [this]
                refine sole_around (x := n + q.m) ((fm _).mpr ⟨a1, by omega⟩) fun z hz => ?_
                obtain ⟨z1, z2⟩ := (fm z).mp hz
                rcases all z (ns.mem z z1) with h | h | ⟨_, h⟩ <;> omega
              · have : ([a, a + q.m].filter (· ≠ a + q.m)) = [a] := by
                  have h1 : (decide (a ≠ a + q.m)) = true := by simp; omega
                  have h2 : (decide (a + q.m ≠ a + q.m)) = false := by simp
                  simp only [List.filter, h1, h2]
                rw [this]
                refine sole_around (x := a) ((fm _).mpr ⟨a0, by omega⟩) fun z hz => ?_
                obtain ⟨z1, z2⟩ := (fm z).mp hz
                rcases all z (ns.mem z z1) with h | h | ⟨_, h⟩ <;> omega
              · omega
            · have e2 : ((2 : Int) + 1).toNat = 3 := rfl
              rw [e2]
              have er : ((List.range 3).map fun k : Nat => a + (k : Int) * q.m) = [a, a + q.m, a + q.m + q.m] := by
                simp [List.range_succ]; omega
              rw [er]
              have a2 : a + q.m + q.m ∈ S := by
                have := upb 2 (by omega) (by simp; omega)
                rwa [show a + ((2 : Nat) : Int) * q.m = a + q.m + q.m by omega] at this
              have tt : ∀ x y : Int, x ≠ y → decide (x ≠ y) = true := fun x y h => by simpa using h
              have ff : ∀ x : Int, decide (x ≠ x) = false := fun x => by simp
              rcases all n hn with rfl | rfl | ⟨rfl, _⟩
              · have : ([n, n + q.m, n + q.m + q.m].filter (· ≠ n)) = [n + q.m, n + q.m + q.m] := by
                  simp only [List.filter, ff, tt (n + q.m) n (by omega), tt (n + q.m + q.m) n (by omega)]
                rw [this]
                show Around _ true true (around (one _) (one _))
                rw [around_one (by omega)]
                refine pair_around (by omega) ((fm _).mpr ⟨a1, by omega⟩) ((fm _).mpr ⟨a2, by omega⟩) fun z hz => ?_
                obtain ⟨z1, z2⟩ := (fm z).mp hz
                rcases all z (ns.mem z z1) with h | h | ⟨h, _⟩ <;> omega
              · have : ([a, a + q.m, a + q.m + q.m].filter (· ≠ a + q.m)) = [a, a + q.m + q.m] := by
                  simp only [List.filter, ff, tt a (a + q.m) (by omega), tt (a + q.m + q.m) (a + q.m) (by omega)]
                rw [this]
                show Around _ true true (around (one _) (one _))
                rw [around_one (by omega)]
                refine pair_around (by omega) ((fm _).mpr ⟨a0, by omega⟩) ((fm _).mpr ⟨a2, by omega⟩) fun z hz => ?_
                obtain ⟨z1, z2⟩ := (fm z).mp hz
                rcases all z (ns.mem z z1) with h | h | ⟨h, _⟩ <;> omega
              · have : ([a, a + q.m, a + q.m + q.m].filter (· ≠ a + q.m + q.m)) = [a, a + q.m] := by
                  simp only [List.filter, ff, tt a (a + q.m + q.m) (by omega), tt (a + q.m) (a + q.m + q.m) (by omega)]
                rw [this]
                show Around _ true true (around (one _) (one _))
                rw [around_one (by omega)]
                refine pair_around (by omega) ((fm _).mpr ⟨a0, by omega⟩) ((fm _).mpr ⟨a1, by omega⟩) fun z hz => ?_
                obtain ⟨z1, z2⟩ := (fm z).mp hz
                rcases all z (ns.mem z z1) with h | h | ⟨h, _⟩ <;> omega
          · rw [if_neg hk]
            have b3 : a + 3 * q.m ≤ b := by
              have := Int.mul_le_mul_of_nonneg_left (show (3 : Int) ≤ j by omega) (Int.le_of_lt hm)
              omega
            have s0 : a ∈ S := ns.lo a el
            have s1 : a + q.m ∈ S := by have := upb 1 (by omega) (by simp; omega); simpa using this
            have s2 : a + 2 * q.m ∈ S := upb 2 (by omega) (by simp; omega)
            have s3 : a + 3 * q.m ∈ S := upb 3 (by omega) (by simp; omega)
            have sb : b ∈ S := ns.hi b eh
            have sb1 : b - q.m ∈ S := by
              have := ns.dn b eh 1 (by omega) (hasD b eh 1 fun c hc => by rw [el] at hc; cases hc; simp; omega)
              simpa using this
            by_cases e1 : n = a
            · rw [if_pos e1]
              subst e1
              refine aroundW hm memF ⟨n + q.m, (fm _).mpr ⟨s1, by omega⟩, (fm _).mpr ⟨by rwa [show n + q.m + q.m = n + 2 * q.m by omega], by omega⟩⟩ (.inl ⟨rfl, _, ⟨(fm _).mpr ⟨s1, by omega⟩, fun y hy => ?_⟩, rfl⟩) (.inl ⟨rfl, b, ⟨(fm _).mpr ⟨sb, by omega⟩, fun y hy => leb y ((fm y).mp hy).1⟩, rfl⟩)
              obtain ⟨y1, y2⟩ := (fm y).mp hy
              have := lea y y1
              exact apart hn (ns.mem y y1) (by omega)
            · rw [if_neg e1]
              by_cases e2 : n = b
              · rw [if_pos e2]
                subst e2
                refine aroundW hm memF ⟨a, (fm _).mpr ⟨s0, by omega⟩, (fm _).mpr ⟨s1, by omega⟩⟩ (.inl ⟨rfl, a, ⟨(fm _).mpr ⟨s0, by omega⟩, fun y hy => lea y ((fm y).mp hy).1⟩, rfl⟩) (.inl ⟨rfl, _, ⟨(fm _).mpr ⟨sb1, by omega⟩, fun y hy => ?_⟩, rfl⟩)
                obtain ⟨y1, y2⟩ := (fm y).mp hy
                have := leb y y1
                have := apart (ns.mem y y1) hn (by omega)
                omega
              · rw [if_neg e2]
                have ev : some q = brought (some a) (some b) q.m q.r := by rw [← el, ← eh]; exact v.2.symm
                rw [ev]
                refine aroundW hm memF ?_ (.inl ⟨rfl, a, ⟨(fm _).mpr ⟨s0, by omega⟩, fun y hy => lea y ((fm y).mp hy).1⟩, rfl⟩) (.inl ⟨rfl, b, ⟨(fm _).mpr ⟨sb, by omega⟩, fun y hy => leb y ((fm y).mp hy).1⟩, rfl⟩)
                by_cases e3 : n = a + q.m
                · exact ⟨a + 2 * q.m, (fm _).mpr ⟨s2, by omega⟩, (fm _).mpr ⟨by rwa [show a + 2 * q.m + q.m = a + 3 * q.m by omega], by omega⟩⟩
                · exact ⟨a, (fm _).mpr ⟨s0, by omega⟩, (fm _).mpr ⟨s1, by omega⟩⟩
        | none =>
          have upb : ∀ k : Nat, k ≤ 3 → a + (k : Int) * q.m ∈ S := fun k hk => up k hk fun c hc => by rw [eh] at hc; cases hc
          simp only
          have s0 : a ∈ S := ns.lo a el
          have s1 : a + q.m ∈ S := by have := upb 1 (by omega); simpa using this
          have s2 : a + 2 * q.m ∈ S := upb 2 (by omega)
          have s3 : a + 3 * q.m ∈ S := upb 3 (by omega)
          by_cases e1 : n = a
          · rw [if_pos e1]
            subst e1
            refine aroundW hm memF ⟨n + q.m, (fm _).mpr ⟨s1, by omega⟩, (fm _).mpr ⟨by rwa [show n + q.m + q.m = n + 2 * q.m by omega], by omega⟩⟩ (.inl ⟨rfl, _, ⟨(fm _).mpr ⟨s1, by omega⟩, fun y hy => ?_⟩, rfl⟩) (.inr ⟨rfl, rfl⟩)
            obtain ⟨y1, y2⟩ := (fm y).mp hy
            have := lea y y1
            exact apart hn (ns.mem y y1) (by omega)
          · rw [if_neg e1]
            have ev : some q = brought (some a) none q.m q.r := by rw [← el, ← eh]; exact v.2.symm
            rw [ev]
            refine aroundW hm memF ?_ (.inl ⟨rfl, a, ⟨(fm _).mpr ⟨s0, by omega⟩, fun y hy => lea y ((fm y).mp hy).1⟩, rfl⟩) (.inr ⟨rfl, rfl⟩)
            by_cases e3 : n = a + q.m
            · exact ⟨a + 2 * q.m, (fm _).mpr ⟨s2, by omega⟩, (fm _).mpr ⟨by rwa [show a + 2 * q.m + q.m = a + 3 * q.m by omega], by omega⟩⟩
            · exact ⟨a, (fm _).mpr ⟨s0, by omega⟩, (fm _).mpr ⟨s1, by omega⟩⟩
      | none =>
        cases eh : q.h with
        | some b =>
          have leb : ∀ x ∈ S, x ≤ b := fun x hx => (has_some.mp (ns.mem x hx)).2.1 b eh
          have dn : ∀ k : Nat, k ≤ 3 → b - (k : Int) * q.m ∈ S := fun k hk => ns.dn b eh k hk (hasD b eh k fun c hc => by rw [el] at hc; cases hc)
          simp only
          have s0 : b ∈ S := ns.hi b eh
          have s1 : b - q.m ∈ S := by have := dn 1 (by omega); simpa using this
          have s2 : b - 2 * q.m ∈ S := dn 2 (by omega)
          have s3 : b - 3 * q.m ∈ S := dn 3 (by omega)
          by_cases e1 : n = b
          · rw [if_pos e1]
            subst e1
            refine aroundW hm memF ⟨n - 2 * q.m, (fm _).mpr ⟨s2, by omega⟩, (fm _).mpr ⟨by rwa [show n - 2 * q.m + q.m = n - q.m by omega], by omega⟩⟩ (.inr ⟨rfl, rfl⟩) (.inl ⟨rfl, _, ⟨(fm _).mpr ⟨s1, by omega⟩, fun y hy => ?_⟩, rfl⟩)
            obtain ⟨y1, y2⟩ := (fm y).mp hy
            have := leb y y1
            have := apart (ns.mem y y1) hn (by omega)
            omega
          · rw [if_neg e1]
            have ev : some q = brought none (some b) q.m q.r := by rw [← el, ← eh]; exact v.2.symm
            rw [ev]
            refine aroundW hm memF ?_ (.inr ⟨rfl, rfl⟩) (.inl ⟨rfl, b, ⟨(fm _).mpr ⟨s0, by omega⟩, fun y hy => leb y ((fm y).mp hy).1⟩, rfl⟩)
            by_cases e3 : n = b - q.m
            · exact ⟨b - 3 * q.m, (fm _).mpr ⟨s3, by omega⟩, (fm _).mpr ⟨by rwa [show b - 3 * q.m + q.m = b - 2 * q.m by omega], by omega⟩⟩
            · exact ⟨b - q.m, (fm _).mpr ⟨s1, by omega⟩, (fm _).mpr ⟨by rwa [show b - q.m + q.m = b by omega], by omega⟩⟩
        | none =>
          simp only
          have ev : some q = brought none none q.m q.r := by
            have := v.2
            rw [el, eh] at this
            exact this.symm
          rw [ev]
          have md := ns.mid el eh
          refine aroundW hm memF ?_ (.inr ⟨rfl, rfl⟩) (.inr ⟨rfl, rfl⟩)
          have s0 : q.r ∈ S := by have := md 0 (by omega) (by omega); simpa using this
          have s1 : q.r + q.m ∈ S := by have := md 1 (by omega) (by omega); simpa using this
          have s2 : q.r + 2 * q.m ∈ S := md 2 (by omega) (by omega)
          have s3 : q.r + 3 * q.m ∈ S := md 3 (by omega) (by omega)
          by_cases e3 : n = q.r ∨ n = q.r + q.m
          · exact ⟨q.r + 2 * q.m, (fm _).mpr ⟨s2, by omega⟩, (fm _).mpr ⟨by rwa [show q.r + 2 * q.m + q.m = q.r + 3 * q.m by omega], by omega⟩⟩
          · exact ⟨q.r, (fm _).mpr ⟨s0, by omega⟩, (fm _).mpr ⟨s1, by omega⟩⟩
end K11

set_option Elab.async false
set_option linter.all false
set_option maxRecDepth 100000
set_option maxHeartbeats 1000000
set_option autoImplicit false
/-! DL11: truth of any datum; or, and by truth. -/
namespace DL
open PySem PySem.Spec L2
/-- a datum's truth -/
def truD : Dt → Option Bool
  | .non => some false
  | .bl b => some b
  | .int i => some (i != 0)
  | .str s => if s.length ≤ 1000000 then some ((s.length : Int) != 0) else none
  | .tup xs => some (!xs.isEmpty)
  | .lst xs => some (!xs.isEmpty)
  | .strm => none
theorem truD_bl {b : Bool} : truD (.bl b) = some b := rfl
theorem truD_non : truD .non = some false := rfl
theorem truD_int {i : Int} : truD (.int i) = some (i != 0) := rfl
theorem truD_tup {xs : List Dt} : truD (.tup xs) = some (!xs.isEmpty) := rfl
theorem truD_lst {xs : List Dt} : truD (.lst xs) = some (!xs.isEmpty) := rfl
theorem tru_of {K : PySem.W.Frag} {W : Wd} {ρ : En} {H : Hp} {d : Dt} {v : V} {b : Bool} (e : truD d = some b) (r : Rp W.sa (vw W ρ H) d v) : TruV K v H b := by
  cases d with
  | non => simp only [Rp] at r; subst r; cases e; exact rfl
  | bl c => simp only [Rp] at r; subst r; cases e; exact rfl
  | int i => simp only [Rp] at r; subst r; cases e; exact rfl
  | str s =>
    simp only [Rp] at r; subst r
    simp only [truD] at e
    split at e
    · rename_i h; cases e
      refine ⟨?_, rfl⟩
      rw [sizeLine_eq]; omega
    · cases e
  | tup xs =>
    simp only [Rp] at r
    obtain ⟨a, vs, rfl, g, q⟩ := r
    cases e
    refine .inr (.inl ⟨vs, SqT.of (vw_sub _ _ g), ?_⟩)
    have := q.length
    cases vs <;> cases xs <;> first | rfl | (simp at this)
  | lst xs =>
    simp only [Rp] at r
    obtain ⟨a, vs, rfl, g, q⟩ := r
    cases e
    refine .inl ⟨vs, SqL.of (vw_sub _ _ g), ?_⟩
    have := q.length
    cases vs <;> cases xs <;> first | rfl | (simp at this)
  | strm => cases e
def mTru (m : ME) : MT := fun ρ Q => m ρ fun d ρ1 => match truD d with
  | some b => Q b ρ1
  | none => False
theorem simTru {K : PySem.W.Frag} {t : TE} {m : ME} (h : SimE t m) : SimT (fun σ H Q => t σ H fun x H' => ∃ k, TruV K x H' k ∧ Q k H') (mTru m) where
  mono := fun ρ Q Q' q => h.mono _ _ _ fun d ρ1 => by
    split
    · exact q _ _
    · exact id
  run := fun W ρ σ H R D z => h.run W ρ σ H _ D (h.mono _ _ _ (fun d ρ1 q v H' D' S r => by
    split at q
    · rename_i b e
      exact ⟨b, tru_of e r, q H' D' S⟩
    · exact q.elim) z)
section
variable {X : Cx} {K : PySem.W.Frag} {a b : Expr} {es : List Expr} {pos : Pos} {ta tb : TE} {ma mb : ME}
theorem kt_val (hK : X.K = K) (h : DE X a ta ma) (he : ∀ whole, isTrue a X.env whole = (do let v ← whole; standAt a.pos; holding [v] (truthy v)) := by exact fun _ => rfl) : DT X a (fun σ H Q => ta σ H fun x H' => ∃ k, TruV K x H' k ∧ Q k H') (mTru ma) := by
  subst hK; exact ⟨pt_truth h.pe he, simTru h.sim⟩
def mOrT (ma mb : ME) : ME := fun ρ Q => ma ρ fun x ρ1 => match truD x with
  | some b => if b = true then Q x ρ1 else mb ρ1 Q
  | none => False
def mAndT (ma mb : ME) : ME := fun ρ Q => ma ρ fun x ρ1 => match truD x with
  | some b => if b = true then mb ρ1 Q else Q x ρ1
  | none => False
theorem simOrT (h : SimE ta ma) (h' : SimE tb mb) : SimE (tOrT K ta tb) (mOrT ma mb) where
  mono := fun ρ Q Q' q => h.mono _ _ _ fun c ρ1 z => by
    revert z
    cases truD c with
    | none => exact id
    | some b =>
      cases b
      · exact fun z => h'.mono _ _ _ q z
      · exact fun z => q _ _ z
  run := fun W ρ σ H R D z => h.run W ρ σ H _ D (h.mono _ _ _ (fun d ρ1 q v H' D' S r => by
    split at q
    · rename_i b e
      refine ⟨b, tru_of e r, ?_⟩
      cases b
      · exact h'.run W ρ1 σ H' R D' (h'.mono _ _ _ (fun d2 ρ2 q v2 H2 D2 S2 r2 => q v2 H2 D2 (S.trans S2) r2) q)
      · exact q v H' D' S r
    · exact q.elim) z)
theorem simAndT (h : SimE ta ma) (h' : SimE tb mb) : SimE (tAndT K ta tb) (mAndT ma mb) where
  mono := fun ρ Q Q' q => h.mono _ _ _ fun c ρ1 z => by
    revert z
    cases truD c with
    | none => exact id
    | some b =>
      cases b
      · exact fun z => q _ _ z
      · exact fun z => h'.mono _ _ _ q z
  run := fun W ρ σ H R D z => h.run W ρ σ H _ D (h.mono _ _ _ (fun d ρ1 q v H' D' S r => by
    split at q
    · rename_i b e
      refine ⟨b, tru_of e r, ?_⟩
      cases b
      · exact q v H' D' S r
      · exact h'.run W ρ1 σ H' R D' (h'.mono _ _ _ (fun d2 ρ2 q v2 H2 D2 S2 r2 => q v2 H2 D2 (S.trans S2) r2) q)
    · exact q.elim) z)
theorem ke_or (hK : X.K = K) (ha : DE X a ta ma) (hb : DE X (.BoolOp .Or (b :: es) pos) tb mb) : DE X (.BoolOp .Or (a :: b :: es) pos) (tOrT K ta tb) (mOrT ma mb) := by
  subst hK; exact ⟨pe_orT ha.pe hb.pe, simOrT ha.sim hb.sim⟩
theorem ke_and (hK : X.K = K) (ha : DE X a ta ma) (hb : DE X (.BoolOp .And (b :: es) pos) tb mb) : DE X (.BoolOp .And (a :: b :: es) pos) (tAndT K ta tb) (mAndT ma mb) := by
  subst hK; exact ⟨pe_andT ha.pe hb.pe, simAndT ha.sim hb.sim⟩
end
end DL

set_option Elab.async false
set_option linter.all false
set_option maxRecDepth 100000
set_option maxHeartbeats 1000000
set_option autoImplicit false
namespace K11
open K10 PySem PySem.Spec L2 DL
theorem mVar_app {i n : Nat} {y : SV} {sl : List SV} {Q : Dt → En → Prop} : mVar i ⟨n, y :: sl⟩ Q = (match (y :: sl)[i]? with
    | some (.d x) => Q x ⟨n, y :: sl⟩
    | some (.own a xs) => Q (.lst xs) ⟨n, (y :: sl).set i (.d (.lst xs))⟩
    | _ => False) := rfl
theorem oAdd_ii {i j : Int} {k : Dt → Prop} : oAdd (.int i) (.int j) k = k (.int (i + j)) := rfl
theorem oAdd_ll {xs ys : List Dt} {k : Dt → Prop} : oAdd (.lst xs) (.lst ys) k = (xs.length + ys.length ≤ sizeLine ∧ k (.lst (xs ++ ys))) := rfl
theorem oMul_ii {i j : Int} {k : Dt → Prop} : oMul (.int i) (.int j) k = (CMulW i j ∧ k (.int (i * j))) := rfl
theorem oMul_li {xs : List Dt} {j : Int} {k : Dt → Prop} : oMul (.lst xs) (.int j) k = ((0 ≤ j ∧ j < 2 ^ 63 ∧ xs.length * j.toNat ≤ sizeLine) ∧ k (.lst (List.replicate j.toNat xs).flatten)) := rfl
local macro_rules | `(tactic| walk_at "rd") => `(tactic| try simp only [mPar, cMaxL, cMinL, c2, cMax2, cMin2, cGcd, insOf_map, wipeE, List.foldr_cons, List.foldr_nil, gS, mSeq, mIfS, mRet, mRetN, mAsg, gmName, mVar_app, mC, mOp, mUn, uIsi, mB, mTNot, mTAnd, mTOr, mAnd, mOr, uNot, mIf, mNil, mCons, mTup, mLst, mCB, mCall, mCallKw, mNext, mNever, mDrop, mFor, miSeq, miZip, miRng1, miRng2, mComp, mData, mApp, mExt, mOwn, mFLst, mFCat, mFCopy, mOwnIx, mOwnLen, mOwnIn, mTYes, drawS, cAll, cAny, cList, deq_bl, owns, ownOf, loopD, gmNil, gmCons, gmTup, gmSeq, seqOf_lst, seqOf_tup, seqOf_non, seqOf_int, seqOf_bl, seqOf_str, seqOf_strm, cLen, cTuple, cInt, cAbs, oAdd_ii, oAdd_ll, oSub, oMul_ii, oMul_li, oFdiv, oMod, oPow, oI, oI0, uI, uNeg, oLt, oLe, oGt, oGe, oIsN, oNotN, isNon_lst, isNon_tup, isNon_non, isNon_int, isNon_bl, isNon_str, isNon_strm, oEq, oNe, oIx, atI_0, atI_1, atI_2, atI_3, atI_4, DL.atI_last, En.put, start0, tyD_lst, tyD_tup, tyD_non, tyD_int, tyD_bl, tyD_str, tyD_strm, isiT, deq_int, List.any_cons, List.any_nil, List.map_cons, List.map_nil, List.length_cons, List.length_nil, List.cons_append, List.nil_append, List.getElem?_cons_zero, List.getElem?_cons_succ, List.set_cons_zero, List.set_cons_succ, Bool.or_false, Bool.false_or, Bool.not_true, Bool.not_false, if_true, if_false, Bool.false_eq_true, List.reduceReplicate, Nat.reduceSub, Nat.reduceAdd, decide_eq_true_eq, Bool.not_eq_true', decide_eq_false_iff_not, fineD, true_and, and_true, and_self, sizeLine_eq, Nat.reduceLeDiff, not_true_eq_false, not_false_eq_true, beq_self_eq_true, Bool.not_eq_false, Bool.not_eq_true, reduceIte, Bool.true_eq_false, Nat.reduceEqDiff, ne_eq])
section
variable {k : Nat} {P : Program} {w : World} {K : PySem.W.Frag} {mg : Str → Option Value} {base : Heap} {f : Addr} {fd : FuncData}
def g_one_of : List Dt → Option Dt
  | [.int n] => some (sD (some ⟨some n, some n, 0, n⟩))
  | _ => none
abbrev s_one_of : Stmt := top 11
theorem sc_one_of : FnScope ["n"] ["n"] (defScope s_one_of) := ⟨rfl, rfl, rfl, by decide +kernel, rfl, by decide +kernel, by decide +kernel⟩
theorem c_one_of (T : Txt mg)  (F : Fun K "one_of" "one_of" s_one_of f fd) (hm : mg "one_of" = some (.ref f)) (hb : Binds K fd ["n"] []) : Cal P w K mg base 1 "one_of" ["n"] (gS 1 g_one_of) f fd := by
  refine fnD F hm hb sc_one_of gS_mono (fun ds n Q h => h.1) (fun cdv A outer s H E hr => ⟨_, (dss_one (ds_ret (de_tup (da_cons (dv 0) (da_cons (dv 0) (da_cons de_int (da_cons (dv 0) da_nil)))))))⟩) (fun ds n Q h => ?_)
  obtain ⟨hl, h⟩ := h
  match ds, hl with
  | [d], _ => cases d <;> (simp only [g_one_of] at h) <;> walk_at "rd" <;> exact h
/-- a function of two strips -/
def g2 (F : Option Q4 → Option Q4 → Option Q4) : List Dt → Option Dt
  | [d, e] => match okS d, okS e with
    | some s, some o => some (sD (F s o))
    | _, _ => none
  | _ => none
abbrev s_summed : Stmt := top 24
theorem sc_summed : FnScope ["strip", "other", "low", "high", "modulus", "remainder", "first", "last", "step", "rest", "least", "most"] ["strip", "other"] (defScope s_summed) := ⟨rfl, rfl, rfl, by decide +kernel, rfl, by decide +kernel, by decide +kernel⟩
theorem c_summed (T : Txt mg) {f_brought : Addr} {d_brought : FuncData} (c_brought : Cal P w K mg base 1 "brought" ["low", "high", "modulus", "remainder"] (gS 4 g_brought) f_brought d_brought) (F : Fun K "summed" "summed" s_summed f fd) (hm : mg "summed" = some (.ref f)) (hb : Binds K fd ["strip", "other"] []) : Cal P w K mg base 2 "summed" ["strip", "other"] (gS 2 (g2 summed)) f fd := by
  refine fnD F hm hb sc_summed gS_mono (fun ds n Q h => h.1) (fun cdv A outer s H E hr => ⟨_, (dss_cons (ds_if (DW.dt (dw_or (dt_cmp op_isN simIsN (dv 0) de_non (nomark _)) (dw_or1 (dt_cmp op_isN simIsN (dv 1) de_non (nomark _))))) (dss_one (ds_ret de_non)) dss_nil)
      (dss_cons (ds_asg (dv 0) (kgseq (K := K) rfl 4 rfl (dgs_cons (dg_name 2 sc_summed.nd) (dgs_cons (dg_name 3 sc_summed.nd) (dgs_cons (dg_name 4 sc_summed.nd) (dgs_cons (dg_name 5 sc_summed.nd) dgs_nil))))))
      (dss_cons (ds_asg (dv 1) (kgseq (K := K) rfl 4 rfl (dgs_cons (dg_name 6 sc_summed.nd) (dgs_cons (dg_name 7 sc_summed.nd) (dgs_cons (dg_name 8 sc_summed.nd) (dgs_cons (dg_name 9 sc_summed.nd) dgs_nil))))))
      (dss_cons (ds_set 10 sc_summed.nd (de_if (DW.dt (dw_or (dt_cmp op_isN simIsN (dv 2) de_non (nomark _)) (dw_or1 (dt_cmp op_isN simIsN (dv 6) de_non (nomark _))))) de_non (de_add (dv 2) (dv 6))))
      (dss_cons (ds_set 11 sc_summed.nd (de_if (DW.dt (dw_or (dt_cmp op_isN simIsN (dv 3) de_non (nomark _)) (dw_or1 (dt_cmp op_isN simIsN (dv 7) de_non (nomark _))))) de_non (de_add (dv 3) (dv 7))))
      (dss_one (ds_ret (de_call c_brought (hr.mono (by omega)) (da_cons (dv 10) (da_cons (dv 11) (da_cons (kgcd T.gcd (da_cons (dv 4) (da_cons (dv 8) da_nil))) (da_cons (de_add (dv 5) (dv 9)) da_nil))))))))))))⟩) (fun ds n Q h => ?_)
  obtain ⟨hl, h⟩ := h
  match ds, hl with
  | [d, e], hl =>
    clear hl
    simp only [g2] at h
    cases ed : okS d with
    | none => rw [ed] at h; exact h.elim
    | some s =>
      cases ee : okS e with
      | none => rw [ed, ee] at h; exact h.elim
      | some o =>
        rw [ed, ee] at h
        have h : Q (sD (summed s o)) n := h
        obtain ⟨ed1, vs, bs⟩ := okS_inv ed
        obtain ⟨ee1, vo, bo⟩ := okS_inv ee
        rcases dS_inv ed1 with ⟨rfl, rfl⟩ | ⟨q, rfl, ed2⟩
        · walk_at "rd"; exact h
        · rcases dS_inv ee1 with ⟨rfl, rfl⟩ | ⟨p, rfl, ee2⟩
          · rcases ed2 with rfl | rfl <;> walk_at "rd" <;> exact h
          · obtain ⟨a, b, m, r⟩ := q
            obtain ⟨x, y, m', r'⟩ := p
            have gb : ∀ l g r, Q (sD (brought l g (gc m m') r)) n → match g_brought [oi l, oi g, .int (gc m m'), .int r] with
              | some d => Q d n
              | none => False := fun l g r q => by
                simp only [g_brought, dOI_oi]
                rw [if_pos (by unfold gc; omega)]
                exact q
            rcases ed2 with rfl | rfl <;> rcases ee2 with rfl | rfl <;> cases a <;> cases b <;> cases x <;> cases y <;> simp only [q4, oi] <;> walk_at "rd"
            all_goals first
              | exact gb none none _ h
              | exact gb none (some _) _ h
              | exact gb (some _) none _ h
              | exact gb (some _) (some _) _ h
  | [_], hl => cases hl
end
end K11

set_option Elab.async false
set_option linter.all false
set_option maxRecDepth 100000
set_option maxHeartbeats 1000000
set_option autoImplicit false
namespace K11
open K10 PySem PySem.Spec L2 DL
local macro_rules | `(tactic| walk_at "rd") => `(tactic| try simp only [mPar, cMaxL, cMinL, c2, cMax2, cMin2, cGcd, insOf_map, wipeE, List.foldr_cons, List.foldr_nil, gS, mSeq, mIfS, mRet, mRetN, mAsg, gmName, mVar_app, mC, mOp, mUn, uIsi, mB, mTNot, mTAnd, mTOr, mAnd, mOr, uNot, mIf, mNil, mCons, mTup, mLst, mCB, mCall, mCallKw, mNext, mNever, mDrop, mFor, miSeq, miZip, miRng1, miRng2, mComp, mData, mApp, mExt, mOwn, mFLst, mFCat, mFCopy, mOwnIx, mOwnLen, mOwnIn, mTYes, drawS, cAll, cAny, cList, deq_bl, owns, ownOf, loopD, gmNil, gmCons, gmTup, gmSeq, seqOf_lst, seqOf_tup, seqOf_non, seqOf_int, seqOf_bl, seqOf_str, seqOf_strm, cLen, cTuple, cInt, cAbs, oAdd_ii, oAdd_ll, oSub, oMul_ii, oMul_li, oFdiv, oMod, oPow, oI, oI0, uI, uNeg, oLt, oLe, oGt, oGe, oIsN, oNotN, isNon_lst, isNon_tup, isNon_non, isNon_int, isNon_bl, isNon_str, isNon_strm, oEq, oNe, oIx, atI_0, atI_1, atI_2, atI_3, atI_4, DL.atI_last, En.put, start0, tyD_lst, tyD_tup, tyD_non, tyD_int, tyD_bl, tyD_str, tyD_strm, isiT, deq_int, List.any_cons, List.any_nil, List.map_cons, List.map_nil, List.length_cons, List.length_nil, List.cons_append, List.nil_append, List.getElem?_cons_zero, List.getElem?_cons_succ, List.set_cons_zero, List.set_cons_succ, Bool.or_false, Bool.false_or, Bool.not_true, Bool.not_false, if_true, if_false, Bool.false_eq_true, List.reduceReplicate, Nat.reduceSub, Nat.reduceAdd, decide_eq_true_eq, Bool.not_eq_true', decide_eq_false_iff_not, fineD, true_and, and_true, and_self, sizeLine_eq, Nat.reduceLeDiff, not_true_eq_false, not_false_eq_true, beq_self_eq_true, Bool.not_eq_false, Bool.not_eq_true, reduceIte, Bool.true_eq_false, Nat.reduceEqDiff, ne_eq])
section
variable {k : Nat} {P : Program} {w : World} {K : PySem.W.Frag} {mg : Str → Option Value} {base : Heap} {f : Addr} {fd : FuncData}
/-- a strip made whole before it is handed on -/
theorem sf_of {d : Dt} {s : Option Q4} (e : okS d = some s) : g_strip_from [d] = some (sD s) ∧ okS (sD s) = some s := by
  obtain ⟨_, v, b⟩ := okS_inv e
  exact ⟨by simp [g_strip_from, e], okS_of (dS_sD s) v b⟩
abbrev s_strip_sum : Stmt := top 23
theorem sc_strip_sum : FnScope ["strip", "other"] ["strip", "other"] (defScope s_strip_sum) := ⟨rfl, rfl, rfl, by decide +kernel, rfl, by decide +kernel, by decide +kernel⟩
theorem c_strip_sum (T : Txt mg) {f_strip_from : Addr} {d_strip_from : FuncData} (c_strip_from : Cal P w K mg base 4 "strip_from" ["thing"] (gS 1 g_strip_from) f_strip_from d_strip_from) {f_summed : Addr} {d_summed : FuncData} (c_summed : Cal P w K mg base 2 "summed" ["strip", "other"] (gS 2 (g2 summed)) f_summed d_summed) (F : Fun K "strip_sum" "strip_sum" s_strip_sum f fd) (hm : mg "strip_sum" = some (.ref f)) (hb : Binds K fd ["strip", "other"] []) : Cal P w K mg base 5 "strip_sum" ["strip", "other"] (gS 2 (g2 summed)) f fd := by
  refine fnD F hm hb sc_strip_sum gS_mono (fun ds n Q h => h.1) (fun cdv A outer s H E hr => ⟨_, (dss_one (ds_ret (de_call c_summed (hr.mono (by omega)) (da_cons (de_call c_strip_from (hr.mono (by omega)) (da_cons (dv 0) da_nil)) (da_cons (de_call c_strip_from (hr.mono (by omega)) (da_cons (dv 1) da_nil)) da_nil)))))⟩) (fun ds n Q h => ?_)
  obtain ⟨hl, h⟩ := h
  match ds, hl with
  | [d, e], hl =>
    clear hl
    simp only [g2] at h
    cases ed : okS d with
    | none => rw [ed] at h; exact h.elim
    | some s =>
      cases ee : okS e with
      | none => rw [ed, ee] at h; exact h.elim
      | some o =>
        rw [ed, ee] at h
        have h : Q (sD (summed s o)) n := h
        obtain ⟨a1, a2⟩ := sf_of ed
        obtain ⟨b1, b2⟩ := sf_of ee
        walk_at "rd"
        simp only [a1, b1, g2, a2, b2]
        exact h
  | [_], hl => cases hl
end
end K11

set_option Elab.async false
set_option linter.all false
set_option maxRecDepth 100000
set_option maxHeartbeats 1000000
set_option autoImplicit false
namespace K11
open K10 PySem PySem.Spec L2 DL
local macro_rules | `(tactic| walk_at "rd") => `(tactic| try simp only [mPar, cMaxL, cMinL, c2, cMax2, cMin2, cGcd, insOf_map, wipeE, List.foldr_cons, List.foldr_nil, gS, mSeq, mIfS, mRet, mRetN, mAsg, gmName, mVar_app, mC, mOp, mUn, uIsi, mB, mTNot, mTAnd, mTOr, mAnd, mOr, uNot, mIf, mNil, mCons, mTup, mLst, mCB, mCall, mCallKw, mNext, mNever, mDrop, mFor, miSeq, miZip, miRng1, miRng2, mComp, mData, mApp, mExt, mOwn, mFLst, mFCat, mFCopy, mOwnIx, mOwnLen, mOwnIn, mTYes, drawS, cAll, cAny, cList, deq_bl, owns, ownOf, loopD, gmNil, gmCons, gmTup, gmSeq, seqOf_lst, seqOf_tup, seqOf_non, seqOf_int, seqOf_bl, seqOf_str, seqOf_strm, cLen, cTuple, cInt, cAbs, oAdd_ii, oAdd_ll, oSub, oMul_ii, oMul_li, oFdiv, oMod, oPow, oI, oI0, uI, uNeg, oLt, oLe, oGt, oGe, oIsN, oNotN, isNon_lst, isNon_tup, isNon_non, isNon_int, isNon_bl, isNon_str, isNon_strm, oEq, oNe, oIx, atI_0, atI_1, atI_2, atI_3, atI_4, DL.atI_last, En.put, start0, tyD_lst, tyD_tup, tyD_non, tyD_int, tyD_bl, tyD_str, tyD_strm, isiT, deq_int, List.any_cons, List.any_nil, List.map_cons, List.map_nil, List.length_cons, List.length_nil, List.cons_append, List.nil_append, List.getElem?_cons_zero, List.getElem?_cons_succ, List.set_cons_zero, List.set_cons_succ, Bool.or_false, Bool.false_or, Bool.not_true, Bool.not_false, if_true, if_false, Bool.false_eq_true, List.reduceReplicate, Nat.reduceSub, Nat.reduceAdd, decide_eq_true_eq, Bool.not_eq_true', decide_eq_false_iff_not, fineD, true_and, and_true, and_self, sizeLine_eq, Nat.reduceLeDiff, not_true_eq_false, not_false_eq_true, beq_self_eq_true, Bool.not_eq_false, Bool.not_eq_true, reduceIte, Bool.true_eq_false, Nat.reduceEqDiff, ne_eq])
section
variable {k : Nat} {P : Program} {w : World} {K : PySem.W.Frag} {mg : Str → Option Value} {base : Heap} {f : Addr} {fd : FuncData}
/-- a function of two strips, tuples -/
def g2T (F : Option Q4 → Option Q4 → Option Q4) : List Dt → Option Dt
  | [d, e] => match okS d, okS e with
    | some s, some o => if isLst d || isLst e then none else some (sD (F s o))
    | _, _ => none
  | _ => none
theorem tup_of {d : Dt} {s : Option Q4} (e : okS d = some s) (h : isLst d = false) : d = sD s := by
  obtain ⟨ed, _, _⟩ := okS_inv e
  rcases dS_inv ed with ⟨rfl, rfl⟩ | ⟨q, rfl, rfl | rfl⟩
  · rfl
  · rfl
  · cases h
abbrev s_least_around : Stmt := top 18
theorem sc_least_around : FnScope ["strip", "other", "low", "high", "modulus", "remainder", "first", "last", "step", "rest", "least", "most"] ["strip", "other"] (defScope s_least_around) := ⟨rfl, rfl, rfl, by decide +kernel, rfl, by decide +kernel, by decide +kernel⟩
theorem c_least_around (T : Txt mg) {f_brought : Addr} {d_brought : FuncData} (c_brought : Cal P w K mg base 1 "brought" ["low", "high", "modulus", "remainder"] (gS 4 g_brought) f_brought d_brought) (F : Fun K "least_around" "least_around" s_least_around f fd) (hm : mg "least_around" = some (.ref f)) (hb : Binds K fd ["strip", "other"] []) : Cal P w K mg base 2 "least_around" ["strip", "other"] (gS 2 (g2T around)) f fd := by
  refine fnD F hm hb sc_least_around gS_mono (fun ds n Q h => h.1) (fun cdv A outer s H E hr => ⟨_, (dss_cons (ds_if (DW.dt (dw_or (dt_cmp op_isN simIsN (dv 0) de_non (nomark _)) (dw_or1 (dt_cmp op_isN simIsN (dv 1) de_non (nomark _))))) (dss_one (ds_ret (de_if (dt_cmp op_isN simIsN (dv 0) de_non (nomark _)) (dv 1) (dv 0)))) dss_nil)
      (dss_cons (ds_asg (dv 0) (kgseq (K := K) rfl 4 rfl (dgs_cons (dg_name 2 sc_least_around.nd) (dgs_cons (dg_name 3 sc_least_around.nd) (dgs_cons (dg_name 4 sc_least_around.nd) (dgs_cons (dg_name 5 sc_least_around.nd) dgs_nil))))))
      (dss_cons (ds_asg (dv 1) (kgseq (K := K) rfl 4 rfl (dgs_cons (dg_name 6 sc_least_around.nd) (dgs_cons (dg_name 7 sc_least_around.nd) (dgs_cons (dg_name 8 sc_least_around.nd) (dgs_cons (dg_name 9 sc_least_around.nd) dgs_nil))))))
      (dss_cons (ds_set 10 sc_least_around.nd (de_if (DW.dt (dw_or (dt_cmp op_isN simIsN (dv 2) de_non (nomark _)) (dw_or1 (dt_cmp op_isN simIsN (dv 6) de_non (nomark _))))) de_non (kmin2 rfl T.min (da_cons (dv 2) (da_cons (dv 6) da_nil)))))
      (dss_cons (ds_set 11 sc_least_around.nd (de_if (DW.dt (dw_or (dt_cmp op_isN simIsN (dv 3) de_non (nomark _)) (dw_or1 (dt_cmp op_isN simIsN (dv 7) de_non (nomark _))))) de_non (kmax2 rfl T.max (da_cons (dv 3) (da_cons (dv 7) da_nil)))))
      (dss_one (ds_ret (de_call c_brought (hr.mono (by omega)) (da_cons (dv 10) (da_cons (dv 11) (da_cons (kgcd T.gcd (da_cons (kgcd T.gcd (da_cons (dv 4) (da_cons (dv 8) da_nil))) (da_cons (de_callB call_abs simAbs T.abs (da_cons (de_sub (dv 5) (dv 9)) da_nil)) da_nil))) (da_cons (dv 5) da_nil))))))))))))⟩) (fun ds n Q h => ?_)
  obtain ⟨hl, h⟩ := h
  match ds, hl with
  | [d, e], hl =>
    clear hl
    simp only [g2T] at h
    cases ed : okS d with
    | none => rw [ed] at h; exact h.elim
    | some s =>
      cases ee : okS e with
      | none => rw [ed, ee] at h; exact h.elim
      | some o =>
        rw [ed, ee] at h
        cases l1 : isLst d with
        | true => simp [l1] at h
        | false =>
          cases l2 : isLst e with
          | true => simp [l2] at h
          | false =>
            simp only [l1, l2, Bool.or_self, Bool.false_eq_true, if_false] at h
            have h : Q (sD (around s o)) n := h
            obtain rfl := tup_of ed l1
            obtain rfl := tup_of ee l2
            cases s with
            | none => simp only [sD]; walk_at "rd"; exact h
            | some q =>
              cases o with
              | none => simp only [sD]; walk_at "rd"; exact h
              | some p =>
                obtain ⟨a, b, m, r⟩ := q
                obtain ⟨x, y, m', r'⟩ := p
                have gb : ∀ l g, Q (sD (brought l g (gc (gc m m') (if r - r' < 0 then -(r - r') else r - r')) r)) n → match g_brought [oi l, oi g, .int (gc (gc m m') (if r - r' < 0 then -(r - r') else r - r')), .int r] with
                  | some d => Q d n
                  | none => False := fun l g q => by
                    simp only [g_brought, dOI_oi]
                    rw [if_pos (by unfold gc; omega)]
                    exact q
                cases a <;> cases b <;> cases x <;> cases y <;> simp only [sD, q4, oi] <;> walk_at "rd"
                all_goals first
                  | exact gb none none h
                  | exact gb none (some _) h
                  | exact gb (some _) none h
                  | exact gb (some _) (some _) h
  | [_], hl => cases hl
end
end K11

set_option Elab.async false
set_option linter.all false
set_option maxRecDepth 100000
set_option maxHeartbeats 1000000
set_option autoImplicit false
namespace K11
open K10 PySem PySem.Spec L2 DL
local macro_rules | `(tactic| walk_at "rd") => `(tactic| try simp only [mPar, cMaxL, cMinL, c2, cMax2, cMin2, cGcd, insOf_map, wipeE, List.foldr_cons, List.foldr_nil, gS, mSeq, mIfS, mRet, mRetN, mAsg, gmName, mVar_app, mC, mOp, mUn, uIsi, mB, mTNot, mTAnd, mTOr, mAnd, mOr, uNot, mIf, mNil, mCons, mTup, mLst, mCB, mCall, mCallKw, mNext, mNever, mDrop, mFor, miSeq, miZip, miRng1, miRng2, mComp, mData, mApp, mExt, mOwn, mFLst, mFCat, mFCopy, mOwnIx, mOwnLen, mOwnIn, mTYes, drawS, cAll, cAny, cList, deq_bl, owns, ownOf, loopD, gmNil, gmCons, gmTup, gmSeq, seqOf_lst, seqOf_tup, seqOf_non, seqOf_int, seqOf_bl, seqOf_str, seqOf_strm, cLen, cTuple, cInt, cAbs, oAdd_ii, oAdd_ll, oSub, oMul_ii, oMul_li, oFdiv, oMod, oPow, oI, oI0, uI, uNeg, oLt, oLe, oGt, oGe, oIsN, oNotN, isNon_lst, isNon_tup, isNon_non, isNon_int, isNon_bl, isNon_str, isNon_strm, oEq, oNe, oIx, atI_0, atI_1, atI_2, atI_3, atI_4, DL.atI_last, En.put, start0, tyD_lst, tyD_tup, tyD_non, tyD_int, tyD_bl, tyD_str, tyD_strm, isiT, deq_int, List.any_cons, List.any_nil, List.map_cons, List.map_nil, List.length_cons, List.length_nil, List.cons_append, List.nil_append, List.getElem?_cons_zero, List.getElem?_cons_succ, List.set_cons_zero, List.set_cons_succ, Bool.or_false, Bool.false_or, Bool.not_true, Bool.not_false, if_true, if_false, Bool.false_eq_true, List.reduceReplicate, Nat.reduceSub, Nat.reduceAdd, decide_eq_true_eq, Bool.not_eq_true', decide_eq_false_iff_not, fineD, true_and, and_true, and_self, sizeLine_eq, Nat.reduceLeDiff, not_true_eq_false, not_false_eq_true, beq_self_eq_true, Bool.not_eq_false, Bool.not_eq_true, reduceIte, Bool.true_eq_false, Nat.reduceEqDiff, ne_eq])
section
variable {k : Nat} {P : Program} {w : World} {K : PySem.W.Frag} {mg : Str → Option Value} {base : Heap} {f : Addr} {fd : FuncData}
abbrev s_strip_joined : Stmt := top 17
theorem sc_strip_joined : FnScope ["strip", "other"] ["strip", "other"] (defScope s_strip_joined) := ⟨rfl, rfl, rfl, by decide +kernel, rfl, by decide +kernel, by decide +kernel⟩
theorem c_strip_joined (T : Txt mg) {f_least_around : Addr} {d_least_around : FuncData} (c_least_around : Cal P w K mg base 2 "least_around" ["strip", "other"] (gS 2 (g2T around)) f_least_around d_least_around) {f_strip_from : Addr} {d_strip_from : FuncData} (c_strip_from : Cal P w K mg base 4 "strip_from" ["thing"] (gS 1 g_strip_from) f_strip_from d_strip_from) (F : Fun K "strip_joined" "strip_joined" s_strip_joined f fd) (hm : mg "strip_joined" = some (.ref f)) (hb : Binds K fd ["strip", "other"] []) : Cal P w K mg base 5 "strip_joined" ["strip", "other"] (gS 2 (g2 around)) f fd := by
  refine fnD F hm hb sc_strip_joined gS_mono (fun ds n Q h => h.1) (fun cdv A outer s H E hr => ⟨_, (dss_one (ds_ret (de_call c_least_around (hr.mono (by omega)) (da_cons (de_call c_strip_from (hr.mono (by omega)) (da_cons (dv 0) da_nil)) (da_cons (de_call c_strip_from (hr.mono (by omega)) (da_cons (dv 1) da_nil)) da_nil)))))⟩) (fun ds n Q h => ?_)
  obtain ⟨hl, h⟩ := h
  match ds, hl with
  | [d, e], hl =>
    clear hl
    simp only [g2] at h
    cases ed : okS d with
    | none => rw [ed] at h; exact h.elim
    | some s =>
      cases ee : okS e with
      | none => rw [ed, ee] at h; exact h.elim
      | some o =>
        rw [ed, ee] at h
        have h : Q (sD (around s o)) n := h
        obtain ⟨a1, a2⟩ := sf_of ed
        obtain ⟨b1, b2⟩ := sf_of ee
        walk_at "rd"
        have t : ∀ s, isLst (sD s) = false := fun s => by cases s <;> rfl
        simp only [a1, b1, g2T, a2, b2, t, Bool.or_self, Bool.false_eq_true, if_false]
        exact h
  | [_], hl => cases hl
end
end K11

set_option Elab.async false
set_option linter.all false
set_option maxRecDepth 100000
set_option maxHeartbeats 2000000
set_option autoImplicit false
namespace K11
open K10 PySem PySem.Spec L2 DL
example : (1 = 1) ∧ True := by simp only [mTru, mOrT, mAndT, truD_bl, truD_non, truD_int, truD_tup, truD_lst, List.isEmpty_cons, List.isEmpty_nil, mPar, c2, cMax2, cMin2, cGcd, insOf_map, wipeE, List.foldr_cons, List.foldr_nil, gS, mSeq, mIfS, mRet, mRetN, mAsg, gmName, mVar_app, mC, mOp, mUn, uIsi, mB, mTNot, mTAnd, mTOr, mAnd, mOr, uNot, mIf, mNil, mCons, mTup, mLst, mCB, mCall, mCallKw, mNext, mNever, mDrop, mFor, miSeq, miZip, miRng1, miRng2, mComp, mData, mApp, mExt, mOwn, mFLst, mFCat, mFCopy, mOwnIx, mOwnLen, mOwnIn, mTYes, drawS, cAll, cAny, cList, deq_bl, owns, ownOf, loopD, gmNil, gmCons, gmTup, gmSeq, seqOf_lst, seqOf_tup, seqOf_non, seqOf_int, seqOf_bl, seqOf_str, seqOf_strm, cLen, cTuple, cInt, cAbs, oAdd_ii, oAdd_ll, oSub, oMul_ii, oMul_li, oFdiv, oMod, oPow, oI, oI0, uI, uNeg, oLt, oLe, oGt, oGe, oIsN, oNotN, isNon_lst, isNon_tup, isNon_non, isNon_int, isNon_bl, isNon_str, isNon_strm, oEq, oNe, oIx, atI_0, atI_1, atI_2, atI_3, atI_4, DL.atI_last, En.put, start0, tyD_lst, tyD_tup, tyD_non, tyD_int, tyD_bl, tyD_str, tyD_strm, isiT, deq_int, List.any_cons, List.any_nil, List.map_cons, List.map_nil, List.length_cons, List.length_nil, List.cons_append, List.nil_append, List.getElem?_cons_zero, List.getElem?_cons_succ, List.set_cons_zero, List.set_cons_succ, Bool.or_false, Bool.false_or, Bool.not_true, Bool.not_false, if_true, if_false, Bool.false_eq_true, List.reduceReplicate, Nat.reduceSub, Nat.reduceAdd, decide_eq_true_eq, Bool.not_eq_true', decide_eq_false_iff_not, fineD, true_and, and_true, and_self, sizeLine_eq, Nat.reduceLeDiff, not_true_eq_false, not_false_eq_true, beq_self_eq_true, Bool.not_eq_false, Bool.not_eq_true, reduceIte, Bool.true_eq_false, Nat.reduceEqDiff, ne_eq]
local macro_rules | `(tactic| walk_at "rd") => `(tactic| try simp only [mTru, mOrT, mAndT, truD_bl, truD_non, truD_int, truD_tup, truD_lst, List.isEmpty_cons, List.isEmpty_nil, mPar, c2, cMax2, cMin2, cGcd, insOf_map, wipeE, List.foldr_cons, List.foldr_nil, gS, mSeq, mIfS, mRet, mRetN, mAsg, gmName, mVar_app, mC, mOp, mUn, uIsi, mB, mTNot, mTAnd, mTOr, mAnd, mOr, uNot, mIf, mNil, mCons, mTup, mLst, mCB, mCall, mCallKw, mNext, mNever, mDrop, mFor, miSeq, miZip, miRng1, miRng2, mComp, mData, mApp, mExt, mOwn, mFLst, mFCat, mFCopy, mOwnIx, mOwnLen, mOwnIn, mTYes, drawS, cAll, cAny, cList, deq_bl, owns, ownOf, loopD, gmNil, gmCons, gmTup, gmSeq, seqOf_lst, seqOf_tup, seqOf_non, seqOf_int, seqOf_bl, seqOf_str, seqOf_strm, cLen, cTuple, cInt, cAbs, oAdd_ii, oAdd_ll, oSub, oMul_ii, oMul_li, oFdiv, oMod, oPow, oI, oI0, uI, uNeg, oLt, oLe, oGt, oGe, oIsN, oNotN, isNon_lst, isNon_tup, isNon_non, isNon_int, isNon_bl, isNon_str, isNon_strm, oEq, oNe, oIx, atI_0, atI_1, atI_2, atI_3, atI_4, DL.atI_last, En.put, start0, tyD_lst, tyD_tup, tyD_non, tyD_int, tyD_bl, tyD_str, tyD_strm, isiT, deq_int, List.any_cons, List.any_nil, List.map_cons, List.map_nil, List.length_cons, List.length_nil, List.cons_append, List.nil_append, List.getElem?_cons_zero, List.getElem?_cons_succ, List.set_cons_zero, List.set_cons_succ, Bool.or_false, Bool.false_or, Bool.not_true, Bool.not_false, if_true, if_false, Bool.false_eq_true, List.reduceReplicate, Nat.reduceSub, Nat.reduceAdd, decide_eq_true_eq, Bool.not_eq_true', decide_eq_false_iff_not, fineD, true_and, and_true, and_self, sizeLine_eq, Nat.reduceLeDiff, not_true_eq_false, not_false_eq_true, beq_self_eq_true, Bool.not_eq_false, Bool.not_eq_true, reduceIte, Bool.true_eq_false, Nat.reduceEqDiff, ne_eq])
section
variable {k : Nat} {P : Program} {w : World} {K : PySem.W.Frag} {mg : Str → Option Value} {base : Heap} {f : Addr} {fd : FuncData}
theorem brt {l g : OI} {m r : Int} (hm : 0 ≤ m) : g_brought [oi l, oi g, .int m, .int r] = some (sD (brought l g m r)) := by
  simp only [g_brought, dOI_oi]
  rw [if_pos hm]
def g_mult : List Dt → Option Dt
  | [.int n, d] => match okS d with
    | some s => if -BS ≤ n ∧ n ≤ BS then some (sD (multd n s)) else none
    | none => none
  | _ => none
abbrev s_multiplied : Stmt := top 26
theorem sc_multiplied : FnScope ["n", "strip", "low", "high", "modulus", "remainder", "least", "most"] ["n", "strip"] (defScope s_multiplied) := ⟨rfl, rfl, rfl, by decide +kernel, rfl, by decide +kernel, by decide +kernel⟩
theorem c_multiplied (T : Txt mg) {f_brought : Addr} {d_brought : FuncData} (c_brought : Cal P w K mg base 1 "brought" ["low", "high", "modulus", "remainder"] (gS 4 g_brought) f_brought d_brought) {f_one_of : Addr} {d_one_of : FuncData} (c_one_of : Cal P w K mg base 1 "one_of" ["n"] (gS 1 g_one_of) f_one_of d_one_of) (F : Fun K "multiplied" "multiplied" s_multiplied f fd) (hm : mg "multiplied" = some (.ref f)) (hb : Binds K fd ["n", "strip"] []) : Cal P w K mg base 2 "multiplied" ["n", "strip"] (gS 2 g_mult) f fd := by
  refine fnD F hm hb sc_multiplied gS_mono (fun ds n Q h => h.1) (fun cdv A outer s H E hr => ⟨_, (dss_cons (ds_if (DW.dt (dw_or (dt_cmp op_isN simIsN (dv 1) de_non (nomark _)) (dw_or1 (kteq (K := K) rfl hr.units (dv 0) de_int)))) (dss_one (ds_ret (de_if (dt_cmp op_isN simIsN (dv 1) de_non (nomark _)) de_non (de_call c_one_of (hr.mono (by omega)) (da_cons de_int da_nil))))) dss_nil)
      (dss_cons (ds_asg (dv 1) (kgseq (K := K) rfl 4 rfl (dgs_cons (dg_name 2 sc_multiplied.nd) (dgs_cons (dg_name 3 sc_multiplied.nd) (dgs_cons (dg_name 4 sc_multiplied.nd) (dgs_cons (dg_name 5 sc_multiplied.nd) dgs_nil))))))
      (dss_cons (ds_set 6 sc_multiplied.nd (de_if (dt_cmp op_isN simIsN (dv 2) de_non (nomark _)) de_non (de_mul (dv 0) (dv 2))))
      (dss_cons (ds_set 7 sc_multiplied.nd (de_if (dt_cmp op_isN simIsN (dv 3) de_non (nomark _)) de_non (de_mul (dv 0) (dv 3))))
      (dss_cons (ds_if (dt_cmp op_lt simLt (dv 0) de_int (nomark _)) (dss_one (ds_par 6 7 rfl sc_multiplied.nd (da_cons (dv 7) (da_cons (dv 6) da_nil)))) dss_nil)
      (dss_one (ds_ret (de_call c_brought (hr.mono (by omega)) (da_cons (dv 6) (da_cons (dv 7) (da_cons (de_mul (de_callB call_abs simAbs T.abs (da_cons (dv 0) da_nil)) (dv 4)) (da_cons (de_mul (dv 0) (dv 5)) da_nil))))))))))))⟩) (fun ds n Q h => ?_)
  obtain ⟨hl, h⟩ := h
  match ds, hl with
  | [.int i, d], hl =>
    clear hl
    simp only [g_mult] at h
    cases ed : okS d with
    | none => rw [ed] at h; exact h.elim
    | some s =>
      rw [ed] at h
      simp only at h
      by_cases hi : -BS ≤ i ∧ i ≤ BS
      · rw [if_pos hi] at h
        have h : Q (sD (multd i s)) n := h
        obtain ⟨ed1, vs, bs⟩ := okS_inv ed
        rcases dS_inv ed1 with ⟨rfl, rfl⟩ | ⟨q, rfl, ed2⟩
        · walk_at "rd"; exact h
        · clear ed ed1
          by_cases h0 : i = 0
          · subst h0
            rcases ed2 with rfl | rfl <;> walk_at "rd" <;> exact h
          · have hm0 := vs.1
            clear vs
            obtain ⟨a, b, m, r⟩ := q
            obtain ⟨b1, b2, b3, b4⟩ := bs
            simp only at b1 b2 b3 b4 hm0
            have ci : ∀ j : Int, -BS ≤ j ∧ j ≤ BS → CMulW i j := fun j hj => mulOk (by unfold BS at *; omega) (by unfold BS at *; omega)
            have ca : CMulW (if i < 0 then -i else i) m := mulOk (by unfold BS at *; split <;> omega) (by unfold BS at *; omega)
            have hp : 0 ≤ (if i < 0 then -i else i) * m := Int.mul_nonneg (by split <;> omega) hm0
            have cr := ci r b4
            have gb : ∀ l g {M : Int}, 0 ≤ M → Q (sD (brought l g M (i * r))) n → match g_brought [oi l, oi g, .int M, .int (i * r)] with
              | some d => Q d n
              | none => False := fun l g M hM q => by rw [brt hM]; exact q
            by_cases hn : i < 0
            · simp only [multd, if_neg h0, if_pos hn] at h
              rcases ed2 with rfl | rfl <;> cases a <;> cases b <;> simp only [q4, oi, bnd] at b1 b2 ⊢ <;> walk_at "rd" <;> simp only [h0, hn, if_true, if_false, cr, true_and] <;> rw [if_pos hn] at hp ca
              all_goals first
                | exact ⟨ca, gb none none hp h⟩
                | exact ⟨ci _ b2, ca, gb (some _) none hp h⟩
                | exact ⟨ci _ b1, ca, gb none (some _) hp h⟩
                | exact ⟨ci _ b1, ci _ b2, ca, gb (some _) (some _) hp h⟩
            · simp only [multd, if_neg h0, if_neg hn] at h
              rcases ed2 with rfl | rfl <;> cases a <;> cases b <;> simp only [q4, oi, bnd] at b1 b2 ⊢ <;> walk_at "rd" <;> simp only [h0, hn, if_true, if_false, cr, true_and] <;> rw [if_neg hn] at hp ca
              all_goals first
                | exact ⟨ca, gb none none hp h⟩
                | exact ⟨ci _ b2, ca, gb none (some _) hp h⟩
                | exact ⟨ci _ b1, ca, gb (some _) none hp h⟩
                | exact ⟨ci _ b1, ci _ b2, ca, gb (some _) (some _) hp h⟩
      · rw [if_neg hi] at h; exact h.elim
  | [.non, _], _ => exact h.elim
  | [.bl _, _], _ => exact h.elim
  | [.str _, _], _ => exact h.elim
  | [.tup _, _], _ => exact h.elim
  | [.lst _, _], _ => exact h.elim
  | [.strm, _], _ => exact h.elim
end
end K11

set_option Elab.async false
set_option linter.all false
set_option maxRecDepth 100000
set_option maxHeartbeats 2000000
set_option autoImplicit false
namespace K11
open K10 PySem PySem.Spec L2 DL
example : (1 = 1) ∧ True := by simp only [mTru, mOrT, mAndT, truD_bl, truD_non, truD_int, truD_tup, truD_lst, List.isEmpty_cons, List.isEmpty_nil, mPar, c2, cMax2, cMin2, cGcd, insOf_map, wipeE, List.foldr_cons, List.foldr_nil, gS, mSeq, mIfS, mRet, mRetN, mAsg, gmName, mVar_app, mC, mOp, mUn, uIsi, mB, mTNot, mTAnd, mTOr, mAnd, mOr, uNot, mIf, mNil, mCons, mTup, mLst, mCB, mCall, mCallKw, mNext, mNever, mDrop, mFor, miSeq, miZip, miRng1, miRng2, mComp, mData, mApp, mExt, mOwn, mFLst, mFCat, mFCopy, mOwnIx, mOwnLen, mOwnIn, mTYes, drawS, cAll, cAny, cList, deq_bl, owns, ownOf, loopD, gmNil, gmCons, gmTup, gmSeq, seqOf_lst, seqOf_tup, seqOf_non, seqOf_int, seqOf_bl, seqOf_str, seqOf_strm, cLen, cTuple, cInt, cAbs, oAdd_ii, oAdd_ll, oSub, oMul_ii, oMul_li, oFdiv, oMod, oPow, oI, oI0, uI, uNeg, oLt, oLe, oGt, oGe, oIsN, oNotN, isNon_lst, isNon_tup, isNon_non, isNon_int, isNon_bl, isNon_str, isNon_strm, oEq, oNe, oIx, atI_0, atI_1, atI_2, atI_3, atI_4, DL.atI_last, En.put, start0, tyD_lst, tyD_tup, tyD_non, tyD_int, tyD_bl, tyD_str, tyD_strm, isiT, deq_int, List.any_cons, List.any_nil, List.map_cons, List.map_nil, List.length_cons, List.length_nil, List.cons_append, List.nil_append, List.getElem?_cons_zero, List.getElem?_cons_succ, List.set_cons_zero, List.set_cons_succ, Bool.or_false, Bool.false_or, Bool.not_true, Bool.not_false, if_true, if_false, Bool.false_eq_true, List.reduceReplicate, Nat.reduceSub, Nat.reduceAdd, decide_eq_true_eq, Bool.not_eq_true', decide_eq_false_iff_not, fineD, true_and, and_true, and_self, sizeLine_eq, Nat.reduceLeDiff, not_true_eq_false, not_false_eq_true, beq_self_eq_true, Bool.not_eq_false, Bool.not_eq_true, reduceIte, Bool.true_eq_false, Nat.reduceEqDiff, ne_eq]
local macro_rules | `(tactic| walk_at "rd") => `(tactic| try simp only [mTru, mOrT, mAndT, truD_bl, truD_non, truD_int, truD_tup, truD_lst, List.isEmpty_cons, List.isEmpty_nil, mPar, c2, cMax2, cMin2, cGcd, insOf_map, wipeE, List.foldr_cons, List.foldr_nil, gS, mSeq, mIfS, mRet, mRetN, mAsg, gmName, mVar_app, mC, mOp, mUn, uIsi, mB, mTNot, mTAnd, mTOr, mAnd, mOr, uNot, mIf, mNil, mCons, mTup, mLst, mCB, mCall, mCallKw, mNext, mNever, mDrop, mFor, miSeq, miZip, miRng1, miRng2, mComp, mData, mApp, mExt, mOwn, mFLst, mFCat, mFCopy, mOwnIx, mOwnLen, mOwnIn, mTYes, drawS, cAll, cAny, cList, deq_bl, owns, ownOf, loopD, gmNil, gmCons, gmTup, gmSeq, seqOf_lst, seqOf_tup, seqOf_non, seqOf_int, seqOf_bl, seqOf_str, seqOf_strm, cLen, cTuple, cInt, cAbs, oAdd_ii, oAdd_ll, oSub, oMul_ii, oMul_li, oFdiv, oMod, oPow, oI, oI0, uI, uNeg, oLt, oLe, oGt, oGe, oIsN, oNotN, isNon_lst, isNon_tup, isNon_non, isNon_int, isNon_bl, isNon_str, isNon_strm, oEq, oNe, oIx, atI_0, atI_1, atI_2, atI_3, atI_4, DL.atI_last, En.put, start0, tyD_lst, tyD_tup, tyD_non, tyD_int, tyD_bl, tyD_str, tyD_strm, isiT, deq_int, List.any_cons, List.any_nil, List.map_cons, List.map_nil, List.length_cons, List.length_nil, List.cons_append, List.nil_append, List.getElem?_cons_zero, List.getElem?_cons_succ, List.set_cons_zero, List.set_cons_succ, Bool.or_false, Bool.false_or, Bool.not_true, Bool.not_false, if_true, if_false, Bool.false_eq_true, List.reduceReplicate, Nat.reduceSub, Nat.reduceAdd, decide_eq_true_eq, Bool.not_eq_true', decide_eq_false_iff_not, fineD, true_and, and_true, and_self, sizeLine_eq, Nat.reduceLeDiff, not_true_eq_false, not_false_eq_true, beq_self_eq_true, Bool.not_eq_false, Bool.not_eq_true, reduceIte, Bool.true_eq_false, Nat.reduceEqDiff, ne_eq])
section
variable {k : Nat} {P : Program} {w : World} {K : PySem.W.Frag} {mg : Str → Option Value} {base : Heap} {f : Addr} {fd : FuncData}
abbrev s_strip_times : Stmt := top 25
theorem sc_strip_times : FnScope ["n", "strip"] ["n", "strip"] (defScope s_strip_times) := ⟨rfl, rfl, rfl, by decide +kernel, rfl, by decide +kernel, by decide +kernel⟩
theorem c_strip_times (T : Txt mg) {f_integer_from : Addr} {d_integer_from : FuncData} (c_integer_from : Cal P w K mg base 2 "integer_from" ["n"] (gS 1 g_integer_from) f_integer_from d_integer_from) {f_multiplied : Addr} {d_multiplied : FuncData} (c_multiplied : Cal P w K mg base 2 "multiplied" ["n", "strip"] (gS 2 g_mult) f_multiplied d_multiplied) {f_strip_from : Addr} {d_strip_from : FuncData} (c_strip_from : Cal P w K mg base 4 "strip_from" ["thing"] (gS 1 g_strip_from) f_strip_from d_strip_from) (F : Fun K "strip_times" "strip_times" s_strip_times f fd) (hm : mg "strip_times" = some (.ref f)) (hb : Binds K fd ["n", "strip"] []) : Cal P w K mg base 5 "strip_times" ["n", "strip"] (gS 2 g_mult) f fd := by
  refine fnD F hm hb sc_strip_times gS_mono (fun ds n Q h => h.1) (fun cdv A outer s H E hr => ⟨_, (dss_one (ds_ret (de_call c_multiplied (hr.mono (by omega)) (da_cons (de_call c_integer_from (hr.mono (by omega)) (da_cons (dv 0) da_nil)) (da_cons (de_call c_strip_from (hr.mono (by omega)) (da_cons (dv 1) da_nil)) da_nil)))))⟩) (fun ds n Q h => ?_)
  obtain ⟨hl, h⟩ := h
  match ds, hl with
  | [.int i, d], hl =>
    clear hl
    simp only [g_mult] at h
    cases ed : okS d with
    | none => rw [ed] at h; exact h.elim
    | some s =>
      rw [ed] at h
      simp only at h
      by_cases hi : -BS ≤ i ∧ i ≤ BS
      · rw [if_pos hi] at h
        have h : Q (sD (multd i s)) n := h
        obtain ⟨a1, a2⟩ := sf_of ed
        walk_at "rd"
        simp only [g_integer_from, a1, g_mult, a2, if_pos hi]
        exact h
      · rw [if_neg hi] at h; exact h.elim
  | [.non, _], _ => exact h.elim
  | [.bl _, _], _ => exact h.elim
  | [.str _, _], _ => exact h.elim
  | [.tup _, _], _ => exact h.elim
  | [.lst _, _], _ => exact h.elim
  | [.strm, _], _ => exact h.elim
/-- Euclid's turn -/
structure Euc (a M x y u v : Int) : Prop where
  x0 : 0 ≤ x
  x1 : x ≤ M
  y0 : 0 ≤ y
  y1 : y ≤ M
  c : (0 ≤ u ∧ v ≤ 0 ∧ u * y - v * x = M) ∨ (u ≤ 0 ∧ 0 ≤ v ∧ v * x - u * y = M)
  du : M ∣ u * a - x
  dv : M ∣ v * a - y
  g : gc x y = 1
  u1 : -M ≤ u ∧ u ≤ M
  v1 : -M ≤ v ∧ v ≤ M
theorem Euc.start {a M : Int} (hM : 0 < M) (h : gc a M = 1) : Euc a M (a % M) M 1 0 where
  x0 := (emod_bd hM).1
  x1 := Int.le_of_lt (emod_bd hM).2
  y0 := Int.le_of_lt hM
  y1 := Int.le_refl _
  c := .inl ⟨by omega, by omega, by omega⟩
  du := by
    have := Int.mul_ediv_add_emod a M
    exact ⟨a / M, by omega⟩
  dv := ⟨-1, by omega⟩
  g := by
    rw [← h]
    refine dvd_ext (gc_nn _ _) (gc_nn _ _) fun d => ?_
    rw [gc_dvd, gc_dvd]
    have e := Int.mul_ediv_add_emod a M
    constructor
    · rintro ⟨h1, h2⟩
      refine ⟨?_, h2⟩
      rw [← e]
      exact Int.dvd_add (Int.dvd_trans h2 (Int.dvd_mul_right ..)) h1
    · rintro ⟨h1, h2⟩
      refine ⟨?_, h2⟩
      rw [show a % M = a - M * (a / M) by omega]
      exact Int.dvd_sub h1 (Int.dvd_trans h2 (Int.dvd_mul_right ..))
  u1 := by omega
  v1 := by omega
theorem Euc.turn {a M x y u v : Int} (e : Euc a M x y u v) (hy : 0 < y) : Euc a M y (x - x / y * y) v (u - x / y * v) ∧ 0 ≤ x / y ∧ x / y ≤ M ∧ (x - x / y * y) < y := by
  obtain ⟨x0, x1, y0, y1, c, du, dv, g, u1, v1⟩ := e
  have em := Int.mul_ediv_add_emod x y
  have eb := emod_bd (x := x) hy
  have t0 : 0 ≤ x / y := Int.ediv_nonneg x0 y0
  have t1 : x / y ≤ x := by
    have := Int.ediv_le_self (a := x) (b := y) x0
    exact this
  have ey : x - x / y * y = x % y := by rw [Int.mul_comm]; omega
  generalize ht : x / y = t at *
  have key : (u - t * v) * y - v * (x - t * y) = u * y - v * x := by grind
  have p1 : 0 ≤ t * v ∨ t * v ≤ 0 := by omega
  refine ⟨⟨y0, y1, by omega, by omega, ?_, dv, ?_, ?_, v1, ?_⟩, t0, by omega, by omega⟩
  · rcases c with ⟨c1, c2, c3⟩ | ⟨c1, c2, c3⟩
    · refine .inr ⟨c2, ?_, by rw [← c3]; exact key⟩
      have := Int.mul_nonpos_of_nonneg_of_nonpos t0 c2
      omega
    · refine .inl ⟨c2, ?_, by omega⟩
      have := Int.mul_nonneg t0 c2
      omega
  · have := Int.dvd_sub du (Int.dvd_trans dv (Int.dvd_mul_left (t) (v * a - y)) )
    have e : u * a - x - t * (v * a - y) = (u - t * v) * a - (x - t * y) := by grind
    rwa [e] at this
  · rw [← g]
    refine dvd_ext (gc_nn _ _) (gc_nn _ _) fun d => ?_
    rw [gc_dvd, gc_dvd]
    constructor
    · rintro ⟨h1, h2⟩
      refine ⟨?_, h1⟩
      have := Int.dvd_add h2 (Int.dvd_trans h1 (Int.dvd_mul_left t y))
      rwa [show x - t * y + t * y = x by omega] at this
    · rintro ⟨h1, h2⟩
      exact ⟨h2, Int.dvd_sub h1 (Int.dvd_trans h2 (Int.dvd_mul_left t y))⟩
  · have z0 : 0 ≤ x - t * y := by omega
    rcases c with ⟨c1, c2, c3⟩ | ⟨c1, c2, c3⟩
    · have h1 := Int.mul_nonpos_of_nonneg_of_nonpos t0 c2
      have h2 : 0 ≤ u - t * v := by omega
      have h3 : v * (x - t * y) ≤ 0 := Int.mul_nonpos_of_nonpos_of_nonneg c2 z0
      have h4 : (u - t * v) * 1 ≤ (u - t * v) * y := Int.mul_le_mul_of_nonneg_left (by omega) h2
      omega
    · have h1 := Int.mul_nonneg t0 c2
      have h2 : u - t * v ≤ 0 := by omega
      have h3 : 0 ≤ v * (x - t * y) := Int.mul_nonneg c2 z0
      have h4 : (u - t * v) * y ≤ (u - t * v) * 1 := Int.mul_le_mul_of_nonpos_left h2 (by omega)
      omega
def invS : Spc := fun ds n Q => ds.length = 2 ∧ ∃ a M : Int, ds = [.int a, .int M] ∧ 0 < M ∧ M ≤ BS ∧ gc a M = 1 ∧ ∀ t, 0 ≤ t → t < M → M ∣ t * a - 1 → Q (.int t) n
theorem invS_mono : MonoS invS := fun ds n k k' h ⟨a, b, c, d, e, g, i, q⟩ => ⟨a, b, c, d, e, g, i, fun t x y z => h _ _ (q t x y z)⟩
abbrev s_inverse : Stmt := top 21
theorem sc_inverse : FnScope ["n", "modulus", "one", "other", "first", "second", "times"] ["n", "modulus"] (defScope s_inverse) := ⟨rfl, rfl, rfl, by decide +kernel, rfl, by decide +kernel, by decide +kernel⟩
theorem c_inverse (T : Txt mg)  (F : Fun K "inverse" "inverse" s_inverse f fd) (hm : mg "inverse" = some (.ref f)) (hb : Binds K fd ["n", "modulus"] []) : Cal P w K mg base 1 "inverse" ["n", "modulus"] invS f fd := by
  refine fnD F hm hb sc_inverse invS_mono (fun ds n Q h => h.1) (fun cdv A outer s H E hr => ⟨_, (dss_cons (ds_par 2 3 rfl sc_inverse.nd (da_cons (de_mod (dv 0) (dv 1)) (da_cons (dv 1) da_nil)))
      (dss_cons (ds_asg (de_tup (da_cons de_int (da_cons de_int da_nil))) (kgseq (K := K) rfl 2 rfl (dgs_cons (dg_name 4 sc_inverse.nd) (dgs_cons (dg_name 5 sc_inverse.nd) dgs_nil))))
      (dss_cons (ds_while PassesOwn.never (dt_cmp op_gt simGt (dv 3) de_int (nomark _)) (dss_cons (ds_set 6 sc_inverse.nd (de_fdiv (dv 2) (dv 3)))
      (dss_cons (ds_par 2 3 rfl sc_inverse.nd (da_cons (dv 3) (da_cons (de_sub (dv 2) (de_mul (dv 6) (dv 3))) da_nil)))
      (dss_one (ds_par 4 5 rfl sc_inverse.nd (da_cons (dv 5) (da_cons (de_sub (dv 4) (de_mul (dv 6) (dv 5))) da_nil)))))))
      (dss_one (ds_ret (de_mod (dv 4) (dv 1)))))))⟩) (fun ds n Q h => ?_)
  obtain ⟨hl, h⟩ := h
  obtain ⟨a, M, rfl, hM, hB, hg, h⟩ := h
  walk_at "rd"
  refine ⟨hM, fun q ρ => ∃ x y u v tm, Euc a M x y u v ∧ q = y.toNat ∧ ρ = { n := n, sl := [.d (.int a), .d (.int M), .d (.int x), .d (.int y), .d (.int u), .d (.int v), tm] }, ⟨_, _, _, _, _, _, Euc.start hM hg, rfl, rfl⟩, ?_⟩
  rintro q ρ ⟨x, y, u, v, tm, e, rfl, rfl⟩
  walk_at "rd"
  by_cases hy : 0 < y
  · rw [if_pos hy]
    obtain ⟨e2, t0, t1, lt⟩ := e.turn hy
    have y1 := e.y1
    have v1 := e.v1
    have := e2.y0
    walk_at "rd"
    unfold BS at hB
    refine ⟨divW hy (by unfold BS; omega), mulOk (by omega) (by omega), mulOk (by omega) (by omega), _, ?_, _, _, _, _, _, e2, rfl, rfl⟩
    omega
  · rw [if_neg hy]
    obtain ⟨x0, x1, y0, y1, c, du, dv, g, u1, v1⟩ := e
    have : y = 0 := by omega
    subst this
    have ex : x = 1 := by
      rw [← g]
      refine dvd_ext x0 (gc_nn _ _) fun d => ?_
      rw [gc_dvd]
      exact ⟨fun h => ⟨h, Int.dvd_zero d⟩, fun h => h.1⟩
    subst ex
    refine ⟨hM, h _ (emod_bd hM).1 (emod_bd hM).2 ?_⟩
    have em := Int.mul_ediv_add_emod u M
    have : u % M * a - 1 = (u * a - 1) - M * (u / M * a) := by
      rw [show u % M = u - M * (u / M) by omega]; grind
    rw [this]
    exact Int.dvd_sub du (Int.dvd_mul_right ..)
end
end K11

set_option Elab.async false
set_option linter.all false
set_option maxRecDepth 100000
set_option maxHeartbeats 2000000
set_option autoImplicit false
namespace K11
open K10 PySem PySem.Spec L2 DL
section
variable {k : Nat} {P : Program} {w : World} {K : PySem.W.Frag} {mg : Str → Option Value} {base : Heap} {f : Addr} {fd : FuncData}
/-- a function of two strips as tuples -/
def fT (F : Option Q4 → Option Q4 → Option Q4) : Spc := fun ds n Q => ds.length = 2 ∧ ∃ s o, ds = [sD s, sD o] ∧ Valid s ∧ Bnd BS s ∧ Valid o ∧ Bnd BS o ∧ Q (sD (F s o)) n
theorem fT_mono {F : Option Q4 → Option Q4 → Option Q4} : MonoS (fT F) := fun ds n k k' h ⟨a, b, c, d, e, g, i, j, q⟩ => ⟨a, b, c, d, e, g, i, j, h _ _ q⟩
/-- of two, lists too -/
def fL (F : Option Q4 → Option Q4 → Option Q4) : Spc := fun ds n Q => ds.length = 2 ∧ ∃ d e s o, ds = [d, e] ∧ okS d = some s ∧ okS e = some o ∧ Q (sD (F s o)) n
theorem fL_mono {F : Option Q4 → Option Q4 → Option Q4} : MonoS (fL F) := fun ds n k k' h ⟨a, b, c, d, e, g, i, j, q⟩ => ⟨a, b, c, d, e, g, i, j, h _ _ q⟩
theorem gcdef (a b : Int) : ((Nat.gcd a.natAbs b.natAbs : Nat) : Int) = gc a b := rfl
theorem max2 {a b m : Int} (h1 : m ∈ [a, b]) (h2 : ∀ y ∈ [a, b], y ≤ m) : m = if a < b then b else a := by
  have := h2 a (by simp)
  have := h2 b (by simp)
  simp at h1
  split <;> omega
theorem min2 {a b m : Int} (h1 : m ∈ [a, b]) (h2 : ∀ y ∈ [a, b], m ≤ y) : m = if b < a then b else a := by
  have := h2 a (by simp)
  have := h2 b (by simp)
  simp at h1
  split <;> omega
theorem ltS0 : (0 < 16777216) = True := by simp
theorem ltS1 : (1 < 16777216) = True := by simp
theorem cMaxL1 {a : Int} {k : Dt → Prop} : cMaxL [.lst [.int a]] k = k (.int a) := by
  apply propext
  constructor
  · rintro ⟨_, h⟩; exact h a (by simp) (by simp)
  · exact fun h => ⟨by simp, fun m h1 _ => by simp at h1; rw [h1]; exact h⟩
theorem cMinL1 {a : Int} {k : Dt → Prop} : cMinL [.lst [.int a]] k = k (.int a) := by
  apply propext
  constructor
  · rintro ⟨_, h⟩; exact h a (by simp) (by simp)
  · exact fun h => ⟨by simp, fun m h1 _ => by simp at h1; rw [h1]; exact h⟩
theorem cMaxL2 {a b : Int} {k : Dt → Prop} : cMaxL [.lst [.int a, .int b]] k = k (.int (if a < b then b else a)) := by
  apply propext
  constructor
  · rintro ⟨_, h⟩
    exact h _ (by split <;> simp) fun y hy => by simp at hy; split <;> omega
  · exact fun h => ⟨by simp, fun m h1 h2 => by rw [max2 h1 h2]; exact h⟩
theorem cMinL2 {a b : Int} {k : Dt → Prop} : cMinL [.lst [.int a, .int b]] k = k (.int (if b < a then b else a)) := by
  apply propext
  constructor
  · rintro ⟨_, h⟩
    exact h _ (by split <;> simp) fun y hy => by simp at hy; split <;> omega
  · exact fun h => ⟨by simp, fun m h1 h2 => by rw [min2 h1 h2]; exact h⟩
theorem gc_le {a b : Int} (h : 0 < a) : gc a b ≤ a := Int.le_of_dvd h (gc_dvd.mp (Int.dvd_refl (gc a b))).1
/-- both moduli by their gcd -/
theorem coprime {a b : Int} (ha : 0 < a) (hb : 0 < b) : gc (a / gc a b) (b / gc a b) = 1 ∧ 0 < a / gc a b ∧ 0 < b / gc a b ∧ gc a b * (a / gc a b) = a ∧ gc a b * (b / gc a b) = b ∧ a / gc a b ≤ a ∧ b / gc a b ≤ b := by
  have hg := gc_pos (b := b) ha
  obtain ⟨d1, d2⟩ := gc_dvd.mp (Int.dvd_refl (gc a b))
  have e1 := Int.mul_ediv_cancel' d1
  have e2 := Int.mul_ediv_cancel' d2
  have p1 : 0 < a / gc a b := by
    rcases Int.lt_or_le 0 (a / gc a b) with h | h
    · exact h
    · have := Int.mul_nonpos_of_nonneg_of_nonpos (Int.le_of_lt hg) h
      omega
  have p2 : 0 < b / gc a b := by
    rcases Int.lt_or_le 0 (b / gc a b) with h | h
    · exact h
    · have := Int.mul_nonpos_of_nonneg_of_nonpos (Int.le_of_lt hg) h
      omega
  refine ⟨?_, p1, p2, e1, e2, Int.ediv_le_self _ (by omega), Int.ediv_le_self _ (by omega)⟩
  obtain ⟨q1, q2⟩ := gc_dvd.mp (Int.dvd_refl (gc (a / gc a b) (b / gc a b)))
  have h1 : gc a b * gc (a / gc a b) (b / gc a b) ∣ gc a b := gc_dvd.mpr ⟨by
    have := Int.mul_dvd_mul_left (gc a b) q1
    rwa [e1] at this, by
    have := Int.mul_dvd_mul_left (gc a b) q2
    rwa [e2] at this⟩
  have h2 := Int.le_of_dvd hg h1
  have h3 := gc_pos (b := b / gc a b) p1
  have h4 : gc a b * gc (a / gc a b) (b / gc a b) ≤ gc a b * 1 := by omega
  have := Int.le_of_mul_le_mul_left h4 hg
  omega
theorem both_at {a b r r' t : Int} (ha : 0 < a) (hb : 0 < b) (hd : gc a b ∣ r - r') (ht : b / gc a b ∣ t * (a / gc a b) - 1) :
    a ∣ r + a * ((r' - r) / gc a b * t % (b / gc a b)) - r ∧ b ∣ r + a * ((r' - r) / gc a b * t % (b / gc a b)) - r' := by
  obtain ⟨_, p1, p2, e1, e2, _, _⟩ := coprime ha hb
  have hd' := dvd_sub_swap hd
  have e3 := Int.mul_ediv_cancel' hd'
  generalize gc a b = g at *
  generalize a / g = A at *
  generalize b / g = M at *
  generalize (r' - r) / g = D at *
  refine ⟨⟨D * t % M, by omega⟩, ?_⟩
  have em := Int.mul_ediv_add_emod (D * t) M
  have h1 : M ∣ D * (t * A - 1) - M * (D * t / M * A) := Int.dvd_sub (Int.dvd_trans ht (Int.dvd_mul_left ..)) (Int.dvd_mul_right ..)
  have h2 : D * (t * A - 1) - M * (D * t / M * A) = A * (D * t % M) - D := by
    rw [show D * t % M = D * t - M * (D * t / M) by omega]; grind
  rw [h2] at h1
  have h3 := Int.mul_dvd_mul_left g h1
  rw [e2, Int.mul_sub, ← Int.mul_assoc, e1, e3] at h3
  rwa [show r + a * (D * t % M) - r' = a * (D * t % M) - (r' - r) by omega]
theorem okD {s : Option Q4} (v : Valid s) (b : Bnd BS s) : okS (sD s) = some s := okS_of (dS_sD s) v b
example : (1 = 1) ∧ True := by simp only [compD, cMaxL1, cMaxL2, cMinL1, cMinL2, ltS0, ltS1, mTru, mOrT, mAndT, truD_bl, truD_non, truD_int, truD_tup, truD_lst, List.isEmpty_cons, List.isEmpty_nil, mPar, c2, cMax2, cMin2, cGcd, insOf_map, wipeE, List.foldr_cons, List.foldr_nil, gS, mSeq, mIfS, mRet, mRetN, mAsg, gmName, mVar_app, mC, mOp, mUn, uIsi, mB, mTNot, mTAnd, mTOr, mAnd, mOr, uNot, mIf, mNil, mCons, mTup, mLst, mCB, mCall, mCallKw, mNext, mNever, mDrop, mFor, miSeq, miZip, miRng1, miRng2, mComp, mData, mApp, mExt, mOwn, mFLst, mFCat, mFCopy, mOwnIx, mOwnLen, mOwnIn, mTYes, drawS, cAll, cAny, cList, deq_bl, owns, ownOf, loopD, gmNil, gmCons, gmTup, gmSeq, seqOf_lst, seqOf_tup, seqOf_non, seqOf_int, seqOf_bl, seqOf_str, seqOf_strm, cLen, cTuple, cInt, cAbs, oAdd_ii, oAdd_ll, oSub, oMul_ii, oMul_li, oFdiv, oMod, oPow, oI, oI0, uI, uNeg, oLt, oLe, oGt, oGe, oIsN, oNotN, isNon_lst, isNon_tup, isNon_non, isNon_int, isNon_bl, isNon_str, isNon_strm, oEq, oNe, oIx, atI_0, atI_1, atI_2, atI_3, atI_4, DL.atI_last, En.put, start0, tyD_lst, tyD_tup, tyD_non, tyD_int, tyD_bl, tyD_str, tyD_strm, isiT, deq_int, List.any_cons, List.any_nil, List.map_cons, List.map_nil, List.length_cons, List.length_nil, List.cons_append, List.nil_append, List.getElem?_cons_zero, List.getElem?_cons_succ, List.set_cons_zero, List.set_cons_succ, Bool.or_false, Bool.false_or, Bool.not_true, Bool.not_false, if_true, if_false, Bool.false_eq_true, List.reduceReplicate, Nat.reduceSub, Nat.reduceAdd, decide_eq_true_eq, Bool.not_eq_true', decide_eq_false_iff_not, fineD, true_and, and_true, and_self, sizeLine_eq, Nat.reduceLeDiff, not_true_eq_false, not_false_eq_true, beq_self_eq_true, Bool.not_eq_false, Bool.not_eq_true, reduceIte, Bool.true_eq_false, Nat.reduceEqDiff, ne_eq]
local macro_rules | `(tactic| walk_at "rd") => `(tactic| try simp only [compD, cMaxL1, cMaxL2, cMinL1, cMinL2, ltS0, ltS1, mTru, mOrT, mAndT, truD_bl, truD_non, truD_int, truD_tup, truD_lst, List.isEmpty_cons, List.isEmpty_nil, mPar, c2, cMax2, cMin2, cGcd, insOf_map, wipeE, List.foldr_cons, List.foldr_nil, gS, mSeq, mIfS, mRet, mRetN, mAsg, gmName, mVar_app, mC, mOp, mUn, uIsi, mB, mTNot, mTAnd, mTOr, mAnd, mOr, uNot, mIf, mNil, mCons, mTup, mLst, mCB, mCall, mCallKw, mNext, mNever, mDrop, mFor, miSeq, miZip, miRng1, miRng2, mComp, mData, mApp, mExt, mOwn, mFLst, mFCat, mFCopy, mOwnIx, mOwnLen, mOwnIn, mTYes, drawS, cAll, cAny, cList, deq_bl, owns, ownOf, loopD, gmNil, gmCons, gmTup, gmSeq, seqOf_lst, seqOf_tup, seqOf_non, seqOf_int, seqOf_bl, seqOf_str, seqOf_strm, cLen, cTuple, cInt, cAbs, oAdd_ii, oAdd_ll, oSub, oMul_ii, oMul_li, oFdiv, oMod, oPow, oI, oI0, uI, uNeg, oLt, oLe, oGt, oGe, oIsN, oNotN, isNon_lst, isNon_tup, isNon_non, isNon_int, isNon_bl, isNon_str, isNon_strm, oEq, oNe, oIx, atI_0, atI_1, atI_2, atI_3, atI_4, DL.atI_last, En.put, start0, tyD_lst, tyD_tup, tyD_non, tyD_int, tyD_bl, tyD_str, tyD_strm, isiT, deq_int, List.any_cons, List.any_nil, List.map_cons, List.map_nil, List.length_cons, List.length_nil, List.cons_append, List.nil_append, List.getElem?_cons_zero, List.getElem?_cons_succ, List.set_cons_zero, List.set_cons_succ, Bool.or_false, Bool.false_or, Bool.not_true, Bool.not_false, if_true, if_false, Bool.false_eq_true, List.reduceReplicate, Nat.reduceSub, Nat.reduceAdd, decide_eq_true_eq, Bool.not_eq_true', decide_eq_false_iff_not, fineD, true_and, and_true, and_self, sizeLine_eq, Nat.reduceLeDiff, not_true_eq_false, not_false_eq_true, beq_self_eq_true, Bool.not_eq_false, Bool.not_eq_true, reduceIte, Bool.true_eq_false, Nat.reduceEqDiff, ne_eq])
abbrev s_common : Stmt := top 20
theorem sc_common : FnScope ["strip", "other", "low", "high", "modulus", "remainder", "first", "last", "step", "rest", "shared", "turns", "lows", "one", "highs", "least", "most"] ["strip", "other"] (defScope s_common) := ⟨rfl, rfl, rfl, by decide +kernel, rfl, by decide +kernel, by decide +kernel⟩
theorem c_common (T : Txt mg) {f_brought : Addr} {d_brought : FuncData} (c_brought : Cal P w K mg base 1 "brought" ["low", "high", "modulus", "remainder"] (gS 4 g_brought) f_brought d_brought) {f_has_it : Addr} {d_has_it : FuncData} (c_has_it : Cal P w K mg base 1 "has_it" ["strip", "n"] (gS 2 g_has) f_has_it d_has_it) {f_inverse : Addr} {d_inverse : FuncData} (c_inverse : Cal P w K mg base 1 "inverse" ["n", "modulus"] invS f_inverse d_inverse) (F : Fun K "common" "common" s_common f fd) (hm : mg "common" = some (.ref f)) (hb : Binds K fd ["strip", "other"] []) : Cal P w K mg base 2 "common" ["strip", "other"] ((fT common)) f fd := by
  refine fnD F hm hb sc_common fT_mono (fun ds n Q h => h.1) (fun cdv A outer s H E hr => ⟨_, (dss_cons (ds_if (DW.dt (dw_or (dt_cmp op_isN simIsN (dv 0) de_non (nomark _)) (dw_or1 (dt_cmp op_isN simIsN (dv 1) de_non (nomark _))))) (dss_one (ds_ret de_non)) dss_nil)
      (dss_cons (ds_asg (dv 0) (kgseq (K := K) rfl 4 rfl (dgs_cons (dg_name 2 sc_common.nd) (dgs_cons (dg_name 3 sc_common.nd) (dgs_cons (dg_name 4 sc_common.nd) (dgs_cons (dg_name 5 sc_common.nd) dgs_nil))))))
      (dss_cons (ds_asg (dv 1) (kgseq (K := K) rfl 4 rfl (dgs_cons (dg_name 6 sc_common.nd) (dgs_cons (dg_name 7 sc_common.nd) (dgs_cons (dg_name 8 sc_common.nd) (dgs_cons (dg_name 9 sc_common.nd) dgs_nil))))))
      (dss_cons (ds_if (kteq (K := K) rfl hr.units (dv 4) de_int) (dss_one (ds_ret (de_if (dt_val (de_call c_has_it (hr.mono (by omega)) (da_cons (dv 1) (da_cons (dv 5) da_nil)))) (dv 0) de_non))) dss_nil)
      (dss_cons (ds_if (kteq (K := K) rfl hr.units (dv 8) de_int) (dss_one (ds_ret (de_if (dt_val (de_call c_has_it (hr.mono (by omega)) (da_cons (dv 0) (da_cons (dv 9) da_nil)))) (dv 1) de_non))) dss_nil)
      (dss_cons (ds_set 10 sc_common.nd (kgcd T.gcd (da_cons (dv 4) (da_cons (dv 8) da_nil))))
      (dss_cons (ds_if (ktne (K := K) rfl hr.units (de_mod (de_sub (dv 5) (dv 9)) (dv 10)) de_int) (dss_one (ds_ret de_non)) dss_nil)
      (dss_cons (ds_set 11 sc_common.nd (de_mod (de_mul (de_fdiv (de_sub (dv 9) (dv 5)) (dv 10)) (de_call c_inverse (hr.mono (by omega)) (da_cons (de_fdiv (dv 4) (dv 10)) (da_cons (de_fdiv (dv 8) (dv 10)) da_nil)))) (de_fdiv (dv 8) (dv 10))))
      (dss_cons (ds_setComp (i := 12) rfl sc_common.nd (kiseq (K := K) rfl (de_tup (da_cons (dv 2) (da_cons (dv 6) da_nil)))) (blkOk_by (own := [("one", 13)]) (N := ["strip", "other", "low", "high", "modulus", "remainder", "first", "last", "step", "rest", "shared", "turns", "lows", "one", "highs", "least", "most"]) (sc := defScope s_common) (by decide +kernel)) (fun _ _ _ _ _ => (dg_name 13 sc_common.nd)) (fun _ _ _ _ _ => (dts_one (dt_cmp op_notN simNotN (dv 13) de_non (nomark _)))) (fun _ _ _ _ _ => (dv 13)) (sw_true rfl rfl rfl (by decide +kernel)))
      (dss_cons (ds_setComp (i := 14) rfl sc_common.nd (kiseq (K := K) rfl (de_tup (da_cons (dv 3) (da_cons (dv 7) da_nil)))) (blkOk_by (own := [("one", 13)]) (N := ["strip", "other", "low", "high", "modulus", "remainder", "first", "last", "step", "rest", "shared", "turns", "lows", "one", "highs", "least", "most"]) (sc := defScope s_common) (by decide +kernel)) (fun _ _ _ _ _ => (dg_name 13 sc_common.nd)) (fun _ _ _ _ _ => (dts_one (dt_cmp op_notN simNotN (dv 13) de_non (nomark _)))) (fun _ _ _ _ _ => (dv 13)) (sw_true rfl rfl rfl (by decide +kernel)))
      (dss_cons (ds_set 15 sc_common.nd (de_if (kt_val (K := K) rfl (dv 12)) (kmaxL (K := K) rfl rfl T.max (da_cons (dv 12) da_nil)) de_non))
      (dss_cons (ds_set 16 sc_common.nd (de_if (kt_val (K := K) rfl (dv 14)) (kminL (K := K) rfl rfl T.min (da_cons (dv 14) da_nil)) de_non))
      (dss_one (ds_ret (de_call c_brought (hr.mono (by omega)) (da_cons (dv 15) (da_cons (dv 16) (da_cons (de_mul (de_fdiv (dv 4) (dv 10)) (dv 8)) (da_cons (de_add (dv 5) (de_mul (dv 4) (dv 11))) da_nil)))))))))))))))))))⟩) (fun ds n Q h => ?_)
  obtain ⟨hl, h⟩ := h
  obtain ⟨s, o, rfl, vs, bs, vo, bo, h⟩ := h
  cases s with
  | none => simp only [sD]; walk_at "rd"; cases o <;> exact h
  | some q =>
    cases o with
    | none => simp only [sD]; walk_at "rd"; exact h
    | some p =>
      have eq := okD vs bs
      have ep := okD vo bo
      by_cases h0 : q.m = 0
      · have hq : g_has [sD (some p), .int q.r] = some (.bl (has (some p) q.r)) := by simp only [g_has, ep, Option.map_some]
        simp only [common, if_pos h0] at h
        obtain ⟨a, b, m, r⟩ := q
        obtain ⟨x, y, m', r'⟩ := p
        simp only at h0 h hq
        subst h0
        simp only [sD, q4] at hq h ⊢
        walk_at "rd"
        rw [hq]
        simp only
        cases e : has (some ⟨x, y, m', r'⟩) r <;> rw [e] at h <;> walk_at "rd" <;> exact h
      · have hm : 0 < q.m := by have := vs.1; omega
        by_cases h1 : p.m = 0
        · have hq : g_has [sD (some q), .int p.r] = some (.bl (has (some q) p.r)) := by simp only [g_has, eq, Option.map_some]
          simp only [common, if_neg h0, if_pos h1] at h
          obtain ⟨a, b, m, r⟩ := q
          obtain ⟨x, y, m', r'⟩ := p
          simp only at h0 h hq h1
          subst h1
          simp only [sD, q4] at hq h ⊢
          walk_at "rd"
          simp only [h0, if_false]
          rw [hq]
          simp only
          cases e : has (some ⟨a, b, m, r⟩) r' <;> rw [e] at h <;> walk_at "rd" <;> exact h
        · have hm' : 0 < p.m := by have := vo.1; omega
          have hb3 := bs.2.2.1.2
          have hb4 := bs.2.2.2
          have hc3 := bo.2.2.1.2
          have hc4 := bo.2.2.2
          have gp := gc_pos (b := p.m) hm
          have gl := gc_le (b := p.m) hm
          obtain ⟨cp, p1, p2, e1, e2, l1, l2⟩ := coprime hm hm'
          have nb : ¬ gc q.m p.m ∣ q.r - p.r → Q (sD none) n := fun hd => by
            rw [common_no hm hm' fun x ⟨hx, hy⟩ => hd ?_] at h
            · exact h
            · obtain ⟨g1, g2⟩ := gc_dvd.mp (Int.dvd_refl (gc q.m p.m))
              have := Int.dvd_sub (Int.dvd_trans g2 hy) (Int.dvd_trans g1 hx)
              rwa [show x - p.r - (x - q.r) = q.r - p.r by omega] at this
          have nd : ∀ t, gc q.m p.m ∣ q.r - p.r → p.m / gc q.m p.m ∣ t * (q.m / gc q.m p.m) - 1 → Q (sD (brought (maxO q.l p.l) (minO q.h p.h) (lc q.m p.m) (q.r + q.m * ((p.r - q.r) / gc q.m p.m * t % (p.m / gc q.m p.m))))) n := fun t hd ht => by
            rw [common_at hm hm' (both_at hm hm' hd ht)] at h
            exact h
          clear h eq ep vs vo bs bo
          obtain ⟨a, b, m, r⟩ := q
          obtain ⟨x, y, m', r'⟩ := p
          simp only at *
          simp only [sD, q4] at nb nd ⊢
          have dd : (r - r') % gc m m' = 0 ↔ gc m m' ∣ r - r' := ⟨Int.dvd_of_emod_eq_zero, Int.emod_eq_zero_of_dvd⟩
          have c1 : ∀ i, CDivW i (gc m m') := fun i => divW gp (by omega)
          have hB : m' / gc m m' ≤ BS := by omega
          have c2 : ∀ t, 0 ≤ t → t < m' / gc m m' → CMulW ((r' - r) / gc m m') t := fun t t0 t1 => by
            have dq := div_bd (x := r' - r) (m := gc m m') (B := 2 * BS) gp (by omega)
            unfold BS at *
            exact mulOk (by omega) (by omega)
          have c3 : ∀ x, CMulW m (x % (m' / gc m m')) := fun x => by
            have := emod_bd (x := x) p2
            unfold BS at *
            exact mulOk (by omega) (by omega)
          have c4 : CMulW (m / gc m m') m' := by
            unfold BS at *
            exact mulOk (by omega) (by omega)
          have lp := Int.le_of_lt (lc_pos hm hm')
          have fin : ∀ l g t, (∀ (t : Int), gc m m' ∣ r - r' → m' / gc m m' ∣ t * (m / gc m m') - 1 → Q (match brought l g (lc m m') (r + m * ((r' - r) / gc m m' * t % (m' / gc m m'))) with
              | none => Dt.non
              | some q => Dt.tup [oi q.l, oi q.h, Dt.int q.m, Dt.int q.r]) n) → gc m m' ∣ r - r' → m' / gc m m' ∣ t * (m / gc m m') - 1 → (match g_brought [oi l, oi g, .int (m / gc m m' * m'), .int (r + m * ((r' - r) / gc m m' * t % (m' / gc m m')))] with
              | some r => Q r n
              | none => False) := fun l g t nd hd ht => by
            rw [brt (m := m / gc m m' * m') lp]
            exact nd t hd ht
          clear hb3 hb4 hc3 hc4
          cases a <;> cases b <;> cases x <;> cases y <;> simp only [oi] <;> walk_at "rd" <;> simp only [h0, h1, if_false, gcdef, gp, true_and, dd]
          all_goals (by_cases hd : gc m m' ∣ r - r'; rotate_left; (simp only [hd, not_false_eq_true, if_true]; exact nb hd))
          all_goals (simp only [hd, not_true_eq_false, if_false, c1, true_and])
          all_goals (refine ⟨rfl, _, _, rfl, p2, hB, cp, fun t t0 t1 ht => ?_⟩)
          all_goals (walk_at "rd")
          all_goals (simp only [c2 t t0 t1, c3, c4, p2, true_and])
          all_goals first
            | exact fin none none t nd hd ht
            | exact fin none (some _) t nd hd ht
            | exact fin (some _) none t nd hd ht
            | exact fin (some _) (some _) t nd hd ht
end
end K11

set_option Elab.async false
set_option linter.all false
set_option maxRecDepth 100000
set_option maxHeartbeats 2000000
set_option autoImplicit false
namespace K11
open K10 PySem PySem.Spec L2 DL
example : (1 = 1) ∧ True := by simp only [mTru, mOrT, mAndT, truD_bl, truD_non, truD_int, truD_tup, truD_lst, List.isEmpty_cons, List.isEmpty_nil, mPar, c2, cMax2, cMin2, cGcd, insOf_map, wipeE, List.foldr_cons, List.foldr_nil, gS, mSeq, mIfS, mRet, mRetN, mAsg, gmName, mVar_app, mC, mOp, mUn, uIsi, mB, mTNot, mTAnd, mTOr, mAnd, mOr, uNot, mIf, mNil, mCons, mTup, mLst, mCB, mCall, mCallKw, mNext, mNever, mDrop, mFor, miSeq, miZip, miRng1, miRng2, mComp, mData, mApp, mExt, mOwn, mFLst, mFCat, mFCopy, mOwnIx, mOwnLen, mOwnIn, mTYes, drawS, cAll, cAny, cList, deq_bl, owns, ownOf, loopD, gmNil, gmCons, gmTup, gmSeq, seqOf_lst, seqOf_tup, seqOf_non, seqOf_int, seqOf_bl, seqOf_str, seqOf_strm, cLen, cTuple, cInt, cAbs, oAdd_ii, oAdd_ll, oSub, oMul_ii, oMul_li, oFdiv, oMod, oPow, oI, oI0, uI, uNeg, oLt, oLe, oGt, oGe, oIsN, oNotN, isNon_lst, isNon_tup, isNon_non, isNon_int, isNon_bl, isNon_str, isNon_strm, oEq, oNe, oIx, atI_0, atI_1, atI_2, atI_3, atI_4, DL.atI_last, En.put, start0, tyD_lst, tyD_tup, tyD_non, tyD_int, tyD_bl, tyD_str, tyD_strm, isiT, deq_int, List.any_cons, List.any_nil, List.map_cons, List.map_nil, List.length_cons, List.length_nil, List.cons_append, List.nil_append, List.getElem?_cons_zero, List.getElem?_cons_succ, List.set_cons_zero, List.set_cons_succ, Bool.or_false, Bool.false_or, Bool.not_true, Bool.not_false, if_true, if_false, Bool.false_eq_true, List.reduceReplicate, Nat.reduceSub, Nat.reduceAdd, decide_eq_true_eq, Bool.not_eq_true', decide_eq_false_iff_not, fineD, true_and, and_true, and_self, sizeLine_eq, Nat.reduceLeDiff, not_true_eq_false, not_false_eq_true, beq_self_eq_true, Bool.not_eq_false, Bool.not_eq_true, reduceIte, Bool.true_eq_false, Nat.reduceEqDiff, ne_eq]
local macro_rules | `(tactic| walk_at "rd") => `(tactic| try simp only [mTru, mOrT, mAndT, truD_bl, truD_non, truD_int, truD_tup, truD_lst, List.isEmpty_cons, List.isEmpty_nil, mPar, c2, cMax2, cMin2, cGcd, insOf_map, wipeE, List.foldr_cons, List.foldr_nil, gS, mSeq, mIfS, mRet, mRetN, mAsg, gmName, mVar_app, mC, mOp, mUn, uIsi, mB, mTNot, mTAnd, mTOr, mAnd, mOr, uNot, mIf, mNil, mCons, mTup, mLst, mCB, mCall, mCallKw, mNext, mNever, mDrop, mFor, miSeq, miZip, miRng1, miRng2, mComp, mData, mApp, mExt, mOwn, mFLst, mFCat, mFCopy, mOwnIx, mOwnLen, mOwnIn, mTYes, drawS, cAll, cAny, cList, deq_bl, owns, ownOf, loopD, gmNil, gmCons, gmTup, gmSeq, seqOf_lst, seqOf_tup, seqOf_non, seqOf_int, seqOf_bl, seqOf_str, seqOf_strm, cLen, cTuple, cInt, cAbs, oAdd_ii, oAdd_ll, oSub, oMul_ii, oMul_li, oFdiv, oMod, oPow, oI, oI0, uI, uNeg, oLt, oLe, oGt, oGe, oIsN, oNotN, isNon_lst, isNon_tup, isNon_non, isNon_int, isNon_bl, isNon_str, isNon_strm, oEq, oNe, oIx, atI_0, atI_1, atI_2, atI_3, atI_4, DL.atI_last, En.put, start0, tyD_lst, tyD_tup, tyD_non, tyD_int, tyD_bl, tyD_str, tyD_strm, isiT, deq_int, List.any_cons, List.any_nil, List.map_cons, List.map_nil, List.length_cons, List.length_nil, List.cons_append, List.nil_append, List.getElem?_cons_zero, List.getElem?_cons_succ, List.set_cons_zero, List.set_cons_succ, Bool.or_false, Bool.false_or, Bool.not_true, Bool.not_false, if_true, if_false, Bool.false_eq_true, List.reduceReplicate, Nat.reduceSub, Nat.reduceAdd, decide_eq_true_eq, Bool.not_eq_true', decide_eq_false_iff_not, fineD, true_and, and_true, and_self, sizeLine_eq, Nat.reduceLeDiff, not_true_eq_false, not_false_eq_true, beq_self_eq_true, Bool.not_eq_false, Bool.not_eq_true, reduceIte, Bool.true_eq_false, Nat.reduceEqDiff, ne_eq])
section
variable {k : Nat} {P : Program} {w : World} {K : PySem.W.Frag} {mg : Str → Option Value} {base : Heap} {f : Addr} {fd : FuncData}
abbrev s_strip_met : Stmt := top 19
theorem sc_strip_met : FnScope ["strip", "other"] ["strip", "other"] (defScope s_strip_met) := ⟨rfl, rfl, rfl, by decide +kernel, rfl, by decide +kernel, by decide +kernel⟩
theorem c_strip_met (T : Txt mg) {f_common : Addr} {d_common : FuncData} (c_common : Cal P w K mg base 2 "common" ["strip", "other"] ((fT common)) f_common d_common) {f_strip_from : Addr} {d_strip_from : FuncData} (c_strip_from : Cal P w K mg base 4 "strip_from" ["thing"] (gS 1 g_strip_from) f_strip_from d_strip_from) (F : Fun K "strip_met" "strip_met" s_strip_met f fd) (hm : mg "strip_met" = some (.ref f)) (hb : Binds K fd ["strip", "other"] []) : Cal P w K mg base 5 "strip_met" ["strip", "other"] ((fL common)) f fd := by
  refine fnD F hm hb sc_strip_met fL_mono (fun ds n Q h => h.1) (fun cdv A outer s H E hr => ⟨_, (dss_one (ds_ret (de_call c_common (hr.mono (by omega)) (da_cons (de_call c_strip_from (hr.mono (by omega)) (da_cons (dv 0) da_nil)) (da_cons (de_call c_strip_from (hr.mono (by omega)) (da_cons (dv 1) da_nil)) da_nil)))))⟩) (fun ds n Q h => ?_)
  obtain ⟨hl, h⟩ := h
  obtain ⟨d, e, s, o, rfl, ed, ee, h⟩ := h
  obtain ⟨a1, a2⟩ := sf_of ed
  obtain ⟨b1, b2⟩ := sf_of ee
  obtain ⟨_, vs, bs⟩ := okS_inv ed
  obtain ⟨_, vo, bo⟩ := okS_inv ee
  walk_at "rd"
  simp only [a1, b1]
  exact ⟨rfl, s, o, rfl, vs, bs, vo, bo, h⟩
theorem loopInv {g : MG} {b : MS} {D : DEnds} (I : List Dt → En → Prop) (h0 : ∀ ρ, I [] ρ → D.nx ρ) (hs : ∀ x xs ρ, I (x :: xs) ρ → ∀ kk : En → Prop, (∀ ρ', I xs ρ' → kk ρ') → g x ρ (fun ρ1 => b ⟨kk, D.rt, D.nx, kk⟩ ρ1)) :
    ∀ xs ρ, I xs ρ → loopD g b xs D ρ
  | [], ρ, h => h0 ρ h
  | x :: xs, ρ, h => hs x xs ρ h _ fun ρ' h' => loopInv I h0 hs xs ρ' h'
def g_without : List Dt → Option Dt
  | [d, .int n] => (okS d).map fun s => sD (without n s)
  | _ => none
/-- where the turns stand -/
def JJ (i : Int) (xs : List Int) (f : Option Q4) : Prop := (f = none ∧ (xs.filter (· ≠ i)).length ≤ 2) ∨ (∃ x, f = one x ∧ -BS ≤ x ∧ x ≤ BS ∧ (xs.filter (· ≠ i)).length ≤ 1) ∨ (xs.filter (· ≠ i)).length = 0
theorem okOne {x : Int} (h : -BS ≤ x ∧ x ≤ BS) : okS (sD (one x)) = some (one x) := okD ⟨Int.le_refl 0, brought_single x⟩ ⟨h, h, ⟨(by decide : -BS ≤ (0 : Int)), (by decide : (0 : Int) ≤ BS)⟩, h⟩
theorem isLst_sD (s : Option Q4) : isLst (sD s) = false := by cases s <;> rfl
theorem deq_in {i : Int} : deq (.int i) .non = false := rfl
abbrev s_strip_without : Stmt := top 22
theorem sc_strip_without : FnScope ["strip", "n", "low", "high", "modulus", "remainder", "many", "found", "k"] ["strip", "n"] (defScope s_strip_without) := ⟨rfl, rfl, rfl, by decide +kernel, rfl, by decide +kernel, by decide +kernel⟩
theorem c_strip_without (T : Txt mg) {f_brought : Addr} {d_brought : FuncData} (c_brought : Cal P w K mg base 1 "brought" ["low", "high", "modulus", "remainder"] (gS 4 g_brought) f_brought d_brought) {f_has_it : Addr} {d_has_it : FuncData} (c_has_it : Cal P w K mg base 1 "has_it" ["strip", "n"] (gS 2 g_has) f_has_it d_has_it) {f_how_many : Addr} {d_how_many : FuncData} (c_how_many : Cal P w K mg base 1 "how_many" ["strip"] (gS 1 g_size) f_how_many d_how_many) {f_integer_from : Addr} {d_integer_from : FuncData} (c_integer_from : Cal P w K mg base 2 "integer_from" ["n"] (gS 1 g_integer_from) f_integer_from d_integer_from) {f_least_around : Addr} {d_least_around : FuncData} (c_least_around : Cal P w K mg base 2 "least_around" ["strip", "other"] (gS 2 (g2T around)) f_least_around d_least_around) {f_one_of : Addr} {d_one_of : FuncData} (c_one_of : Cal P w K mg base 1 "one_of" ["n"] (gS 1 g_one_of) f_one_of d_one_of) {f_strip_from : Addr} {d_strip_from : FuncData} (c_strip_from : Cal P w K mg base 4 "strip_from" ["thing"] (gS 1 g_strip_from) f_strip_from d_strip_from) (F : Fun K "strip_without" "strip_without" s_strip_without f fd) (hm : mg "strip_without" = some (.ref f)) (hb : Binds K fd ["strip", "n"] []) : Cal P w K mg base 5 "strip_without" ["strip", "n"] (gS 2 g_without) f fd := by
  refine fnD F hm hb sc_strip_without gS_mono (fun ds n Q h => h.1) (fun cdv A outer s H E hr => ⟨_, (dss_cons (ds_par 0 1 rfl sc_strip_without.nd (da_cons (de_call c_strip_from (hr.mono (by omega)) (da_cons (dv 0) da_nil)) (da_cons (de_call c_integer_from (hr.mono (by omega)) (da_cons (dv 1) da_nil)) da_nil)))
      (dss_cons (ds_if (dt_not (dt_val (de_call c_has_it (hr.mono (by omega)) (da_cons (dv 0) (da_cons (dv 1) da_nil))))) (dss_one (ds_ret (dv 0))) dss_nil)
      (dss_cons (ds_asg (dv 0) (kgseq (K := K) rfl 4 rfl (dgs_cons (dg_name 2 sc_strip_without.nd) (dgs_cons (dg_name 3 sc_strip_without.nd) (dgs_cons (dg_name 4 sc_strip_without.nd) (dgs_cons (dg_name 5 sc_strip_without.nd) dgs_nil))))))
      (dss_cons (ds_if (kteq (K := K) rfl hr.units (dv 4) de_int) (dss_one (ds_ret de_non)) dss_nil)
      (dss_cons (ds_set 6 sc_strip_without.nd (de_call c_how_many (hr.mono (by omega)) (da_cons (dv 0) da_nil)))
      (dss_cons (ds_if (DW.dt (dw_and (dt_cmp op_notN simNotN (dv 6) de_non (nomark _)) (dw_and1 (dt_cmp op_le simLe (dv 6) de_int (nomark _))))) (dss_cons (ds_set 7 sc_strip_without.nd de_non)
      (dss_cons (ds_for PassesOwn.never rfl (di_rng1 T.range (da_cons (dv 6) da_nil)) (dg_name 8 sc_strip_without.nd) (dss_one (ds_if (ktne (K := K) rfl hr.units (de_add (dv 2) (de_mul (dv 8) (dv 4))) (dv 1)) (dss_one (ds_set 7 sc_strip_without.nd (de_call c_least_around (hr.mono (by omega)) (da_cons (dv 7) (da_cons (de_call c_one_of (hr.mono (by omega)) (da_cons (de_add (dv 2) (de_mul (dv 8) (dv 4))) da_nil)) da_nil))))) dss_nil)))
      (dss_one (ds_ret (dv 7))))) dss_nil)
      (dss_cons (ds_if (kteq (K := K) rfl hr.units (dv 1) (dv 2)) (dss_one (ds_ret (de_call c_brought (hr.mono (by omega)) (da_cons (de_add (dv 2) (dv 4)) (da_cons (dv 3) (da_cons (dv 4) (da_cons (dv 5) da_nil))))))) dss_nil)
      (dss_cons (ds_if (kteq (K := K) rfl hr.units (dv 1) (dv 3)) (dss_one (ds_ret (de_call c_brought (hr.mono (by omega)) (da_cons (dv 2) (da_cons (de_sub (dv 3) (dv 4)) (da_cons (dv 4) (da_cons (dv 5) da_nil))))))) dss_nil)
      (dss_one (ds_ret (dv 0)))))))))))⟩) (fun ds n Q h => ?_)
  obtain ⟨hl, h⟩ := h
  match ds, hl with
  | [d, .int i], hl =>
    clear hl
    simp only [g_without] at h
    cases ed : okS d with
    | none => rw [ed] at h; exact h.elim
    | some s =>
      rw [ed] at h
      replace h : Q (sD (without i s)) n := h
      obtain ⟨a1, a2⟩ := sf_of ed
      obtain ⟨_, vs, bs⟩ := okS_inv ed
      have hh : g_has [sD s, .int i] = some (.bl (has s i)) := by simp only [g_has, a2, Option.map_some]
      have hs : g_size [sD s] = some (size s) := by simp only [g_size, a2, Option.map_some]
      walk_at "rd"
      simp only [a1, g_integer_from, hh]
      walk_at "rd"
      cases s with
      | none => simp only [has, sD]; walk_at "rd"; exact h
      | some q =>
        cases eh : has (some q) i with
        | false =>
          walk_at "rd"
          simp only [without, eh] at h
          exact h
        | true =>
          simp only [without, eh, if_true] at h
          have b3 := bs.2.2.1
          have b4 := bs.2.2.2
          have m0 := vs.1
          by_cases h0 : q.m = 0
          · rw [if_pos h0] at h
            obtain ⟨a, b, m, r⟩ := q
            simp only at h0
            subst h0
            simp only [sD, q4]
            walk_at "rd"
            exact h
          · rw [if_neg h0] at h
            have hm : 0 < q.m := by omega
            have hbr : ∀ l g, g_brought [oi l, oi g, .int q.m, .int q.r] = some (sD (brought l g q.m q.r)) := fun l g => brt m0
            obtain ⟨l, g, m, r⟩ := q
            simp only at h0 h m0 hm b3 b4 hbr
            have gb : ∀ l g, Q (sD (brought l g m r)) n → (match g_brought [oi l, oi g, .int m, .int r] with
              | some r => Q r n
              | none => False) := fun l g q => by rw [hbr]; exact q
            simp only [size, if_neg h0] at hs
            have hi := has_some.mp eh
            rcases l with _ | a <;> rcases g with _ | b <;> simp only [sD, q4, oi] at hs ⊢ <;> walk_at "rd" <;> simp only [h0, if_false, hs] <;> walk_at "rd" <;> try simp only [deq_in, Bool.false_eq_true, if_false]
            · exact h
            · simp only at h
              split
              · rename_i e; rw [if_pos e] at h; exact gb none (some _) h
              · rename_i e; rw [if_neg e] at h; exact h
            · simp only at h
              split
              · rename_i e; rw [if_pos e] at h; exact gb (some _) none h
              · rename_i e; rw [if_neg e] at h; exact h
            · simp only at h
              by_cases hk : (b - a) / m + 1 ≤ 3
              · rw [if_pos hk] at h
                simp only [hk, if_true]
                have i1 := hi.1 a rfl
                have i2 := hi.2.1 b rfl
                have q0 : 0 ≤ (b - a) / m := Int.ediv_nonneg (by omega) (by omega)
                have kB : ∀ k : Nat, (k : Int) < (b - a) / m + 1 → a ≤ a + (k : Int) * m ∧ a + (k : Int) * m ≤ b := fun k hk => by
                  have h1 := Int.mul_nonneg (Int.natCast_nonneg k) (Int.le_of_lt hm)
                  have h2 : (k : Int) * m ≤ (b - a) / m * m := Int.mul_le_mul_of_nonneg_right (by omega) (by omega)
                  have h3 := Int.ediv_mul_le (b - a) (b := m) (by omega)
                  omega
                have bsa := bs.1
                have bsb := bs.2.1
                simp only [bnd] at bsa bsb
                have inn : ∃ j : Nat, (j : Int) < (b - a) / m + 1 ∧ i = a + (j : Int) * m := by
                  have d1 := has_dvd eh
                  have d2 : m ∣ a - r := by
                    rcases valid_shape vs with ⟨h, _⟩ | ⟨_, _, _, hl, _⟩
                    · exact absurd h h0
                    · exact dvd_sub_swap (Int.dvd_of_emod_eq_zero (hl a rfl))
                  obtain ⟨j, hj⟩ : m ∣ i - a := by
                    have := Int.dvd_sub d1 d2
                    rwa [show i - r - (a - r) = i - a by omega] at this
                  have j0 : 0 ≤ j := by
                    rcases Int.lt_or_le j 0 with h | h
                    · have := Int.mul_neg_of_pos_of_neg hm h
                      omega
                    · exact h
                  have j1 : j ≤ (b - a) / m := by
                    refine Int.le_ediv_of_mul_le hm ?_
                    rw [Int.mul_comm]; omega
                  refine ⟨j.toNat, by omega, ?_⟩
                  rw [show ((j.toNat : Nat) : Int) = j by omega, Int.mul_comm]; omega
                obtain ⟨R, hR⟩ : ∃ R, R = fold1 (((List.range ((b - a) / m + 1).toNat).map fun k : Nat => a + (k : Int) * m).filter (· ≠ i)) none := ⟨_, rfl⟩
                rw [← hR] at h
                have J0 : JJ i ((List.range ((b - a) / m + 1).toNat).map fun k : Nat => a + (k : Int) * m) none := by
                  refine .inl ⟨rfl, ?_⟩
                  have h1 : (((List.range ((b - a) / m + 1).toNat).map fun k : Nat => a + (k : Int) * m).filter (· ≠ i)).length < ((List.range ((b - a) / m + 1).toNat).map fun k : Nat => a + (k : Int) * m).length := by
                    refine List.length_filter_lt_length_iff_exists.mpr ?_
                    obtain ⟨j, j1, j2⟩ := inn
                    exact ⟨i, List.mem_map.mpr ⟨j, List.mem_range.mpr (by omega), j2.symm⟩, by simp⟩
                  rw [List.length_map, List.length_range] at h1
                  omega
                clear hs ed hh a1 a2 eh inn
                refine ⟨by omega, loopInv (fun xs ρ => ∃ (ks : List Nat) (f : Option Q4) (kk : SV), xs = ks.map (fun k : Nat => Dt.int (0 + (k : Int))) ∧ (∀ k ∈ ks, (k : Int) < (b - a) / m + 1) ∧ JJ i (ks.map fun k : Nat => a + (k : Int) * m) f ∧ fold1 ((ks.map fun k : Nat => a + (k : Int) * m).filter (· ≠ i)) f = R ∧
                  ρ = { n := n, sl := [SV.d (Dt.tup [Dt.int a, Dt.int b, Dt.int m, Dt.int r]), SV.d (Dt.int i), SV.d (Dt.int a), SV.d (Dt.int b), SV.d (Dt.int m), SV.d (Dt.int r), SV.d (Dt.int ((b - a) / m + 1)), SV.d (sD f), kk] }) ?_ ?_ _ _ ⟨List.range ((b - a) / m + 1).toNat, none, _, rfl, fun k hk => by have := List.mem_range.mp hk; omega, J0, hR.symm, rfl⟩⟩
                · rintro ρ ⟨ks, f, kk, e, _, _, e2, rfl⟩
                  cases ks with
                  | nil => walk_at "rd"; rw [← e2] at h; exact h
                  | cons k ks => cases e
                · rintro x xs ρ ⟨ks, f, kk, e, hk, hJ, e2, rfl⟩ go hgo
                  cases ks with
                  | nil => cases e
                  | cons k ks =>
                    cases e
                    obtain ⟨k1, k2⟩ := kB k (hk k (by simp))
                    have cm : CMulW (k : Int) m := mulOk (by have := hk k (by simp); omega) (by unfold BS at b3; omega)
                    walk_at "rd"
                    simp only [Int.zero_add, cm, true_and]
                    by_cases ei : a + (k : Int) * m = i
                    · simp only [ei, not_true_eq_false, if_false]
                      simp only [List.map_cons, ei] at hJ e2
                      refine hgo _ ⟨ks, f, _, rfl, fun k hk' => hk k (by simp [hk']), ?_, ?_, rfl⟩
                      · simpa [JJ, List.filter_cons] using hJ
                      · simpa [List.filter_cons] using e2
                    · simp only [ei, not_false_eq_true, if_true, g_one_of]
                      have ft : decide (a + (k : Int) * m ≠ i) = true := by simpa using ei
                      simp only [JJ, List.map_cons, List.filter_cons, ft, if_true, List.length_cons] at hJ e2
                      have ok1 := okOne (x := a + (k : Int) * m) (by omega)
                      rcases hJ with ⟨rfl, hl1⟩ | ⟨x, rfl, x1, x2, hl1⟩ | hl1
                      · have okn : okS (sD none) = some none := rfl
                        simp only [g2T, okn]
                        rw [show sD (some ⟨some (a + (k : Int) * m), some (a + (k : Int) * m), 0, a + (k : Int) * m⟩) = sD (one (a + (k : Int) * m)) from rfl, ok1]
                        simp only [isLst_sD, Bool.or_self, Bool.false_eq_true, if_false]
                        walk_at "rd"
                        exact hgo _ ⟨ks, _, _, rfl, fun k hk' => hk k (by simp [hk']), .inr (.inl ⟨_, rfl, by omega, by omega, by omega⟩), e2, rfl⟩
                      · have ok2 := okOne (x := x) ⟨x1, x2⟩
                        simp only [g2T, ok2]
                        rw [show sD (some ⟨some (a + (k : Int) * m), some (a + (k : Int) * m), 0, a + (k : Int) * m⟩) = sD (one (a + (k : Int) * m)) from rfl, ok1]
                        simp only [isLst_sD, Bool.or_self, Bool.false_eq_true, if_false]
                        walk_at "rd"
                        exact hgo _ ⟨ks, _, _, rfl, fun k hk' => hk k (by simp [hk']), .inr (.inr (by omega)), e2, rfl⟩
                      · omega
              · rw [if_neg hk] at h
                simp only [hk, if_false]
                split
                · rename_i e; rw [if_pos e] at h; exact gb (some _) (some _) h
                · rename_i e
                  rw [if_neg e] at h
                  split
                  · rename_i e; rw [if_pos e] at h; exact gb (some _) (some _) h
                  · rename_i e; rw [if_neg e] at h; exact h
  | [_, .non], _ => exact h.elim
  | [_, .bl _], _ => exact h.elim
  | [_, .str _], _ => exact h.elim
  | [_, .tup _], _ => exact h.elim
  | [_, .lst _], _ => exact h.elim
  | [_, .strm], _ => exact h.elim
end
end K11

set_option Elab.async false
set_option linter.all false
set_option maxRecDepth 100000
set_option maxHeartbeats 2000000
set_option autoImplicit false
namespace K11
open K10 PySem PySem.Spec L2 DL
example : (1 = 1) ∧ True := by simp only [compD, cMaxL, cMinL, oi_non, Option.isNone_none, Option.isNone_some, ltS0, ltS1, mTru, mOrT, mAndT, truD_bl, truD_non, truD_int, truD_tup, truD_lst, List.isEmpty_cons, List.isEmpty_nil, mPar, c2, cMax2, cMin2, cGcd, insOf_map, wipeE, List.foldr_cons, List.foldr_nil, gS, mSeq, mIfS, mRet, mRetN, mAsg, gmName, mVar_app, mC, mOp, mUn, uIsi, mB, mTNot, mTAnd, mTOr, mAnd, mOr, uNot, mIf, mNil, mCons, mTup, mLst, mCB, mCall, mCallKw, mNext, mNever, mDrop, mFor, miSeq, miZip, miRng1, miRng2, mComp, mData, mApp, mExt, mOwn, mFLst, mFCat, mFCopy, mOwnIx, mOwnLen, mOwnIn, mTYes, drawS, cAll, cAny, cList, deq_bl, owns, ownOf, loopD, gmNil, gmCons, gmTup, gmSeq, seqOf_lst, seqOf_tup, seqOf_non, seqOf_int, seqOf_bl, seqOf_str, seqOf_strm, cLen, cTuple, cInt, cAbs, oAdd_ii, oAdd_ll, oSub, oMul_ii, oMul_li, oFdiv, oMod, oPow, oI, oI0, uI, uNeg, oLt, oLe, oGt, oGe, oIsN, oNotN, isNon_lst, isNon_tup, isNon_non, isNon_int, isNon_bl, isNon_str, isNon_strm, oEq, oNe, oIx, atI_0, atI_1, atI_2, atI_3, atI_4, DL.atI_last, En.put, start0, tyD_lst, tyD_tup, tyD_non, tyD_int, tyD_bl, tyD_str, tyD_strm, isiT, deq_int, List.any_cons, List.any_nil, List.map_cons, List.map_nil, List.length_cons, List.length_nil, List.cons_append, List.nil_append, List.getElem?_cons_zero, List.getElem?_cons_succ, List.set_cons_zero, List.set_cons_succ, Bool.or_false, Bool.false_or, Bool.not_true, Bool.not_false, if_true, if_false, Bool.false_eq_true, List.reduceReplicate, Nat.reduceSub, Nat.reduceAdd, decide_eq_true_eq, Bool.not_eq_true', decide_eq_false_iff_not, fineD, true_and, and_true, and_self, sizeLine_eq, Nat.reduceLeDiff, not_true_eq_false, not_false_eq_true, beq_self_eq_true, Bool.not_eq_false, Bool.not_eq_true, reduceIte, Bool.true_eq_false, Nat.reduceEqDiff, ne_eq]
local macro_rules | `(tactic| walk_at "rd") => `(tactic| try simp only [compD, cMaxL, cMinL, oi_non, Option.isNone_none, Option.isNone_some, ltS0, ltS1, mTru, mOrT, mAndT, truD_bl, truD_non, truD_int, truD_tup, truD_lst, List.isEmpty_cons, List.isEmpty_nil, mPar, c2, cMax2, cMin2, cGcd, insOf_map, wipeE, List.foldr_cons, List.foldr_nil, gS, mSeq, mIfS, mRet, mRetN, mAsg, gmName, mVar_app, mC, mOp, mUn, uIsi, mB, mTNot, mTAnd, mTOr, mAnd, mOr, uNot, mIf, mNil, mCons, mTup, mLst, mCB, mCall, mCallKw, mNext, mNever, mDrop, mFor, miSeq, miZip, miRng1, miRng2, mComp, mData, mApp, mExt, mOwn, mFLst, mFCat, mFCopy, mOwnIx, mOwnLen, mOwnIn, mTYes, drawS, cAll, cAny, cList, deq_bl, owns, ownOf, loopD, gmNil, gmCons, gmTup, gmSeq, seqOf_lst, seqOf_tup, seqOf_non, seqOf_int, seqOf_bl, seqOf_str, seqOf_strm, cLen, cTuple, cInt, cAbs, oAdd_ii, oAdd_ll, oSub, oMul_ii, oMul_li, oFdiv, oMod, oPow, oI, oI0, uI, uNeg, oLt, oLe, oGt, oGe, oIsN, oNotN, isNon_lst, isNon_tup, isNon_non, isNon_int, isNon_bl, isNon_str, isNon_strm, oEq, oNe, oIx, atI_0, atI_1, atI_2, atI_3, atI_4, DL.atI_last, En.put, start0, tyD_lst, tyD_tup, tyD_non, tyD_int, tyD_bl, tyD_str, tyD_strm, isiT, deq_int, List.any_cons, List.any_nil, List.map_cons, List.map_nil, List.length_cons, List.length_nil, List.cons_append, List.nil_append, List.getElem?_cons_zero, List.getElem?_cons_succ, List.set_cons_zero, List.set_cons_succ, Bool.or_false, Bool.false_or, Bool.not_true, Bool.not_false, if_true, if_false, Bool.false_eq_true, List.reduceReplicate, Nat.reduceSub, Nat.reduceAdd, decide_eq_true_eq, Bool.not_eq_true', decide_eq_false_iff_not, fineD, true_and, and_true, and_self, sizeLine_eq, Nat.reduceLeDiff, not_true_eq_false, not_false_eq_true, beq_self_eq_true, Bool.not_eq_false, Bool.not_eq_true, reduceIte, Bool.true_eq_false, Nat.reduceEqDiff, ne_eq])
section
variable {k : Nat} {P : Program} {w : World} {K : PySem.W.Frag} {mg : Str → Option Value} {base : Heap} {f : Addr} {fd : FuncData}
/-- turns that are left are enough -/
def Enough (L : Nat) (x y : Int) : Prop := (y ≤ x ∧ x * y < 2 ^ L) ∨ (x < y ∧ 1 ≤ L ∧ x * y < 2 ^ (L - 1))
theorem enough_turn {L : Nat} {x y : Int} (x0 : 0 ≤ x) (y0 : 0 < y) (h : Enough (L + 1) x y) : Enough L y (x % y) := by
  have e := Int.mul_ediv_add_emod x y
  have b := emod_bd (x := x) y0
  rcases h with ⟨h1, h2⟩ | ⟨h1, h2, h3⟩
  · refine .inl ⟨by omega, ?_⟩
    have q1 : 1 ≤ x / y := Int.le_ediv_of_mul_le y0 (by omega)
    have q2 : y * 1 ≤ y * (x / y) := Int.mul_le_mul_of_nonneg_left q1 (by omega)
    have q3 : y * (x % y + x % y) ≤ y * x := Int.mul_le_mul_of_nonneg_left (by omega) (by omega)
    rw [Int.mul_add, Int.mul_comm y x] at q3
    rw [Int.pow_succ] at h2
    omega
  · have : x % y = x := Int.emod_eq_of_lt x0 h1
    rw [this]
    refine .inl ⟨by omega, ?_⟩
    rw [Int.mul_comm]
    simpa using h3
theorem enough_end {x y : Int} (y0 : 0 < y) (h : Enough 0 x y) : False := by
  rcases h with ⟨h1, h2⟩ | ⟨_, h, _⟩
  · have : 1 * 1 ≤ x * y := Int.mul_le_mul (by omega) (by omega) (by omega) (by omega)
    simp at h2; omega
  · omega
abbrev GB : Int := 100000000000000000000000000000000000000000000000000000000000000000000000000000000000000000000000000000000000000000000000000000000000000000000000000000000000000000000000000000000000000000000000000000000000000000000000
theorem enough_start {x y : Int} (x0 : 0 ≤ x) (y0 : 0 ≤ y) (x1 : x ≤ GB) (y1 : y ≤ GB) : Enough 1500 x y := by
  have h : x * y ≤ GB * GB := Int.mul_le_mul x1 y1 y0 (by decide)
  have h2 : GB * GB < 2 ^ 1499 := by decide +kernel
  have h3 : (2 : Int) ^ 1499 ≤ 2 ^ 1500 := by decide +kernel
  rcases Int.lt_or_le x y with h4 | h4
  · exact .inr ⟨h4, by decide, by have : (1500 - 1 : Nat) = 1499 := rfl; rw [this]; omega⟩
  · exact .inl ⟨h4, by omega⟩
theorem gc_turn (x y : Int) : gc y (x - y * (x / y)) = gc x y := by
  refine dvd_ext (gc_nn _ _) (gc_nn _ _) fun d => ?_
  rw [gc_dvd, gc_dvd]
  constructor
  · rintro ⟨h1, h2⟩
    refine ⟨?_, h1⟩
    have := Int.dvd_add h2 (Int.dvd_trans h1 (Int.dvd_mul_right y (x / y)))
    rwa [show x - y * (x / y) + y * (x / y) = x by omega] at this
  · rintro ⟨h1, h2⟩
    exact ⟨h2, Int.dvd_sub h1 (Int.dvd_trans h2 (Int.dvd_mul_right y (x / y)))⟩
theorem gc_abs (a b : Int) : gc (if a < 0 then -a else a) (if b < 0 then -b else b) = gc a b :=
  dvd_ext (gc_nn _ _) (gc_nn _ _) fun d => by rw [gc_dvd, gc_dvd, abs_dvd, abs_dvd]
theorem gc_zero {x : Int} (h : 0 ≤ x) : gc x 0 = x := dvd_ext (gc_nn _ _) h fun d => by
  rw [gc_dvd]
  exact ⟨fun h => h.1, fun h => ⟨h, Int.dvd_zero d⟩⟩
def g_lgcd : List Dt → Option Dt
  | [.int a, .int b] => if (-GB ≤ a ∧ a ≤ GB) ∧ (-GB ≤ b ∧ b ≤ GB) then some (.int (gc a b)) else none
  | _ => none
abbrev s_q_strip_gcd : Stmt := top 34
theorem sc_q_strip_gcd : FnScope ["_law_one", "_law_other", "_law_turn"] ["_law_one", "_law_other"] (defScope s_q_strip_gcd) := ⟨rfl, rfl, rfl, by decide +kernel, rfl, by decide +kernel, by decide +kernel⟩
theorem c_q_strip_gcd (T : Txt mg)  (F : Fun K "_law_strip_gcd" "_law_strip_gcd" s_q_strip_gcd f fd) (hm : mg "_law_strip_gcd" = some (.ref f)) (hb : Binds K fd ["_law_one", "_law_other"] []) : Cal P w K mg base 1 "_law_strip_gcd" ["_law_one", "_law_other"] (gS 2 g_lgcd) f fd := by
  refine fnD F hm hb sc_q_strip_gcd gS_mono (fun ds n Q h => h.1) (fun cdv A outer s H E hr => ⟨_, (dss_cons (ds_par 0 1 rfl sc_q_strip_gcd.nd (da_cons (de_callB call_abs simAbs T.abs (da_cons (dv 0) da_nil)) (da_cons (de_callB call_abs simAbs T.abs (da_cons (dv 1) da_nil)) da_nil)))
      (dss_cons (ds_for PassesOwn.never rfl (di_rng1 T.range (da_cons de_int da_nil)) (dg_name 2 sc_q_strip_gcd.nd) (dss_cons (ds_if (kteq (K := K) rfl hr.units (dv 1) de_int) (dss_one (ds_ret (dv 0))) dss_nil)
      (dss_one (ds_par 0 1 rfl sc_q_strip_gcd.nd (da_cons (dv 1) (da_cons (de_sub (dv 0) (de_mul (dv 1) (de_fdiv (dv 0) (dv 1)))) da_nil))))))
      (dss_one (ds_ret (dv 0)))))⟩) (fun ds n Q h => ?_)
  obtain ⟨hl, h⟩ := h
  unfold g_lgcd at h
  split at h
  · rename_i r0 e0
    split at e0
    · rename_i a b
      split at e0
      · rename_i hc
        cases e0
        obtain ⟨⟨a1, a2⟩, b1, b2⟩ := hc
        walk_at "rd"
        refine ⟨by decide, ?_⟩
        have st := enough_start (x := if a < 0 then -a else a) (y := if b < 0 then -b else b) (by split <;> omega) (by split <;> omega) (by split <;> omega) (by split <;> omega)
        refine loopInv (fun xs ρ => ∃ (x y : Int) (tm : SV), 0 ≤ x ∧ 0 ≤ y ∧ x ≤ GB ∧ y ≤ GB ∧ Enough xs.length x y ∧ gc x y = gc a b ∧ ρ = { n := n, sl := [.d (.int x), .d (.int y), tm] }) ?_ ?_ _ _ ⟨_, _, _, by split <;> omega, by split <;> omega, by split <;> omega, by split <;> omega, by rw [rng_length]; exact st, gc_abs a b, rfl⟩
        · rintro ρ ⟨x, y, tm, x0, y0, _, _, en, eg, rfl⟩
          have y00 : y = 0 := by
            rcases Int.lt_or_le 0 y with h | h
            · exact (enough_end h en).elim
            · omega
          subst y00
          rw [gc_zero x0] at eg
          subst eg
          walk_at "rd"
          exact h
        · rintro z xs ρ ⟨x, y, tm, x0, y0, x1, y1, en, eg, rfl⟩ kk hkk
          walk_at "rd"
          by_cases hy : y = 0
          · subst hy
            rw [gc_zero x0] at eg
            subst eg
            simp only [if_true]
            exact h
          · have hy0 : 0 < y := by omega
            have e1 := Int.mul_ediv_add_emod x y
            have e2 := emod_bd (x := x) hy0
            have e3 := Int.ediv_le_self (a := x) y x0
            have e4 := Int.ediv_nonneg (a := x) (b := y) x0 y0
            have en2 := enough_turn x0 hy0 en
            have cd : CDivW x y := wide_div hy0 (b := 800) (by unfold GB at y1; omega) (by decide) (by decide)
            have cm : CMulW y (x / y) := by unfold GB at *; exact mulOk (by omega) (by omega)
            simp only [hy, if_false, cd, cm, true_and]
            rw [show x % y = x - y * (x / y) by omega] at en2
            exact hkk _ ⟨_, _, _, y0, by omega, y1, by omega, en2, by rw [gc_turn]; exact eg, rfl⟩
      · cases e0
    · cases e0
  · exact h.elim
/-- numbers around which a strip is asked, at most -/
abbrev AB : Int := 500000000000000000000000000000000000000000000000000000000000000000000000000000000000000000000000000000000000000000000000000000000000000000000000000000000000000000000000000000000000000000000000000000000000000000
def aroundS : Spc := fun ds n Q => ds.length = 3 ∧ ∃ (S : List Int) (lo hi : Bool) (t : Option Q4), ds = [.lst (S.map Dt.int), .bl lo, .bl hi] ∧ S.length ≤ 1000 ∧ (∀ x ∈ S, -AB ≤ x ∧ x ≤ AB) ∧ Around S lo hi t ∧ Q (sD t) n
theorem aroundS_mono : MonoS aroundS := fun ds n k k' h ⟨a, b, c, d, e, g, i, j, l, q⟩ => ⟨a, b, c, d, e, g, i, j, l, h _ _ q⟩
theorem fineL_ints (k : Nat) : ∀ S : List Int, fineL k (S.map Dt.int) = true
  | [] => by cases k <;> rfl
  | s :: S => by
    have := fineL_ints k S
    cases k <;> simp [fineL, fineD, this]
theorem fine_ints {k : Nat} {S : List Int} (h : S.length ≤ 1000) : fineD (k + 1) (.lst (S.map Dt.int)) = true := by
  simp only [fineD, fineL_ints, Bool.and_true, List.length_map, decide_eq_true_eq]; omega
theorem gc_bd {g x B : Int} (g0 : 0 ≤ g) (g1 : g ≤ B) (h : -B ≤ x ∧ x ≤ B) : gc g x ≤ B := by
  obtain ⟨d1, d2⟩ := gc_dvd.mp (Int.dvd_refl (gc g x))
  rcases Int.lt_or_le 0 g with h1 | h1
  · have := Int.le_of_dvd h1 d1; omega
  · rcases Int.lt_trichotomy x 0 with h2 | h2 | h2
    · have := Int.le_of_dvd (show 0 < -x by omega) ((Int.dvd_neg).mpr d2); omega
    · have : g = 0 := by omega
      subst this h2
      rw [gc_zero (Int.le_refl 0)]; omega
    · have := Int.le_of_dvd h2 d2; omega
theorem gcdF_bd {s0 B : Int} : ∀ (S : List Int) (g : Int), 0 ≤ g → g ≤ B → (∀ x ∈ S, -B ≤ x - s0 ∧ x - s0 ≤ B) → gcdF s0 S g ≤ B
  | [], g, _, h, _ => h
  | x :: S, g, g0, g1, hx => gcdF_bd S _ (gc_nn _ _) (gc_bd g0 g1 (hx x (by simp))) fun y hy => hx y (by simp [hy])
theorem lawBr {l g : OI} {m r : Int} (h0 : 0 ≤ m) (hm : m ≤ BS) (hr : -BS ≤ r ∧ r ≤ BS) (hl : bnd BS l) (hg : bnd BS g) : g_lawBrought [oi l, oi g, .int m, .int r] = some (sD (brought l g m r)) := by
  simp only [g_lawBrought, dOI_oi]
  rw [if_pos ⟨h0, hm, hr, hl, hg⟩]
abbrev s_q_strip_around : Stmt := top 38
theorem sc_q_strip_around : FnScope ["_law_some", "_law_is_low", "_law_is_high", "_law_step", "_law_n"] ["_law_some", "_law_is_low", "_law_is_high"] (defScope s_q_strip_around) := ⟨rfl, rfl, rfl, by decide +kernel, rfl, by decide +kernel, by decide +kernel⟩
theorem c_q_strip_around (T : Txt mg) {f_q_strip_brought : Addr} {d_q_strip_brought : FuncData} (c_q_strip_brought : Cal P w K mg base 1 "_law_strip_brought" ["_law_low", "_law_high", "_law_step", "_law_rest"] (gS 4 g_lawBrought) f_q_strip_brought d_q_strip_brought) {f_q_strip_gcd : Addr} {d_q_strip_gcd : FuncData} (c_q_strip_gcd : Cal P w K mg base 1 "_law_strip_gcd" ["_law_one", "_law_other"] (gS 2 g_lgcd) f_q_strip_gcd d_q_strip_gcd) (F : Fun K "_law_strip_around" "_law_strip_around" s_q_strip_around f fd) (hm : mg "_law_strip_around" = some (.ref f)) (hb : Binds K fd ["_law_some", "_law_is_low", "_law_is_high"] []) : Cal P w K mg base 2 "_law_strip_around" ["_law_some", "_law_is_low", "_law_is_high"] aroundS f fd := by
  refine fnD F hm hb sc_q_strip_around aroundS_mono (fun ds n Q h => h.1) (fun cdv A outer s H E hr => ⟨_, (dss_cons (ds_if (kteq (K := K) rfl hr.units (dv 0) (de_lst da_nil)) (dss_one (ds_ret de_non)) dss_nil)
      (dss_cons (ds_set 3 sc_q_strip_around.nd de_int)
      (dss_cons (ds_for PassesOwn.never rfl (kiseq (K := K) rfl (dv 0)) (dg_name 4 sc_q_strip_around.nd) (dss_one (ds_set 3 sc_q_strip_around.nd (de_call c_q_strip_gcd (hr.mono (by omega)) (da_cons (dv 3) (da_cons (de_sub (dv 4) (kix (K := K) rfl (dv 0) de_int)) da_nil))))))
      (dss_one (ds_ret (de_call c_q_strip_brought (hr.mono (by omega)) (da_cons (de_if (kt_val (K := K) rfl (dv 1)) (kminL (K := K) rfl rfl T.min (da_cons (dv 0) da_nil)) de_non) (da_cons (de_if (kt_val (K := K) rfl (dv 2)) (kmaxL (K := K) rfl rfl T.max (da_cons (dv 0) da_nil)) de_non) (da_cons (dv 3) (da_cons (kix (K := K) rfl (dv 0) de_int) da_nil))))))))))⟩) (fun ds n Q h => ?_)
  obtain ⟨hl, h⟩ := h
  obtain ⟨S, lo, hi, t, rfl, hlen, hb, ha, h⟩ := h
  have f1 := fine_ints (k := 63) hlen
  cases S with
  | nil =>
    have e0 : deq (.lst (([] : List Int).map Dt.int)) (.lst []) = true := rfl
    cases ha
    refine cutIf fun ka kb hka hkb => ?_
    have E : ka { n := n, sl := [.d (.lst (([] : List Int).map Dt.int)), .d (.bl lo), .d (.bl hi), .un, .un] } := by subst hka; exact h
    clear hka hkb
    walk_at "rd"
    exact ⟨rfl, E⟩
  | cons s0 S =>
    obtain ⟨SS, hSS⟩ : ∃ SS, SS = s0 :: S := ⟨_, rfl⟩
    have ix : atI (SS.map Dt.int) 0 = some (.int s0) := by rw [hSS, List.map_cons]; exact atI_0
    have ne : deq (.lst (SS.map Dt.int)) (.lst []) = false := by rw [hSS]; rfl
    have s0b := hb s0 (by simp)
    rw [← hSS] at f1 hb hlen ⊢
    have ha : ∀ a b, (lo = true → Least SS a) → (hi = true → Most SS b) → t = brought (if lo then some a else none) (if hi then some b else none) (gcdF s0 SS 0) s0 := by rw [hSS]; exact ha
    have pos : 0 < SS.length := by rw [hSS]; simp
    have bg := gcdF_bd (s0 := s0) (B := BS) SS 0 (Int.le_refl 0) (by decide) (fun x hx => by have := hb x hx; unfold AB at *; unfold BS; omega)
    have bn := gcdF_nn s0 SS 0 (Int.le_refl 0)
    clear hSS
    refine cut fun kk hkk => ?_
    have C : kk { n := n, sl := [.d (.lst (SS.map Dt.int)), .d (.bl lo), .d (.bl hi), .un, .un] } := by
      subst hkk
      refine cut fun kk hkk => ?_
      have C : kk { n := n, sl := [.d (.lst (SS.map Dt.int)), .d (.bl lo), .d (.bl hi), .d (.int 0), .un] } := by
        subst hkk
        refine cut fun kk hkk => ?_
        have C : ∀ z, kk { n := n, sl := [.d (.lst (SS.map Dt.int)), .d (.bl lo), .d (.bl hi), .d (.int (gcdF s0 SS 0)), z] } := by
          intro z
          subst hkk
          have bS : ∀ x ∈ SS, -BS ≤ x ∧ x ≤ BS := fun x hx => by have := hb x hx; unfold AB at *; unfold BS; omega
          have s0B : -BS ≤ s0 ∧ s0 ≤ BS := by unfold AB at s0b; unfold BS; omega
          have fin : ∀ l g, bnd BS l → bnd BS g → t = brought l g (gcdF s0 SS 0) s0 → match g_lawBrought [oi l, oi g, .int (gcdF s0 SS 0), .int s0] with
            | some d => Q d n
            | none => False := fun l g hl hg e => by
            rw [lawBr bn bg s0B hl hg, ← e]; exact h
          cases lo <;> cases hi <;> walk_at "rd" <;> simp only [insOf_map, ix, pos, true_and]
          · exact fin none none trivial trivial (ha 0 0 (fun h => by cases h) (fun h => by cases h))
          · exact fun m m1 m2 => fin none (some m) trivial (bS m m1) (ha 0 m (fun h => by cases h) (fun _ => ⟨m1, m2⟩))
          · exact fun m m1 m2 => fin (some m) none (bS m m1) trivial (ha m 0 (fun _ => ⟨m1, m2⟩) (fun h => by cases h))
          · exact fun m m1 m2 m' m3 m4 => fin (some m) (some m') (bS m m1) (bS m' m3) (ha m m' (fun _ => ⟨m1, m2⟩) (fun _ => ⟨m3, m4⟩))
        clear hkk
        walk_at "rd"
        refine loopInv (fun xs ρ => ∃ (ms : List Int) (g : Int) (z : SV), xs = ms.map Dt.int ∧ (∀ x ∈ ms, -AB ≤ x ∧ x ≤ AB) ∧ 0 ≤ g ∧ g ≤ GB ∧ gcdF s0 ms g = gcdF s0 SS 0 ∧ ρ = { n := n, sl := [.d (.lst (SS.map Dt.int)), .d (.bl lo), .d (.bl hi), .d (.int g), z] }) ?_ ?_ _ _ ⟨SS, 0, _, rfl, hb, Int.le_refl 0, by decide, rfl, rfl⟩
        · rintro ρ ⟨ms, g, z, e, _, _, _, e2, rfl⟩
          cases ms with
          | nil => rw [← e2] at C; exact C z
          | cons m ms => cases e
        · rintro x xs ρ ⟨ms, g, z, e, hm, g0, g1, e2, rfl⟩ go hgo
          cases ms with
          | nil => cases e
          | cons m ms =>
            cases e
            have bm := hm m (by simp)
            have bd : -GB ≤ m - s0 ∧ m - s0 ≤ GB := by unfold AB at *; unfold GB; omega
            have e3 : g_lgcd [.int g, .int (m - s0)] = some (.int (gc g (m - s0))) := by
              simp only [g_lgcd]
              rw [if_pos ⟨⟨by unfold GB at *; omega, g1⟩, bd⟩]
            walk_at "rd"
            simp only [ix, e3]
            exact hgo _ ⟨ms, _, _, rfl, fun x hx => hm x (by simp [hx]), gc_nn _ _, gc_bd g0 g1 bd, e2, rfl⟩
      clear hkk
      walk_at "rd"
      exact C
    clear hkk
    walk_at "rd"
    refine ⟨⟨f1, rfl⟩, ?_⟩
    simp only [ne, Bool.false_eq_true, if_false]
    exact C
/-- which ends are there -/
def openS : Spc := fun ds n Q => ds.length = 2 ∧ ∃ s o, ds = [sD s, sD o] ∧ Q (.tup [.bl (loO s && loO o), .bl (hiO s && hiO o)]) n
theorem openS_mono : MonoS openS := fun ds n k k' h ⟨a, b, c, d, q⟩ => ⟨a, b, c, d, h _ _ q⟩
theorem isSome_none (x : OI) : (!x.isNone) = x.isSome := by cases x <;> rfl
abbrev s_q_strip_open : Stmt := top 44
theorem sc_q_strip_open : FnScope ["_law_one", "_law_other", "_law_both", "_law_strip"] ["_law_one", "_law_other"] (defScope s_q_strip_open) := ⟨rfl, rfl, rfl, by decide +kernel, rfl, by decide +kernel, by decide +kernel⟩
theorem c_q_strip_open (T : Txt mg)  (F : Fun K "_law_strip_open" "_law_strip_open" s_q_strip_open f fd) (hm : mg "_law_strip_open" = some (.ref f)) (hb : Binds K fd ["_law_one", "_law_other"] []) : Cal P w K mg base 1 "_law_strip_open" ["_law_one", "_law_other"] openS f fd := by
  refine fnD F hm hb sc_q_strip_open openS_mono (fun ds n Q h => h.1) (fun cdv A outer s H E hr => ⟨_, (dss_cons (ds_setComp (i := 2) rfl sc_q_strip_open.nd (kiseq (K := K) rfl (de_tup (da_cons (dv 0) (da_cons (dv 1) da_nil)))) (blkOk_by (own := [("_law_strip", 3)]) (N := ["_law_one", "_law_other", "_law_both", "_law_strip"]) (sc := defScope s_q_strip_open) (by decide +kernel)) (fun _ _ _ _ _ => (dg_name 3 sc_q_strip_open.nd)) (fun _ _ _ _ _ => (dts_one (dt_cmp op_notN simNotN (dv 3) de_non (nomark _)))) (fun _ _ _ _ _ => (dv 3)) (sw_true rfl rfl rfl (by decide +kernel)))
      (dss_one (ds_ret (de_tup (da_cons (kall (K := K) rfl rfl T.all (da_cons (DF.de (df_comp rfl sc_q_strip_open.nd (kiseq (K := K) rfl (dv 2)) (blkOk_by (own := [("_law_strip", 3)]) (N := ["_law_one", "_law_other", "_law_both", "_law_strip"]) (sc := defScope s_q_strip_open) (by decide +kernel)) (fun _ _ _ _ _ => (dg_name 3 sc_q_strip_open.nd)) (fun _ _ _ _ _ => dts_nil) (fun _ _ _ _ _ => (de_cmp op_notN simNotN (kix (K := K) rfl (dv 3) de_int) de_non (nomark _))))) da_nil)) (da_cons (kall (K := K) rfl rfl T.all (da_cons (DF.de (df_comp rfl sc_q_strip_open.nd (kiseq (K := K) rfl (dv 2)) (blkOk_by (own := [("_law_strip", 3)]) (N := ["_law_one", "_law_other", "_law_both", "_law_strip"]) (sc := defScope s_q_strip_open) (by decide +kernel)) (fun _ _ _ _ _ => (dg_name 3 sc_q_strip_open.nd)) (fun _ _ _ _ _ => dts_nil) (fun _ _ _ _ _ => (de_cmp op_notN simNotN (kix (K := K) rfl (dv 3) de_int) de_non (nomark _))))) da_nil)) da_nil))))))⟩) (fun ds n Q h => ?_)
  obtain ⟨hl, h⟩ := h
  obtain ⟨s, o, rfl, h⟩ := h
  cases s <;> cases o <;> simp only [sD, q4] <;> walk_at "rd"
  all_goals (simp only [blsOf, blOf, List.all_cons, List.all_nil, id, isSome_none, Bool.and_true]; simpa only [loO, hiO, Bool.and_true, Bool.true_and] using h)
end
end K11

set_option Elab.async false
set_option linter.all false
set_option maxRecDepth 100000
set_option maxHeartbeats 2000000
set_option autoImplicit false
namespace K11
open K10 PySem PySem.Spec L2 DL
example : (1 = 1) ∧ True := by simp only [compD, oi_non, Option.isNone_none, Option.isNone_some, ltS0, ltS1, mTru, mOrT, mAndT, truD_bl, truD_non, truD_int, truD_tup, truD_lst, List.isEmpty_cons, List.isEmpty_nil, mPar, c2, cMax2, cMin2, cGcd, insOf_map, wipeE, List.foldr_cons, List.foldr_nil, gS, mSeq, mIfS, mRet, mRetN, mAsg, gmName, mVar_app, mC, mOp, mUn, uIsi, mB, mTNot, mTAnd, mTOr, mAnd, mOr, uNot, mIf, mNil, mCons, mTup, mLst, mCB, mCall, mCallKw, mNext, mNever, mDrop, mFor, miSeq, miZip, miRng1, miRng2, mComp, mData, mApp, mExt, mOwn, mFLst, mFCat, mFCopy, mOwnIx, mOwnLen, mOwnIn, mTYes, drawS, cAll, cAny, cList, deq_bl, owns, ownOf, loopD, gmNil, gmCons, gmTup, gmSeq, seqOf_lst, seqOf_tup, seqOf_non, seqOf_int, seqOf_bl, seqOf_str, seqOf_strm, cLen, cTuple, cInt, cAbs, oAdd_ii, oAdd_ll, oSub, oMul_ii, oMul_li, oFdiv, oMod, oPow, oI, oI0, uI, uNeg, oLt, oLe, oGt, oGe, oIsN, oNotN, isNon_lst, isNon_tup, isNon_non, isNon_int, isNon_bl, isNon_str, isNon_strm, oEq, oNe, oIx, atI_0, atI_1, atI_2, atI_3, atI_4, DL.atI_last, En.put, start0, tyD_lst, tyD_tup, tyD_non, tyD_int, tyD_bl, tyD_str, tyD_strm, isiT, deq_int, List.any_cons, List.any_nil, List.map_cons, List.map_nil, List.length_cons, List.length_nil, List.cons_append, List.nil_append, List.getElem?_cons_zero, List.getElem?_cons_succ, List.set_cons_zero, List.set_cons_succ, Bool.or_false, Bool.false_or, Bool.not_true, Bool.not_false, if_true, if_false, Bool.false_eq_true, List.reduceReplicate, Nat.reduceSub, Nat.reduceAdd, decide_eq_true_eq, Bool.not_eq_true', decide_eq_false_iff_not, fineD, true_and, and_true, and_self, sizeLine_eq, Nat.reduceLeDiff, not_true_eq_false, not_false_eq_true, beq_self_eq_true, Bool.not_eq_false, Bool.not_eq_true, reduceIte, Bool.true_eq_false, Nat.reduceEqDiff, ne_eq]
local macro_rules | `(tactic| walk_at "rd") => `(tactic| try simp only [compD, oi_non, Option.isNone_none, Option.isNone_some, ltS0, ltS1, mTru, mOrT, mAndT, truD_bl, truD_non, truD_int, truD_tup, truD_lst, List.isEmpty_cons, List.isEmpty_nil, mPar, c2, cMax2, cMin2, cGcd, insOf_map, wipeE, List.foldr_cons, List.foldr_nil, gS, mSeq, mIfS, mRet, mRetN, mAsg, gmName, mVar_app, mC, mOp, mUn, uIsi, mB, mTNot, mTAnd, mTOr, mAnd, mOr, uNot, mIf, mNil, mCons, mTup, mLst, mCB, mCall, mCallKw, mNext, mNever, mDrop, mFor, miSeq, miZip, miRng1, miRng2, mComp, mData, mApp, mExt, mOwn, mFLst, mFCat, mFCopy, mOwnIx, mOwnLen, mOwnIn, mTYes, drawS, cAll, cAny, cList, deq_bl, owns, ownOf, loopD, gmNil, gmCons, gmTup, gmSeq, seqOf_lst, seqOf_tup, seqOf_non, seqOf_int, seqOf_bl, seqOf_str, seqOf_strm, cLen, cTuple, cInt, cAbs, oAdd_ii, oAdd_ll, oSub, oMul_ii, oMul_li, oFdiv, oMod, oPow, oI, oI0, uI, uNeg, oLt, oLe, oGt, oGe, oIsN, oNotN, isNon_lst, isNon_tup, isNon_non, isNon_int, isNon_bl, isNon_str, isNon_strm, oEq, oNe, oIx, atI_0, atI_1, atI_2, atI_3, atI_4, DL.atI_last, En.put, start0, tyD_lst, tyD_tup, tyD_non, tyD_int, tyD_bl, tyD_str, tyD_strm, isiT, deq_int, List.any_cons, List.any_nil, List.map_cons, List.map_nil, List.length_cons, List.length_nil, List.cons_append, List.nil_append, List.getElem?_cons_zero, List.getElem?_cons_succ, List.set_cons_zero, List.set_cons_succ, Bool.or_false, Bool.false_or, Bool.not_true, Bool.not_false, if_true, if_false, Bool.false_eq_true, List.reduceReplicate, Nat.reduceSub, Nat.reduceAdd, decide_eq_true_eq, Bool.not_eq_true', decide_eq_false_iff_not, fineD, true_and, and_true, and_self, sizeLine_eq, Nat.reduceLeDiff, not_true_eq_false, not_false_eq_true, beq_self_eq_true, Bool.not_eq_false, Bool.not_eq_true, reduceIte, Bool.true_eq_false, Nat.reduceEqDiff, ne_eq])
section
variable {k : Nat} {P : Program} {w : World} {K : PySem.W.Frag} {mg : Str → Option Value} {base : Heap} {f : Addr} {fd : FuncData}
theorem mem_nearS {q : Q4} {far : Nat} {x : Int} : x ∈ nearS (some q) far ↔ x ∈ near q far ∧ has (some q) x = true := by
  unfold nearS
  rw [once_mem, List.mem_filter]
  simp
theorem near_ends {q : Q4} {S : List Int} (v : Valid (some q)) (mem : ∀ x ∈ S, has (some q) x = true) (sub : ∀ x, x ∈ near q 1 → has (some q) x = true → x ∈ S) : NearP q S where
  mem := mem
  lo := fun a h => by obtain ⟨h1, h2⟩ := (end_near v).1 a h; exact sub a h1 h2
  hi := fun a h => by obtain ⟨h1, h2⟩ := (end_near v).2 a h; exact sub a h1 h2
  two := fun h => by
    obtain ⟨x, h1, h2, h3, h4⟩ := two_near v (by have := v.1; omega)
    exact ⟨x, sub x h1 h3, sub _ h2 h4⟩
theorem near1 {s : Option Q4} (v : Valid s) : NearO s (nearS s 1) := by
  cases s with
  | none => rfl
  | some q => exact near_ends v (fun x hx => (mem_nearS.mp hx).2) fun x h1 h2 => mem_nearS.mpr ⟨h1, h2⟩
theorem near_at {q : Q4} (k : Nat) (hk : k < 7) : begin q + (-3 + (k : Int)) * q.m ∈ near q 3 := by
  unfold near
  exact List.mem_append_left _ (List.mem_map.mpr ⟨k, List.mem_range.mpr (by omega), rfl⟩)
theorem near_dn {q : Q4} {b : Int} (hb : q.h = some b) (k : Nat) (hk : k < 4) : b - (k : Int) * q.m ∈ near q 3 := by
  unfold near
  rw [hb]
  exact List.mem_append_right _ (List.mem_map.mpr ⟨k, List.mem_range.mpr (by omega), rfl⟩)
theorem near_sub {q : Q4} {x : Int} (h : x ∈ near q 1) : x ∈ near q 3 := by
  unfold near at h
  rcases List.mem_append.mp h with h | h
  · obtain ⟨k, hk, rfl⟩ := List.mem_map.mp h
    have hk := List.mem_range.mp hk
    have := near_at (q := q) (k + 2) (by omega)
    rwa [show -3 + ((k + 2 : Nat) : Int) = -((1 : Nat) : Int) + (k : Int) by omega] at this
  · cases e : q.h with
    | none => rw [e] at h; cases h
    | some b =>
      rw [e] at h
      obtain ⟨k, hk, rfl⟩ := List.mem_map.mp h
      have hk := List.mem_range.mp hk
      exact near_dn e k (by omega)
theorem near3 {q : Q4} (v : Valid (some q)) : Near3 q (nearS (some q) 3) where
  toNearP := near_ends v (fun x hx => (mem_nearS.mp hx).2) fun x h1 h2 => mem_nearS.mpr ⟨near_sub h1, h2⟩
  up := fun a ha k hk h => by
    refine mem_nearS.mpr ⟨?_, h⟩
    have eb : begin q = a := by unfold begin; rw [ha]
    have := near_at (q := q) (k + 3) (by omega)
    rwa [eb, show -3 + ((k + 3 : Nat) : Int) = (k : Int) by omega] at this
  dn := fun b hb k hk h => mem_nearS.mpr ⟨near_dn hb k (by omega), h⟩
  mid := fun hl hh k h1 h2 => by
    refine mem_nearS.mpr ⟨?_, ?_⟩
    · have eb : begin q = q.r := by unfold begin; rw [hl, hh]
      have := near_at (q := q) (k + 3).toNat (by omega)
      rwa [eb, show -3 + (((k + 3).toNat : Nat) : Int) = k by omega] at this
    · have m0 : q.m ≠ 0 := fun e => by
        have := single v e
        rw [this] at hl
        cases hl
      rw [has_some, if_neg m0, hl, hh]
      refine ⟨fun x hx => (by cases hx), fun x hx => (by cases hx), ?_⟩
      rw [show q.r + k * q.m - q.r = k * q.m by omega]
      exact Int.dvd_mul_left ..
theorem Bnd_wk {B C : Int} (h : B ≤ C) {s : Option Q4} (b : Bnd B s) : Bnd C s := by
  cases s with
  | none => trivial
  | some q =>
    obtain ⟨b1, b2, b3, b4⟩ := b
    exact ⟨bnd_wk h b1, bnd_wk h b2, by omega, by omega⟩
theorem nearS_len {s : Option Q4} {far : Nat} (h : far ≤ 3) : (nearS s far).length ≤ 12 := by
  cases s with
  | none => simp [nearS]
  | some q =>
    have h1 := once_len ((near q far).filter (has (some q))) []
    have h2 := List.length_filter_le (has (some q)) (near q far)
    have h3 := near_len (q := q) h
    simp only [nearS]
    simp at h1
    omega
theorem nearS_bd {s : Option Q4} {far : Nat} {B : Int} (h : far ≤ 3) (b : Bnd B s) : ∀ x ∈ nearS s far, -(B * 4) ≤ x ∧ x ≤ B * 4 := by
  cases s with
  | none => intro x hx; cases hx
  | some q =>
    intro x hx
    obtain ⟨h1, _⟩ := mem_nearS.mp hx
    obtain ⟨b1, b2, b3, b4⟩ := b
    have bb : -B ≤ begin q ∧ begin q ≤ B := by
      unfold begin
      cases e : q.l with
      | some a => rw [e] at b1; exact b1
      | none =>
        cases e2 : q.h with
        | some b => rw [e2] at b2; exact b2
        | none => exact b4
    unfold near at h1
    rcases List.mem_append.mp h1 with h1 | h1
    · obtain ⟨k, hk, rfl⟩ := List.mem_map.mp h1
      have hk := List.mem_range.mp hk
      obtain ⟨j, j1, j2, e⟩ : ∃ j : Int, -3 ≤ j ∧ j ≤ 3 ∧ -(far : Int) + (k : Int) = j := ⟨_, by omega, by omega, rfl⟩
      rw [e]
      rcases (by omega : j = -3 ∨ j = -2 ∨ j = -1 ∨ j = 0 ∨ j = 1 ∨ j = 2 ∨ j = 3) with rfl | rfl | rfl | rfl | rfl | rfl | rfl <;> omega
    · cases e : q.h with
      | none => rw [e] at h1; cases h1
      | some b =>
        rw [e] at h1 b2
        simp only [bnd] at b2
        obtain ⟨k, hk, rfl⟩ := List.mem_map.mp h1
        have hk := List.mem_range.mp hk
        obtain ⟨j, j1, j2, e⟩ : ∃ j : Int, 0 ≤ j ∧ j ≤ 3 ∧ (k : Int) = j := ⟨_, by omega, by omega, rfl⟩
        rw [e]
        rcases (by omega : j = 0 ∨ j = 1 ∨ j = 2 ∨ j = 3) with rfl | rfl | rfl | rfl <;> omega
def sumsS : Spc := fun ds n Q => ds.length = 2 ∧ ∃ s o, ds = [sD s, sD o] ∧ Valid s ∧ Bnd BQ s ∧ Valid o ∧ Bnd BQ o ∧ Q (sD (summed s o)) n
theorem sumsS_mono : MonoS sumsS := fun ds n k k' h ⟨a, b, c, d, e, g, i, j, q⟩ => ⟨a, b, c, d, e, g, i, j, h _ _ q⟩
theorem bdS (B : Int) : ∀ x ∈ ([] : List Int), -B ≤ x ∧ x ≤ B := fun x hx => by cases hx
abbrev s_q_strip_sums : Stmt := top 45
theorem sc_q_strip_sums : FnScope ["_law_one", "_law_other", "_law_is_low", "_law_is_high", "_law_found", "_law_n", "_law_m"] ["_law_one", "_law_other"] (defScope s_q_strip_sums) := ⟨rfl, rfl, rfl, by decide +kernel, rfl, by decide +kernel, by decide +kernel⟩
theorem c_q_strip_sums (T : Txt mg) {f_q_strip_around : Addr} {d_q_strip_around : FuncData} (c_q_strip_around : Cal P w K mg base 2 "_law_strip_around" ["_law_some", "_law_is_low", "_law_is_high"] aroundS f_q_strip_around d_q_strip_around) {f_q_strip_open : Addr} {d_q_strip_open : FuncData} (c_q_strip_open : Cal P w K mg base 1 "_law_strip_open" ["_law_one", "_law_other"] openS f_q_strip_open d_q_strip_open) {f_q_strip_some : Addr} {d_q_strip_some : FuncData} (c_q_strip_some : Cal P w K mg base 2 "_law_strip_some" ["_law_strip", "_law_far"] someS f_q_strip_some d_q_strip_some) (F : Fun K "_law_strip_sums" "_law_strip_sums" s_q_strip_sums f fd) (hm : mg "_law_strip_sums" = some (.ref f)) (hb : Binds K fd ["_law_one", "_law_other"] []) : Cal P w K mg base 3 "_law_strip_sums" ["_law_one", "_law_other"] sumsS f fd := by
  refine fnD F hm hb sc_q_strip_sums sumsS_mono (fun ds n Q h => h.1) (fun cdv A outer s H E hr => ⟨_, (dss_cons (ds_asg (de_call c_q_strip_open (hr.mono (by omega)) (da_cons (dv 0) (da_cons (dv 1) da_nil))) (kgseq (K := K) rfl 2 rfl (dgs_cons (dg_name 2 sc_q_strip_sums.nd) (dgs_cons (dg_name 3 sc_q_strip_sums.nd) dgs_nil))))
      (dss_cons (ds_own 4 sc_q_strip_sums.nd (df_lst da_nil))
      (dss_cons (ds_for PassesOwn.never rfl (kiseq (K := K) rfl (de_call c_q_strip_some (hr.mono (by omega)) (da_cons (dv 0) (da_cons de_int da_nil)))) (dg_name 5 sc_q_strip_sums.nd) (dss_one (ds_ext 4 (DF.de (df_comp rfl sc_q_strip_sums.nd (kiseq (K := K) rfl (de_call c_q_strip_some (hr.mono (by omega)) (da_cons (dv 1) (da_cons de_int da_nil)))) (blkOk_by (own := [("_law_m", 6)]) (N := ["_law_one", "_law_other", "_law_is_low", "_law_is_high", "_law_found", "_law_n", "_law_m"]) (sc := defScope s_q_strip_sums) (by decide +kernel)) (fun _ _ _ _ _ => (dg_name 6 sc_q_strip_sums.nd)) (fun _ _ _ _ _ => dts_nil) (fun _ _ _ _ _ => (de_add (dv 5) (dv 6))))) (pv 4))))
      (dss_one (ds_ret (de_call c_q_strip_around (hr.mono (by omega)) (da_cons (dv 4) (da_cons (dv 2) (da_cons (dv 3) da_nil)))))))))⟩) (fun ds n Q h => ?_)
  obtain ⟨hl, h⟩ := h
  obtain ⟨s, o, rfl, vs, bs, vo, bo, h⟩ := h
  have oks := okD vs (Bnd_wk (by decide) bs)
  have oko := okD vo (Bnd_wk (by decide) bo)
  have bS := nearS_bd (far := 1) (by decide) bs
  have bT := nearS_bd (far := 1) (by decide) bo
  have lS := nearS_len (s := s) (far := 1) (by decide)
  have lT := nearS_len (s := o) (far := 1) (by decide)
  have due := sum_due vs vo (near1 vs) (near1 vo)
  obtain ⟨S, hS⟩ : ∃ S, S = nearS s 1 := ⟨_, rfl⟩
  obtain ⟨U, hU⟩ : ∃ U, U = nearS o 1 := ⟨_, rfl⟩
  rw [← hS] at bS lS
  rw [← hU] at bT lT
  rw [← hS, ← hU] at due
  have smS : ∀ Q' : Dt → Nat → Prop, Q' (.lst (S.map Dt.int)) n → someS [sD s, Dt.int 1] n Q' := fun Q' q => ⟨rfl, _, s, 1, rfl, oks, by decide, by decide, by rw [← hS]; exact q⟩
  have smU : ∀ Q' : Dt → Nat → Prop, Q' (.lst (U.map Dt.int)) n → someS [sD o, Dt.int 1] n Q' := fun Q' q => ⟨rfl, _, o, 1, rfl, oko, by decide, by decide, by rw [← hU]; exact q⟩
  walk_at "rd"
  refine ⟨rfl, s, o, rfl, ?_⟩
  walk_at "rd"
  refine ⟨by decide, fun a _ => smS _ ?_⟩
  walk_at "rd"
  have sl : ∀ S : List Int, (sums S U).length ≤ S.length * 12 := fun S => by
    induction S with
    | nil => simp [sums]
    | cons s S ih => simp only [sums, List.flatMap_cons, List.length_append, List.length_map, List.length_cons] at ih ⊢; omega
  refine loopInv (fun xs ρ => ∃ (ms A : List Int) (y z : SV), xs = ms.map Dt.int ∧ A ++ sums ms U = sums S U ∧ (∀ x ∈ ms, x ∈ S) ∧ ms.length ≤ 12 ∧ ρ = { n := n, sl := [.d (sD s), .d (sD o), .d (.bl (loO s && loO o)), .d (.bl (hiO s && hiO o)), .own a (A.map Dt.int), y, z] }) ?_ ?_ _ _ ⟨S, [], _, _, rfl, rfl, fun x hx => hx, lS, rfl⟩
  · rintro ρ ⟨ms, A, y, z, e, eA, _, _, rfl⟩
    cases ms with
    | nil =>
      have eA : A = sums S U := by simpa [sums] using eA
      subst eA
      walk_at "rd"
      refine ⟨rfl, _, _, _, _, rfl, by have := sl S; omega, fun x hx => ?_, due, h⟩
      obtain ⟨u, hu, t, ht, rfl⟩ := mem_sums.mp hx
      have := bS u hu
      have := bT t ht
      unfold BQ AB at *; omega
    | cons m ms => cases e
  · rintro x xs ρ ⟨ms, A, y, z, e, eA, hm, lm, rfl⟩ go hgo
    cases ms with
    | nil => cases e
    | cons m ms =>
      cases e
      walk_at "rd"
      refine ⟨⟨_, _, rfl⟩, smU _ ?_⟩
      walk_at "rd"
      have la : A.length ≤ 200 := by
        have h1 := sl S
        rw [← eA, List.length_append] at h1
        omega
      refine compN { n := n, sl := [.d (sD s), .d (sD o), .d (.bl (loO s && loO o)), .d (.bl (hiO s && hiO o)), .own a (A.map Dt.int), .d (.int m), .un] } (fun _ => true) (fun t => .int (m + t)) ?_ rfl (by omega) ?_
      · intro t ht A B ha _
        walk_at "rd"
        exact ha rfl _ rfl
      · have e1 : (U.filter fun _ => true) = U := by simp
        simp only [e1]
        have e2 : A.map Dt.int ++ U.map (fun t => Dt.int (m + t)) = (A ++ U.map (m + ·)).map Dt.int := by simp [Function.comp_def]
        walk_at "rd"
        refine ⟨by simp; omega, ?_⟩
        rw [e2]
        exact hgo _ ⟨ms, _, _, _, rfl, by rw [← eA, List.append_assoc]; rfl, fun x hx => hm x (by simp [hx]), by simp at lm; omega, rfl⟩
/-- a drawn strip -/
def drawnS : Spc := fun ds n Q => ds.length = 1 ∧ ds = [.strm] ∧ n + 60 < CAP ∧ ∀ s n', Valid s → Bnd BK s → n' ≤ n + 45 → Q (sD s) n'
theorem drawnS_mono : MonoS drawnS := fun ds n k k' h ⟨a, b, c, q⟩ => ⟨a, b, c, fun i n' x y z => h _ _ (q i n' x y z)⟩
abbrev s_q_strip_drawn : Stmt := top 41
theorem sc_q_strip_drawn : FnScope ["_law_stream_here", "_law_low", "_law_high", "_law_step", "_law_rest", "_law_strip"] ["_law_stream_here"] (defScope s_q_strip_drawn) := ⟨rfl, rfl, rfl, by decide +kernel, rfl, by decide +kernel, by decide +kernel⟩
theorem c_q_strip_drawn (T : Txt mg) {f_q_draw : Addr} {d_q_draw : FuncData} (c_q_draw : Cal P w K mg base 1 "_law_draw" ["_law_stream_here", "_law_many"] drawS f_q_draw d_q_draw) {f_q_strip_brought : Addr} {d_q_strip_brought : FuncData} (c_q_strip_brought : Cal P w K mg base 1 "_law_strip_brought" ["_law_low", "_law_high", "_law_step", "_law_rest"] (gS 4 g_lawBrought) f_q_strip_brought d_q_strip_brought) {f_q_strip_quadruple : Addr} {d_q_strip_quadruple : FuncData} (c_q_strip_quadruple : Cal P w K mg base 3 "_law_strip_quadruple" ["_law_stream_here"] quadS f_q_strip_quadruple d_q_strip_quadruple) (F : Fun K "_law_strip_drawn" "_law_strip_drawn" s_q_strip_drawn f fd) (hm : mg "_law_strip_drawn" = some (.ref f)) (hb : Binds K fd ["_law_stream_here"] []) : Cal P w K mg base 4 "_law_strip_drawn" ["_law_stream_here"] drawnS f fd := by
  refine fnD F hm hb sc_q_strip_drawn drawnS_mono (fun ds n Q h => h.1) (fun cdv A outer s H E hr => ⟨_, (dss_cons (ds_asg (de_call c_q_strip_quadruple (hr.mono (by omega)) (da_cons (dv 0) da_nil)) (kgseq (K := K) rfl 4 rfl (dgs_cons (dg_name 1 sc_q_strip_drawn.nd) (dgs_cons (dg_name 2 sc_q_strip_drawn.nd) (dgs_cons (dg_name 3 sc_q_strip_drawn.nd) (dgs_cons (dg_name 4 sc_q_strip_drawn.nd) dgs_nil))))))
      (dss_cons (ds_set 5 sc_q_strip_drawn.nd (de_call c_q_strip_brought (hr.mono (by omega)) (da_cons (dv 1) (da_cons (dv 2) (da_cons (dv 3) (da_cons (dv 4) da_nil))))))
      (dss_cons (ds_if (DW.dt (dw_and (dt_cmp op_isN simIsN (dv 5) de_non (nomark _)) (dw_and1 (dt_cmp op_gt simGt (de_call c_q_draw (hr.mono (by omega)) (da_cons (dv 0) (da_cons de_int da_nil))) de_int (nomark _))))) (dss_one (ds_ret (de_tup (da_cons (dv 4) (da_cons (dv 4) (da_cons de_int (da_cons (dv 4) da_nil))))))) dss_nil)
      (dss_one (ds_ret (dv 5))))))⟩) (fun ds n Q h => ?_)
  obtain ⟨hl, h⟩ := h
  obtain ⟨rfl, hn, h⟩ := h
  walk_at "rd"
  refine ⟨rfl, rfl, by unfold CAP at *; omega, fun q n1 bq m0 hn1 => ?_⟩
  obtain ⟨l, g, m, r⟩ := q
  obtain ⟨b1, b2, b3, b4⟩ := bq
  simp only at b1 b2 b3 b4 m0
  have e := lawBr (l := l) (g := g) (m := m) (r := r) m0 (by unfold QI at b3; unfold BS; omega) (by unfold QI at b4; unfold BS; omega) (bnd_wk (by decide) b1) (bnd_wk (by decide) b2)
  have v := brought_valid l g r m0
  have b := brought_bnd m0 (by decide) b1 b2 b3.2 b4
  obtain ⟨s, hs⟩ : ∃ s, s = brought l g m r := ⟨_, rfl⟩
  rw [← hs] at e v b
  have b' : Bnd BK s := Bnd_wk (by decide) b
  simp only [q4]
  walk_at "rd"
  simp only [e]
  cases s with
  | some q => walk_at "rd"; exact h _ _ v b' (by omega)
  | none =>
    simp only [sD]
    walk_at "rd"
    refine ⟨by unfold CAP at *; omega, fun w w0 w1 => ?_⟩
    split
    · refine h (some ⟨some r, some r, 0, r⟩) _ (v_pt r) ?_ (by omega)
      have : -BK ≤ r ∧ r ≤ BK := by unfold QI at b4; unfold BK; omega
      exact ⟨this, this, (by decide : -BK ≤ (0 : Int) ∧ (0 : Int) ≤ BK), this⟩
    · exact h none _ trivial trivial (by omega)
end
end K11

set_option Elab.async false
set_option linter.all false
set_option maxRecDepth 100000
set_option maxHeartbeats 2000000
set_option autoImplicit false
namespace K11
open K10 PySem PySem.Spec L2 DL
example : (1 = 1) ∧ True := by simp only [compD, cMaxL, cMinL, oi_non, Option.isNone_none, Option.isNone_some, ltS0, ltS1, mTru, mOrT, mAndT, truD_bl, truD_non, truD_int, truD_tup, truD_lst, List.isEmpty_cons, List.isEmpty_nil, mPar, c2, cMax2, cMin2, cGcd, insOf_map, wipeE, List.foldr_cons, List.foldr_nil, gS, mSeq, mIfS, mRet, mRetN, mAsg, gmName, mVar_app, mC, mOp, mUn, uIsi, mB, mTNot, mTAnd, mTOr, mAnd, mOr, uNot, mIf, mNil, mCons, mTup, mLst, mCB, mCall, mCallKw, mNext, mNever, mDrop, mFor, miSeq, miZip, miRng1, miRng2, mComp, mData, mApp, mExt, mOwn, mFLst, mFCat, mFCopy, mOwnIx, mOwnLen, mOwnIn, mTYes, drawS, cAll, cAny, cList, deq_bl, owns, ownOf, loopD, gmNil, gmCons, gmTup, gmSeq, seqOf_lst, seqOf_tup, seqOf_non, seqOf_int, seqOf_bl, seqOf_str, seqOf_strm, cLen, cTuple, cInt, cAbs, oAdd_ii, oAdd_ll, oSub, oMul_ii, oMul_li, oFdiv, oMod, oPow, oI, oI0, uI, uNeg, oLt, oLe, oGt, oGe, oIsN, oNotN, isNon_lst, isNon_tup, isNon_non, isNon_int, isNon_bl, isNon_str, isNon_strm, oEq, oNe, oIx, atI_0, atI_1, atI_2, atI_3, atI_4, DL.atI_last, En.put, start0, tyD_lst, tyD_tup, tyD_non, tyD_int, tyD_bl, tyD_str, tyD_strm, isiT, deq_int, List.any_cons, List.any_nil, List.map_cons, List.map_nil, List.length_cons, List.length_nil, List.cons_append, List.nil_append, List.getElem?_cons_zero, List.getElem?_cons_succ, List.set_cons_zero, List.set_cons_succ, Bool.or_false, Bool.false_or, Bool.not_true, Bool.not_false, if_true, if_false, Bool.false_eq_true, List.reduceReplicate, Nat.reduceSub, Nat.reduceAdd, decide_eq_true_eq, Bool.not_eq_true', decide_eq_false_iff_not, fineD, true_and, and_true, and_self, sizeLine_eq, Nat.reduceLeDiff, not_true_eq_false, not_false_eq_true, beq_self_eq_true, Bool.not_eq_false, Bool.not_eq_true, reduceIte, Bool.true_eq_false, Nat.reduceEqDiff, ne_eq]
local macro_rules | `(tactic| walk_at "rd") => `(tactic| try simp only [compD, cMaxL, cMinL, oi_non, Option.isNone_none, Option.isNone_some, ltS0, ltS1, mTru, mOrT, mAndT, truD_bl, truD_non, truD_int, truD_tup, truD_lst, List.isEmpty_cons, List.isEmpty_nil, mPar, c2, cMax2, cMin2, cGcd, insOf_map, wipeE, List.foldr_cons, List.foldr_nil, gS, mSeq, mIfS, mRet, mRetN, mAsg, gmName, mVar_app, mC, mOp, mUn, uIsi, mB, mTNot, mTAnd, mTOr, mAnd, mOr, uNot, mIf, mNil, mCons, mTup, mLst, mCB, mCall, mCallKw, mNext, mNever, mDrop, mFor, miSeq, miZip, miRng1, miRng2, mComp, mData, mApp, mExt, mOwn, mFLst, mFCat, mFCopy, mOwnIx, mOwnLen, mOwnIn, mTYes, drawS, cAll, cAny, cList, deq_bl, owns, ownOf, loopD, gmNil, gmCons, gmTup, gmSeq, seqOf_lst, seqOf_tup, seqOf_non, seqOf_int, seqOf_bl, seqOf_str, seqOf_strm, cLen, cTuple, cInt, cAbs, oAdd_ii, oAdd_ll, oSub, oMul_ii, oMul_li, oFdiv, oMod, oPow, oI, oI0, uI, uNeg, oLt, oLe, oGt, oGe, oIsN, oNotN, isNon_lst, isNon_tup, isNon_non, isNon_int, isNon_bl, isNon_str, isNon_strm, oEq, oNe, oIx, atI_0, atI_1, atI_2, atI_3, atI_4, DL.atI_last, En.put, start0, tyD_lst, tyD_tup, tyD_non, tyD_int, tyD_bl, tyD_str, tyD_strm, isiT, deq_int, List.any_cons, List.any_nil, List.map_cons, List.map_nil, List.length_cons, List.length_nil, List.cons_append, List.nil_append, List.getElem?_cons_zero, List.getElem?_cons_succ, List.set_cons_zero, List.set_cons_succ, Bool.or_false, Bool.false_or, Bool.not_true, Bool.not_false, if_true, if_false, Bool.false_eq_true, List.reduceReplicate, Nat.reduceSub, Nat.reduceAdd, decide_eq_true_eq, Bool.not_eq_true', decide_eq_false_iff_not, fineD, true_and, and_true, and_self, sizeLine_eq, Nat.reduceLeDiff, not_true_eq_false, not_false_eq_true, beq_self_eq_true, Bool.not_eq_false, Bool.not_eq_true, reduceIte, Bool.true_eq_false, Nat.reduceEqDiff, ne_eq])
section
variable {k : Nat} {P : Program} {w : World} {K : PySem.W.Frag} {mg : Str → Option Value} {base : Heap} {f : Addr} {fd : FuncData}
def metS : Spc := fun ds n Q => ds.length = 2 ∧ ∃ s o, ds = [sD s, sD o] ∧ Valid s ∧ Bnd BQ s ∧ Valid o ∧ Bnd BQ o ∧ Mate s o ∧ Q (sD (common s o)) n
theorem metS_mono : MonoS metS := fun ds n k k' h ⟨a, b, c, d, e, g, i, j, l, q⟩ => ⟨a, b, c, d, e, g, i, j, l, h _ _ q⟩
/-- the ends that are there -/
def ends : OI → OI → List Int
  | some a, some b => [a, b]
  | some a, none => [a]
  | none, some b => [b]
  | none, none => []
theorem max_ends {x y : OI} {m : Int} (h1 : m ∈ ends x y) (h2 : ∀ z ∈ ends x y, z ≤ m) : maxO x y = some m := by
  cases x <;> cases y <;> simp only [ends] at h1 h2
  · cases h1
  · simp at h1; subst h1; rfl
  · simp at h1; subst h1; rfl
  · rw [max2 h1 h2]; rfl
theorem min_ends {x y : OI} {m : Int} (h1 : m ∈ ends x y) (h2 : ∀ z ∈ ends x y, m ≤ z) : minO x y = some m := by
  cases x <;> cases y <;> simp only [ends] at h1 h2
  · cases h1
  · simp at h1; subst h1; rfl
  · simp at h1; subst h1; rfl
  · rw [min2 h1 h2]; rfl
theorem ends_nil {x y : OI} (h : ends x y = []) : maxO x y = none ∧ minO x y = none := by
  cases x <;> cases y <;> first | exact ⟨rfl, rfl⟩ | (simp [ends] at h)
theorem ends_len (x y : OI) : (ends x y).length ≤ 2 := by cases x <;> cases y <;> simp [ends]
theorem maxO_bd {B : Int} {x y : OI} (hx : bnd B x) (hy : bnd B y) : bnd B (maxO x y) ∧ bnd B (minO x y) := by
  cases x <;> cases y <;> simp only [bnd, maxO, minO] at * <;> (try split) <;> (try split) <;> first | exact ⟨trivial, trivial⟩ | omega | (refine ⟨?_, ?_⟩ <;> split <;> omega)
theorem ne_nil_deq {x : Int} {S : List Int} : deq (.lst ((x :: S).map Dt.int)) (.lst []) = false := rfl
theorem nil_deq : deq (.lst (([] : List Int).map Dt.int)) (.lst []) = true := rfl
abbrev s_q_met : Stmt := top 43
theorem sc_q_met : FnScope ["_law_one", "_law_other", "_law_fine", "_law_coarse", "_law_lows", "_law_end", "_law_highs", "_law_k", "_law_n", "_law_step"] ["_law_one", "_law_other"] (defScope s_q_met) := ⟨rfl, rfl, rfl, by decide +kernel, rfl, by decide +kernel, by decide +kernel⟩
theorem c_q_met (T : Txt mg) {f_q_strip_brought : Addr} {d_q_strip_brought : FuncData} (c_q_strip_brought : Cal P w K mg base 1 "_law_strip_brought" ["_law_low", "_law_high", "_law_step", "_law_rest"] (gS 4 g_lawBrought) f_q_strip_brought d_q_strip_brought) {f_q_strip_gcd : Addr} {d_q_strip_gcd : FuncData} (c_q_strip_gcd : Cal P w K mg base 1 "_law_strip_gcd" ["_law_one", "_law_other"] (gS 2 g_lgcd) f_q_strip_gcd d_q_strip_gcd) {f_q_strip_in : Addr} {d_q_strip_in : FuncData} (c_q_strip_in : Cal P w K mg base 1 "_law_strip_in" ["_law_strip", "_law_n"] (gS 2 g_lawIn) f_q_strip_in d_q_strip_in) (F : Fun K "_law_met" "_law_met" s_q_met f fd) (hm : mg "_law_met" = some (.ref f)) (hb : Binds K fd ["_law_one", "_law_other"] []) : Cal P w K mg base 3 "_law_met" ["_law_one", "_law_other"] metS f fd := by
  refine fnD F hm hb sc_q_met metS_mono (fun ds n Q h => h.1) (fun cdv A outer s H E hr => ⟨_, (dss_cons (ds_if (DW.dt (dw_or (dt_cmp op_isN simIsN (dv 0) de_non (nomark _)) (dw_or1 (dt_cmp op_isN simIsN (dv 1) de_non (nomark _))))) (dss_one (ds_ret de_non)) dss_nil)
      (dss_cons (ds_if (kteq (K := K) rfl hr.units (kix (K := K) rfl (dv 0) de_int) de_int) (dss_one (ds_ret (de_if (dt_val (de_call c_q_strip_in (hr.mono (by omega)) (da_cons (dv 1) (da_cons (kix (K := K) rfl (dv 0) de_int) da_nil)))) (dv 0) de_non))) dss_nil)
      (dss_cons (ds_if (kteq (K := K) rfl hr.units (kix (K := K) rfl (dv 1) de_int) de_int) (dss_one (ds_ret (de_if (dt_val (de_call c_q_strip_in (hr.mono (by omega)) (da_cons (dv 0) (da_cons (kix (K := K) rfl (dv 1) de_int) da_nil)))) (dv 1) de_non))) dss_nil)
      (dss_cons (ds_asg (de_if (dt_cmp op_le simLe (kix (K := K) rfl (dv 0) de_int) (kix (K := K) rfl (dv 1) de_int) (nomark _)) (de_tup (da_cons (dv 0) (da_cons (dv 1) da_nil))) (de_tup (da_cons (dv 1) (da_cons (dv 0) da_nil)))) (kgseq (K := K) rfl 2 rfl (dgs_cons (dg_name 2 sc_q_met.nd) (dgs_cons (dg_name 3 sc_q_met.nd) dgs_nil))))
      (dss_cons (ds_setComp (i := 4) rfl sc_q_met.nd (kiseq (K := K) rfl (de_tup (da_cons (kix (K := K) rfl (dv 0) de_int) (da_cons (kix (K := K) rfl (dv 1) de_int) da_nil)))) (blkOk_by (own := [("_law_end", 5)]) (N := ["_law_one", "_law_other", "_law_fine", "_law_coarse", "_law_lows", "_law_end", "_law_highs", "_law_k", "_law_n", "_law_step"]) (sc := defScope s_q_met) (by decide +kernel)) (fun _ _ _ _ _ => (dg_name 5 sc_q_met.nd)) (fun _ _ _ _ _ => (dts_one (dt_cmp op_notN simNotN (dv 5) de_non (nomark _)))) (fun _ _ _ _ _ => (dv 5)) (sw_true rfl rfl rfl (by decide +kernel)))
      (dss_cons (ds_setComp (i := 6) rfl sc_q_met.nd (kiseq (K := K) rfl (de_tup (da_cons (kix (K := K) rfl (dv 0) de_int) (da_cons (kix (K := K) rfl (dv 1) de_int) da_nil)))) (blkOk_by (own := [("_law_end", 5)]) (N := ["_law_one", "_law_other", "_law_fine", "_law_coarse", "_law_lows", "_law_end", "_law_highs", "_law_k", "_law_n", "_law_step"]) (sc := defScope s_q_met) (by decide +kernel)) (fun _ _ _ _ _ => (dg_name 5 sc_q_met.nd)) (fun _ _ _ _ _ => (dts_one (dt_cmp op_notN simNotN (dv 5) de_non (nomark _)))) (fun _ _ _ _ _ => (dv 5)) (sw_true rfl rfl rfl (by decide +kernel)))
      (dss_cons (ds_for PassesOwn.never rfl (di_rng1 T.range (da_cons (kmin2 rfl T.min (da_cons (kix (K := K) rfl (dv 2) de_int) (da_cons de_int da_nil))) da_nil)) (dg_name 7 sc_q_met.nd) (dss_cons (ds_set 8 sc_q_met.nd (de_add (kix (K := K) rfl (dv 3) de_int) (de_mul (dv 7) (kix (K := K) rfl (dv 3) de_int))))
      (dss_one (ds_if (kteq (K := K) rfl hr.units (de_sub (dv 8) (kix (K := K) rfl (dv 2) de_int)) (de_mul (kix (K := K) rfl (dv 2) de_int) (de_fdiv (de_sub (dv 8) (kix (K := K) rfl (dv 2) de_int)) (kix (K := K) rfl (dv 2) de_int)))) (dss_cons (ds_set 9 sc_q_met.nd (de_mul (de_fdiv (kix (K := K) rfl (dv 2) de_int) (de_call c_q_strip_gcd (hr.mono (by omega)) (da_cons (kix (K := K) rfl (dv 2) de_int) (da_cons (kix (K := K) rfl (dv 3) de_int) da_nil)))) (kix (K := K) rfl (dv 3) de_int)))
      (dss_one (ds_ret (de_call c_q_strip_brought (hr.mono (by omega)) (da_cons (de_if (ktne (K := K) rfl hr.units (dv 4) (de_lst da_nil)) (kmaxL (K := K) rfl rfl T.max (da_cons (dv 4) da_nil)) de_non) (da_cons (de_if (ktne (K := K) rfl hr.units (dv 6) (de_lst da_nil)) (kminL (K := K) rfl rfl T.min (da_cons (dv 6) da_nil)) de_non) (da_cons (dv 9) (da_cons (dv 8) da_nil)))))))) dss_nil))))
      (dss_one (ds_ret de_non)))))))))⟩) (fun ds n Q h => ?_)
  obtain ⟨hl, h⟩ := h
  obtain ⟨s, o, rfl, vs, bs, vo, bo, mt, h⟩ := h
  cases s with
  | none => simp only [sD]; walk_at "rd"; cases o <;> exact h
  | some q =>
    cases o with
    | none => simp only [sD]; walk_at "rd"; exact h
    | some p =>
      have eq := okD vs (Bnd_wk (by decide) bs)
      have ep := okD vo (Bnd_wk (by decide) bo)
      by_cases h0 : q.m = 0
      · have hq : g_lawIn [sD (some p), .int q.r] = some (.bl (has (some p) q.r)) := by
          simp only [g_lawIn, ep]
          rw [if_pos (by have := bs.2.2.2; unfold BQ at this; unfold BS; omega)]
        simp only [common, if_pos h0] at h
        obtain ⟨a, b, m, r⟩ := q
        obtain ⟨x, y, m', r'⟩ := p
        simp only at h0 h hq
        subst h0
        simp only [sD, q4] at hq h ⊢
        walk_at "rd"
        rw [hq]
        simp only
        cases e : has (some ⟨x, y, m', r'⟩) r <;> rw [e] at h <;> walk_at "rd" <;> exact h
      · have hm : 0 < q.m := by have := vs.1; omega
        by_cases h1 : p.m = 0
        · have hq : g_lawIn [sD (some q), .int p.r] = some (.bl (has (some q) p.r)) := by
            simp only [g_lawIn, eq]
            rw [if_pos (by have := bo.2.2.2; unfold BQ at this; unfold BS; omega)]
          simp only [common, if_neg h0, if_pos h1] at h
          obtain ⟨a, b, m, r⟩ := q
          obtain ⟨x, y, m', r'⟩ := p
          simp only at h0 h hq h1
          subst h1
          simp only [sD, q4] at hq h ⊢
          walk_at "rd"
          simp only [h0, if_false]
          rw [hq]
          simp only
          cases e : has (some ⟨a, b, m, r⟩) r' <;> rw [e] at h <;> walk_at "rd" <;> exact h
        · have hm' : 0 < p.m := by have := vo.1; omega
          -- what is told, for either order
          have tell : ∀ f c : Q4, ((f = q ∧ c = p) ∨ (f = p ∧ c = q)) → (∀ x, Both f c x → Q (sD (brought (maxO q.l p.l) (minO q.h p.h) (lc f.m c.m) x)) n) ∧ ((∀ x, ¬ Both f c x) → Q .non n) := by
            rintro f c (⟨rfl, rfl⟩ | ⟨rfl, rfl⟩)
            · exact ⟨fun x hx => by rw [← common_at hm hm' hx]; exact h, fun hx => by rw [common_no hm hm' hx] at h; exact h⟩
            · exact ⟨fun x hx => by rw [lc_comm hm' hm, ← common_at hm hm' ⟨hx.2, hx.1⟩]; exact h, fun hx => by rw [common_no hm hm' fun x hx2 => hx x ⟨hx2.2, hx2.1⟩] at h; exact h⟩
          have fine : ∀ f c : Q4, ((f = q ∧ c = p) ∨ (f = p ∧ c = q)) → f.m ≤ c.m → f.m ≤ 1001 ∨ f.m ∣ c.m := by
            have z := mt q p rfl rfl
            have le : ∀ a b : Int, 0 < b → a ∣ b → a ≤ b := fun a b hb hd => Int.le_of_dvd hb hd
            rintro f c (⟨rfl, rfl⟩ | ⟨rfl, rfl⟩) hle
            · rcases z with z | z | z
              · exact .inl (by omega)
              · exact .inr z
              · have := le _ _ hm z
                exact .inr (by rw [show f.m = c.m by omega]; exact Int.dvd_refl _)
            · rcases z with z | z | z
              · exact .inl (by omega)
              · have := le _ _ hm' z
                exact .inr (by rw [show f.m = c.m by omega]; exact Int.dvd_refl _)
              · exact .inr z
          have bd : ∀ f c : Q4, ((f = q ∧ c = p) ∨ (f = p ∧ c = q)) → 0 < f.m ∧ 0 < c.m ∧ f.m ≤ BQ ∧ c.m ≤ BQ ∧ (-BQ ≤ f.r ∧ f.r ≤ BQ) ∧ (-BQ ≤ c.r ∧ c.r ≤ BQ) := by
            rintro f c (⟨rfl, rfl⟩ | ⟨rfl, rfl⟩)
            · exact ⟨hm, hm', bs.2.2.1.2, bo.2.2.1.2, bs.2.2.2, bo.2.2.2⟩
            · exact ⟨hm', hm, bo.2.2.1.2, bs.2.2.1.2, bo.2.2.2, bs.2.2.2⟩
          obtain ⟨bL, _⟩ := maxO_bd bs.1 bo.1
          obtain ⟨_, bH⟩ := maxO_bd bs.2.1 bo.2.1
          clear h eq ep vs vo bs bo mt
          obtain ⟨a, b, m, r⟩ := q
          obtain ⟨x, y, m', r'⟩ := p
          simp only at h0 h1 hm hm' bL bH
          simp only [sD, q4]
          refine cut fun kk hkk => ?_
          have C : kk { n := n, sl := [.d (.tup [oi a, oi b, .int m, .int r]), .d (.tup [oi x, oi y, .int m', .int r']), .un, .un, .un, .un, .un, .un, .un, .un] } := by
            subst hkk
            refine cut fun kk hkk => ?_
            have C : kk { n := n, sl := [.d (.tup [oi a, oi b, .int m, .int r]), .d (.tup [oi x, oi y, .int m', .int r']), .un, .un, .un, .un, .un, .un, .un, .un] } := by
              subst hkk
              refine cut fun kk hkk => ?_
              have C : kk { n := n, sl := [.d (.tup [oi a, oi b, .int m, .int r]), .d (.tup [oi x, oi y, .int m', .int r']), .un, .un, .un, .un, .un, .un, .un, .un] } := by
                subst hkk
                refine cut fun kk hkk => ?_
                have C : ∀ f c : Q4, ((f = ⟨a, b, m, r⟩ ∧ c = ⟨x, y, m', r'⟩) ∨ (f = ⟨x, y, m', r'⟩ ∧ c = ⟨a, b, m, r⟩)) → f.m ≤ c.m → kk { n := n, sl := [.d (.tup [oi a, oi b, .int m, .int r]), .d (.tup [oi x, oi y, .int m', .int r']), .d (.tup (q4 f)), .d (.tup (q4 c)), .un, .un, .un, .un, .un, .un] } := by
                  intro f c hfc hle
                  subst hkk
                  obtain ⟨t1, t2⟩ := tell f c hfc
                  have fi := fine f c hfc hle
                  obtain ⟨fm, cm, fB, cB, fr, cr⟩ := bd f c hfc
                  clear tell fine bd hfc
                  obtain ⟨fl, fh, fm', fr'⟩ := f
                  obtain ⟨cl_1, ch, cm', cr'⟩ := c
                  simp only at fm cm fB cB fr cr hle fi t1 t2
                  simp only [q4]
                  refine cut fun kk hkk => ?_
                  have C : kk { n := n, sl := [.d (.tup [oi a, oi b, .int m, .int r]), .d (.tup [oi x, oi y, .int m', .int r']), .d (.tup [oi fl, oi fh, .int fm', .int fr']), .d (.tup [oi cl_1, oi ch, .int cm', .int cr']), .d (.lst ((ends a x).map Dt.int)), .un, .un, .un, .un, .un] } := by
                    subst hkk
                    refine cut fun kk hkk => ?_
                    have C : kk { n := n, sl := [.d (.tup [oi a, oi b, .int m, .int r]), .d (.tup [oi x, oi y, .int m', .int r']), .d (.tup [oi fl, oi fh, .int fm', .int fr']), .d (.tup [oi cl_1, oi ch, .int cm', .int cr']), .d (.lst ((ends a x).map Dt.int)), .un, .d (.lst ((ends b y).map Dt.int)), .un, .un, .un] } := by
                      subst hkk
                      have cd : ∀ i, CDivW i fm' := fun i => divW fm (by unfold BQ at fB; unfold BS; omega)
                      have gp := gc_pos (b := cm') fm
                      have cg : CDivW fm' (gc fm' cm') := divW gp (by have := gc_le (b := cm') fm; unfold BQ at fB; unfold BS; omega)
                      have gl : g_lgcd [.int fm', .int cm'] = some (.int (gc fm' cm')) := by
                        simp only [g_lgcd]
                        rw [if_pos (by unfold BQ at fB cB; unfold GB; omega)]
                      obtain ⟨_, p1, _, _, _, l1, _⟩ := coprime fm cm
                      have cl : CMulW (fm' / gc fm' cm') cm' := by unfold BQ at fB cB; exact mulOk (by omega) (by omega)
                      have lb : lc fm' cm' ≤ BS := by
                        have h1 : fm' / gc fm' cm' * cm' ≤ BQ * BQ := Int.mul_le_mul (by omega) cB (by omega) (by decide)
                        have h2 : BQ * BQ ≤ BS := by decide
                        exact Int.le_trans h1 h2
                      have lp := Int.le_of_lt (lc_pos fm cm)
                      have fL := fine_ints (k := 63) (S := ends a x) (by have := ends_len a x; omega)
                      have fH := fine_ints (k := 63) (S := ends b y) (by have := ends_len b y; omega)
                      have mx : ∀ z, z ∈ ends a x → (∀ w ∈ ends a x, w ≤ z) → maxO a x = some z := fun z => max_ends
                      have mn : ∀ z, z ∈ ends b y → (∀ w ∈ ends b y, z ≤ w) → minO b y = some z := fun z => min_ends
                      have mx0 : ends a x = [] → maxO a x = none := fun h => (ends_nil h).1
                      have mn0 : ends b y = [] → minO b y = none := fun h => (ends_nil h).2
                      have wL := bnd_wk (C := BS) (by decide) bL
                      have wH := bnd_wk (C := BS) (by decide) bH
                      clear bL bH
                      generalize maxO a x = ML at *
                      generalize minO b y = MH at *
                      generalize ends a x = EL at *
                      generalize ends b y = EH at *
                      walk_at "rd"
                      refine ⟨by split <;> omega, ?_⟩
                      obtain ⟨KK, hKK⟩ : ∃ KK : Nat, KK = (if 1001 < fm' then 1001 else fm').toNat := ⟨_, rfl⟩
                      rw [← hKK]
                      have KB : KK ≤ 1001 := by rw [hKK]; split <;> omega
                      refine loopInv (fun xs ρ => ∃ (j cnt : Nat) (z5 z7 z8 z9 : SV), xs = (List.range' j cnt).map (fun k : Nat => Dt.int (0 + (k : Int))) ∧ j + cnt = KK ∧ (∀ i : Nat, i < j → ¬ fm' ∣ cr' + (i : Int) * cm' - fr') ∧
                        ρ = { n := n, sl := [.d (.tup [oi a, oi b, .int m, .int r]), .d (.tup [oi x, oi y, .int m', .int r']), .d (.tup [oi fl, oi fh, .int fm', .int fr']), .d (.tup [oi cl_1, oi ch, .int cm', .int cr']), .d (.lst (EL.map Dt.int)), z5, .d (.lst (EH.map Dt.int)), z7, z8, z9] }) ?_ ?_ _ _ ⟨0, KK, _, _, _, _, by unfold rng; rw [List.range_eq_range'], by omega, fun i hi => by omega, rfl⟩
                      · rintro ρ ⟨j, cnt, z5, z7, z8, z9, e, ej, hj, rfl⟩
                        cases cnt with
                        | succ c => cases e
                        | zero =>
                          refine t2 fun X hX => ?_
                          obtain ⟨k, k1, k2, k3⟩ := search (f := ⟨fl, fh, fm', fr'⟩) (c := ⟨cl_1, ch, cm', cr'⟩) fm hX
                          simp only at k1 k2 k3
                          rcases fi with fi | fi
                          · exact hj k (by rw [hKK] at ej; split at ej <;> omega) k2
                          · have := k3 fi
                            subst this
                            exact hj 0 (by rw [hKK] at ej; split at ej <;> omega) k2
                      · rintro X xs ρ ⟨j, cnt, z5, z7, z8, z9, e, ej, hj, rfl⟩ go hgo
                        cases cnt with
                        | zero => cases e
                        | succ cnt =>
                          rw [List.range'_succ] at e
                          cases e
                          have jb : (j : Int) ≤ 1001 := by omega
                          have nb : -(BQ * 2000) ≤ cr' + (j : Int) * cm' ∧ cr' + (j : Int) * cm' ≤ BQ * 2000 := by
                            have h1 := Int.mul_nonneg (Int.natCast_nonneg j) (Int.le_of_lt cm)
                            have h2 : (j : Int) * cm' ≤ 1001 * BQ := Int.mul_le_mul jb cB (by omega) (by decide)
                            omega
                          have c1 : CMulW (j : Int) cm' := by unfold BQ at cB; exact mulOk (by omega) (by omega)
                          have c2 : CMulW fm' ((cr' + (j : Int) * cm' - fr') / fm') := by
                            have := div_bd (x := cr' + (j : Int) * cm' - fr') (B := BQ * 3000) fm (by omega)
                            unfold BQ at *
                            exact mulOk (by omega) (by omega)
                          walk_at "rd"
                          simp only [Int.zero_add, c1, c2, cd, mod_eq, true_and]
                          by_cases hd : (cr' + (j : Int) * cm' - fr') % fm' = 0
                          · simp only [hd, if_true, gl]
                            walk_at "rd"
                            simp only [cg, cl, true_and]
                            have fin := t1 (cr' + (j : Int) * cm') ⟨Int.dvd_of_emod_eq_zero hd, by simp only; rw [show cr' + (j : Int) * cm' - cr' = (j : Int) * cm' by omega]; exact Int.dvd_mul_left ..⟩
                            have fin : match g_lawBrought [oi ML, oi MH, .int (fm' / gc fm' cm' * cm'), .int (cr' + (j : Int) * cm')] with
                              | some d => Q d n
                              | none => False := by
                              rw [lawBr (m := fm' / gc fm' cm' * cm') lp lb (by unfold BQ at nb; unfold BS; omega) wL wH]
                              exact fin
                            clear t1 t2 hgo hj
                            have tl : ∀ e : OI, (∀ z, z ∈ EH → (∀ w ∈ EH, z ≤ w) → MH = some z) → (match g_lawBrought [oi e, oi MH, .int (fm' / gc fm' cm' * cm'), .int (cr' + (j : Int) * cm')] with
                              | some d => Q d n
                              | none => False) → ((decide ((List.map Dt.int EH).length ≤ 1000000) && fineL 63 (List.map Dt.int EH)) = true ∧ (decide True && fineL 63 []) = true) ∧
                                if deq (Dt.lst (List.map Dt.int EH)) (Dt.lst []) = false then 0 < EH.length ∧ ∀ (m_1 : Int), m_1 ∈ EH → (∀ (y : Int), y ∈ EH → m_1 ≤ y) → match g_lawBrought [oi e, Dt.int m_1, Dt.int (fm' / gc fm' cm' * cm'), Dt.int (cr' + ↑j * cm')] with
                                  | some r => Q r n
                                  | none => False
                                else match g_lawBrought [oi e, Dt.non, Dt.int (fm' / gc fm' cm' * cm'), Dt.int (cr' + ↑j * cm')] with
                                  | some r => Q r n
                                  | none => False := by
                              intro e mn fin
                              refine ⟨⟨fH, rfl⟩, ?_⟩
                              cases EH with
                              | nil =>
                                have eM := mn0 rfl
                                subst eM
                                rw [nil_deq, if_neg (by decide)]
                                exact fin
                              | cons z EH =>
                                rw [ne_nil_deq, if_pos rfl]
                                refine ⟨by simp, fun w w1 w2 => ?_⟩
                                have eM := mn w w1 w2
                                subst eM
                                exact fin
                            refine ⟨⟨fL, rfl⟩, ?_⟩
                            cases EL with
                            | nil =>
                              have eM := mx0 rfl
                              subst eM
                              rw [nil_deq, if_neg (by decide)]
                              exact tl none mn fin
                            | cons z EL =>
                              rw [ne_nil_deq, if_pos rfl]
                              refine ⟨by simp, fun w w1 w2 => ?_⟩
                              have eM := mx w w1 w2
                              subst eM
                              exact tl (some w) mn fin
                          · simp only [hd, if_false]
                            refine hgo _ ⟨j + 1, cnt, _, _, _, _, rfl, by omega, fun i hi => ?_, rfl⟩
                            rcases (by omega : i < j ∨ i = j) with h | rfl
                            · exact hj i h
                            · exact fun z => hd (Int.emod_eq_zero_of_dvd z)
                    clear hkk
                    walk_at "rd"
                    cases b <;> cases y <;> simp only [oi, ends] at C ⊢ <;> walk_at "rd" <;> exact C
                  clear hkk
                  walk_at "rd"
                  cases a <;> cases x <;> simp only [oi, ends] at C ⊢ <;> walk_at "rd" <;> exact C
                clear hkk
                walk_at "rd"
                split
                · exact C ⟨a, b, m, r⟩ ⟨x, y, m', r'⟩ (.inl ⟨rfl, rfl⟩) (by assumption)
                · exact C ⟨x, y, m', r'⟩ ⟨a, b, m, r⟩ (.inr ⟨rfl, rfl⟩) (by show m' ≤ m; omega)
              clear hkk
              walk_at "rd"
              simp only [h1, if_false]
              exact C
            clear hkk
            walk_at "rd"
            simp only [h0, if_false]
            exact C
          clear hkk
          walk_at "rd"
          exact C
end
end K11

set_option Elab.async false
set_option linter.all false
set_option maxRecDepth 100000
set_option maxHeartbeats 2000000
set_option autoImplicit false
namespace K11
open K10 PySem PySem.Spec L2 DL
example : (1 = 1) ∧ True := by simp only [compD, oi_non, Option.isNone_none, Option.isNone_some, ltS0, ltS1, mTru, mOrT, mAndT, truD_bl, truD_non, truD_int, truD_tup, truD_lst, List.isEmpty_cons, List.isEmpty_nil, mPar, c2, cMax2, cMin2, cGcd, insOf_map, wipeE, List.foldr_cons, List.foldr_nil, gS, mSeq, mIfS, mRet, mRetN, mAsg, gmName, mVar_app, mC, mOp, mUn, uIsi, mB, mTNot, mTAnd, mTOr, mAnd, mOr, uNot, mIf, mNil, mCons, mTup, mLst, mCB, mCall, mCallKw, mNext, mNever, mDrop, mFor, miSeq, miZip, miRng1, miRng2, mComp, mData, mApp, mExt, mOwn, mFLst, mFCat, mFCopy, mOwnIx, mOwnLen, mOwnIn, mTYes, drawS, cAll, cAny, cList, deq_bl, owns, ownOf, loopD, gmNil, gmCons, gmTup, gmSeq, seqOf_lst, seqOf_tup, seqOf_non, seqOf_int, seqOf_bl, seqOf_str, seqOf_strm, cLen, cTuple, cInt, cAbs, oAdd_ii, oAdd_ll, oSub, oMul_ii, oMul_li, oFdiv, oMod, oPow, oI, oI0, uI, uNeg, oLt, oLe, oGt, oGe, oIsN, oNotN, isNon_lst, isNon_tup, isNon_non, isNon_int, isNon_bl, isNon_str, isNon_strm, oEq, oNe, oIx, atI_0, atI_1, atI_2, atI_3, atI_4, DL.atI_last, En.put, start0, tyD_lst, tyD_tup, tyD_non, tyD_int, tyD_bl, tyD_str, tyD_strm, isiT, deq_int, List.any_cons, List.any_nil, List.map_cons, List.map_nil, List.length_cons, List.length_nil, List.cons_append, List.nil_append, List.getElem?_cons_zero, List.getElem?_cons_succ, List.set_cons_zero, List.set_cons_succ, Bool.or_false, Bool.false_or, Bool.not_true, Bool.not_false, if_true, if_false, Bool.false_eq_true, List.reduceReplicate, Nat.reduceSub, Nat.reduceAdd, decide_eq_true_eq, Bool.not_eq_true', decide_eq_false_iff_not, fineD, true_and, and_true, and_self, sizeLine_eq, Nat.reduceLeDiff, not_true_eq_false, not_false_eq_true, beq_self_eq_true, Bool.not_eq_false, Bool.not_eq_true, reduceIte, Bool.true_eq_false, Nat.reduceEqDiff, ne_eq]
local macro_rules | `(tactic| walk_at "rd") => `(tactic| try simp only [compD, oi_non, Option.isNone_none, Option.isNone_some, ltS0, ltS1, mTru, mOrT, mAndT, truD_bl, truD_non, truD_int, truD_tup, truD_lst, List.isEmpty_cons, List.isEmpty_nil, mPar, c2, cMax2, cMin2, cGcd, insOf_map, wipeE, List.foldr_cons, List.foldr_nil, gS, mSeq, mIfS, mRet, mRetN, mAsg, gmName, mVar_app, mC, mOp, mUn, uIsi, mB, mTNot, mTAnd, mTOr, mAnd, mOr, uNot, mIf, mNil, mCons, mTup, mLst, mCB, mCall, mCallKw, mNext, mNever, mDrop, mFor, miSeq, miZip, miRng1, miRng2, mComp, mData, mApp, mExt, mOwn, mFLst, mFCat, mFCopy, mOwnIx, mOwnLen, mOwnIn, mTYes, drawS, cAll, cAny, cList, deq_bl, owns, ownOf, loopD, gmNil, gmCons, gmTup, gmSeq, seqOf_lst, seqOf_tup, seqOf_non, seqOf_int, seqOf_bl, seqOf_str, seqOf_strm, cLen, cTuple, cInt, cAbs, oAdd_ii, oAdd_ll, oSub, oMul_ii, oMul_li, oFdiv, oMod, oPow, oI, oI0, uI, uNeg, oLt, oLe, oGt, oGe, oIsN, oNotN, isNon_lst, isNon_tup, isNon_non, isNon_int, isNon_bl, isNon_str, isNon_strm, oEq, oNe, oIx, atI_0, atI_1, atI_2, atI_3, atI_4, DL.atI_last, En.put, start0, tyD_lst, tyD_tup, tyD_non, tyD_int, tyD_bl, tyD_str, tyD_strm, isiT, deq_int, List.any_cons, List.any_nil, List.map_cons, List.map_nil, List.length_cons, List.length_nil, List.cons_append, List.nil_append, List.getElem?_cons_zero, List.getElem?_cons_succ, List.set_cons_zero, List.set_cons_succ, Bool.or_false, Bool.false_or, Bool.not_true, Bool.not_false, if_true, if_false, Bool.false_eq_true, List.reduceReplicate, Nat.reduceSub, Nat.reduceAdd, decide_eq_true_eq, Bool.not_eq_true', decide_eq_false_iff_not, fineD, true_and, and_true, and_self, sizeLine_eq, Nat.reduceLeDiff, not_true_eq_false, not_false_eq_true, beq_self_eq_true, Bool.not_eq_false, Bool.not_eq_true, reduceIte, Bool.true_eq_false, Nat.reduceEqDiff, ne_eq])
section
variable {k : Nat} {P : Program} {w : World} {K : PySem.W.Frag} {mg : Str → Option Value} {base : Heap} {f : Addr} {fd : FuncData}
theorem gc_comm (a b : Int) : gc a b = gc b a := dvd_ext (gc_nn _ _) (gc_nn _ _) fun d => by rw [gc_dvd, gc_dvd]; exact And.comm
theorem summed_comm (s o : Option Q4) : summed s o = summed o s := by
  cases s with
  | none => cases o <;> rfl
  | some q =>
    cases o with
    | none => rfl
    | some p =>
      have e : ∀ x y : OI, o2 (· + ·) x y = o2 (· + ·) y x := fun x y => by
        cases x <;> cases y <;> simp only [o2]
        rw [Int.add_comm]
      simp only [summed]
      rw [e q.l, e q.h, gc_comm, Int.add_comm]
theorem around_comm (s o : Option Q4) : around s o = around o s := by
  cases s with
  | none => cases o <;> rfl
  | some q =>
    cases o with
    | none => rfl
    | some p =>
      have e1 : ∀ x y : OI, o2 (fun i j => if j < i then j else i) x y = o2 (fun i j => if j < i then j else i) y x := fun x y => by
        cases x <;> cases y <;> simp only [o2]
        congr 1; split <;> split <;> omega
      have e2 : ∀ x y : OI, o2 (fun i j => if j > i then j else i) x y = o2 (fun i j => if j > i then j else i) y x := fun x y => by
        cases x <;> cases y <;> simp only [o2]
        congr 1; split <;> split <;> omega
      have e3 : gc (gc q.m p.m) (if q.r - p.r < 0 then -(q.r - p.r) else q.r - p.r) = gc (gc p.m q.m) (if p.r - q.r < 0 then -(p.r - q.r) else p.r - q.r) :=
        dvd_ext (gc_nn _ _) (gc_nn _ _) fun d => by
          rw [gc_dvd, gc_dvd, gc_dvd, gc_dvd, abs_dvd, abs_dvd]
          exact ⟨fun ⟨⟨a, b⟩, c⟩ => ⟨⟨b, a⟩, dvd_sub_swap c⟩, fun ⟨⟨a, b⟩, c⟩ => ⟨⟨b, a⟩, dvd_sub_swap c⟩⟩
      simp only [around]
      rw [e1 q.l, e2 q.h, ← e3]
      apply brought_congr
      obtain ⟨_, h⟩ := gc_dvd.mp (Int.dvd_refl (gc (gc q.m p.m) (if q.r - p.r < 0 then -(q.r - p.r) else q.r - p.r)))
      exact abs_dvd.mp h
theorem fine_sD (s : Option Q4) (k : Nat) : fineD (k + 1) (sD s) = true := by
  cases s with
  | none => cases k <;> rfl
  | some q => exact fine_q4 q k
theorem loose_sD {s : Option Q4} {n : Nat} {Q : Dt → Nat → Prop} (v : Valid s) (b : Bnd BS s) (hn : n < CAP) (q : ∀ d n', okS d = some s → n' ≤ n + 1 → Q d n') : looseS 2 [.strm, sD s] n Q := by
  refine ⟨rfl, _, rfl, ?_⟩
  cases s with
  | none => exact .inl ⟨rfl, q _ _ (okS_of rfl v b) (by omega)⟩
  | some p =>
    refine .inr ⟨q4 p, rfl, ?_, by simp [q4], hn, q _ _ (okS_of (by simp [dS, dQ_q4]) v b) (by omega), q _ _ (okS_of (by simp [dS, dQ_q4]) v b) (by omega)⟩
    obtain ⟨l, h, m, r⟩ := p
    cases l <;> cases h <;> rfl
def pairS : Spc := fun ds n Q => ds.length = 4 ∧ ∃ s o, ds = [.strm, sD s, sD o, sD (common s o)] ∧ Valid s ∧ Bnd BQ s ∧ Valid o ∧ Bnd BQ o ∧ n + 10 < CAP ∧ ∀ n', n' ≤ n + 2 → Q (.bl true) n'
theorem pairS_mono : MonoS pairS := fun ds n k k' h ⟨a, b, c, d, e, g, i, j, l, q⟩ => ⟨a, b, c, d, e, g, i, j, l, fun n' hn => h _ _ (q n' hn)⟩
abbrev s_q_pair_right : Stmt := top 46
theorem sc_q_pair_right : FnScope ["_law_stream_here", "_law_one", "_law_other", "_law_met_here", "_law_is_low", "_law_is_high", "_law_due", "_law_loose_here", "_law_much", "_law_found"] ["_law_stream_here", "_law_one", "_law_other", "_law_met_here"] (defScope s_q_pair_right) := ⟨rfl, rfl, rfl, by decide +kernel, rfl, by decide +kernel, by decide +kernel⟩
theorem c_q_pair_right (T : Txt mg) {f_q_loose : Addr} {d_q_loose : FuncData} (c_q_loose : Cal P w K mg base 3 "_law_loose" ["_law_stream_here", "_law_thing"] (looseS 2) f_q_loose d_q_loose) {f_q_same : Addr} {d_q_same : FuncData} (c_q_same : Cal P w K mg base 3 "_law_same" ["_law_found", "_law_due"] ((sameS 3)) f_q_same d_q_same) {f_q_strip_around : Addr} {d_q_strip_around : FuncData} (c_q_strip_around : Cal P w K mg base 2 "_law_strip_around" ["_law_some", "_law_is_low", "_law_is_high"] aroundS f_q_strip_around d_q_strip_around) {f_q_strip_open : Addr} {d_q_strip_open : FuncData} (c_q_strip_open : Cal P w K mg base 1 "_law_strip_open" ["_law_one", "_law_other"] openS f_q_strip_open d_q_strip_open) {f_q_strip_some : Addr} {d_q_strip_some : FuncData} (c_q_strip_some : Cal P w K mg base 2 "_law_strip_some" ["_law_strip", "_law_far"] someS f_q_strip_some d_q_strip_some) {f_q_strip_sums : Addr} {d_q_strip_sums : FuncData} (c_q_strip_sums : Cal P w K mg base 3 "_law_strip_sums" ["_law_one", "_law_other"] sumsS f_q_strip_sums d_q_strip_sums) {f_strip_joined : Addr} {d_strip_joined : FuncData} (c_strip_joined : Cal P w K mg base 5 "strip_joined" ["strip", "other"] (gS 2 (g2 around)) f_strip_joined d_strip_joined) {f_strip_met : Addr} {d_strip_met : FuncData} (c_strip_met : Cal P w K mg base 5 "strip_met" ["strip", "other"] ((fL common)) f_strip_met d_strip_met) {f_strip_sum : Addr} {d_strip_sum : FuncData} (c_strip_sum : Cal P w K mg base 5 "strip_sum" ["strip", "other"] (gS 2 (g2 summed)) f_strip_sum d_strip_sum) (k_strip_sum_1_0 : KBd K d_strip_sum ["strip", "other"] ["other", "strip"] [1, 0]) (k_strip_met_1_0 : KBd K d_strip_met ["strip", "other"] ["other", "strip"] [1, 0]) (k_strip_joined_1_0 : KBd K d_strip_joined ["strip", "other"] ["other", "strip"] [1, 0]) (F : Fun K "_law_pair_right" "_law_pair_right" s_q_pair_right f fd) (hm : mg "_law_pair_right" = some (.ref f)) (hb : Binds K fd ["_law_stream_here", "_law_one", "_law_other", "_law_met_here"] []) : Cal P w K mg base 6 "_law_pair_right" ["_law_stream_here", "_law_one", "_law_other", "_law_met_here"] pairS f fd := by
  refine fnD F hm hb sc_q_pair_right pairS_mono (fun ds n Q h => h.1) (fun cdv A outer s H E hr => ⟨_, (dss_cons (ds_asg (de_call c_q_strip_open (hr.mono (by omega)) (da_cons (dv 1) (da_cons (dv 2) da_nil))) (kgseq (K := K) rfl 2 rfl (dgs_cons (dg_name 4 sc_q_pair_right.nd) (dgs_cons (dg_name 5 sc_q_pair_right.nd) dgs_nil))))
      (dss_cons (ds_set 6 sc_q_pair_right.nd (de_lst (da_cons (de_call c_q_strip_around (hr.mono (by omega)) (da_cons (de_add (de_call c_q_strip_some (hr.mono (by omega)) (da_cons (dv 1) (da_cons de_int da_nil))) (de_call c_q_strip_some (hr.mono (by omega)) (da_cons (dv 2) (da_cons de_int da_nil)))) (da_cons (dv 4) (da_cons (dv 5) da_nil)))) (da_cons (dv 3) (da_cons (de_call c_q_strip_sums (hr.mono (by omega)) (da_cons (dv 1) (da_cons (dv 2) da_nil))) da_nil)))))
      (dss_cons (ds_par 7 8 rfl sc_q_pair_right.nd (da_cons (de_call c_q_loose (hr.mono (by omega)) (da_cons (dv 0) (da_cons (dv 1) da_nil))) (da_cons (de_call c_q_loose (hr.mono (by omega)) (da_cons (dv 0) (da_cons (dv 2) da_nil))) da_nil)))
      (dss_cons (ds_set 9 sc_q_pair_right.nd (de_lst (da_cons (de_call c_strip_joined (hr.mono (by omega)) (da_cons (dv 1) (da_cons (dv 2) da_nil))) (da_cons (de_call c_strip_met (hr.mono (by omega)) (da_cons (dv 1) (da_cons (dv 2) da_nil))) (da_cons (de_call c_strip_sum (hr.mono (by omega)) (da_cons (dv 1) (da_cons (dv 2) da_nil))) da_nil)))))
      (dss_cons (ds_set 9 sc_q_pair_right.nd (de_add (dv 9) (de_lst (da_cons (de_call c_strip_joined (hr.mono (by omega)) (da_cons (dv 2) (da_cons (dv 1) da_nil))) (da_cons (de_call c_strip_met (hr.mono (by omega)) (da_cons (dv 2) (da_cons (dv 1) da_nil))) (da_cons (de_call c_strip_sum (hr.mono (by omega)) (da_cons (dv 2) (da_cons (dv 1) da_nil))) da_nil))))))
      (dss_cons (ds_set 9 sc_q_pair_right.nd (de_add (dv 9) (de_lst (da_cons (de_callKw k_strip_joined_1_0 c_strip_joined (hr.mono (by omega)) (dk_cons (dv 8) (dk_cons (dv 7) dk_nil))) (da_cons (de_callKw k_strip_met_1_0 c_strip_met (hr.mono (by omega)) (dk_cons (dv 8) (dk_cons (dv 7) dk_nil))) da_nil)))))
      (dss_one (ds_ret (de_call c_q_same (hr.mono (by omega)) (da_cons (de_add (dv 9) (de_lst (da_cons (de_callKw k_strip_sum_1_0 c_strip_sum (hr.mono (by omega)) (dk_cons (dv 8) (dk_cons (dv 7) dk_nil))) da_nil))) (da_cons (de_mul (dv 6) de_int) da_nil)))))))))))⟩) (fun ds n Q h => ?_)
  obtain ⟨hl, h⟩ := h
  obtain ⟨s, o, rfl, vs, bs, vo, bo, hn, h⟩ := h
  have oks := okD vs (Bnd_wk (C := BS) (by decide) bs)
  have oko := okD vo (Bnd_wk (C := BS) (by decide) bo)
  have lS := nearS_len (s := s) (far := 1) (by decide)
  have lT := nearS_len (s := o) (far := 1) (by decide)
  have bS := nearS_bd (far := 1) (by decide) bs
  have bT := nearS_bd (far := 1) (by decide) bo
  have due := joined_due vs vo (near1 vs) (near1 vo)
  obtain ⟨S, hS⟩ : ∃ S, S = nearS s 1 := ⟨_, rfl⟩
  obtain ⟨U, hU⟩ : ∃ U, U = nearS o 1 := ⟨_, rfl⟩
  rw [← hS] at bS lS
  rw [← hU] at bT lT
  rw [← hS, ← hU] at due
  have smS : ∀ Q' : Dt → Nat → Prop, Q' (.lst (S.map Dt.int)) n → someS [sD s, Dt.int 1] n Q' := fun Q' q => ⟨rfl, _, s, 1, rfl, oks, by decide, by decide, by rw [← hS]; exact q⟩
  have smU : ∀ Q' : Dt → Nat → Prop, Q' (.lst (U.map Dt.int)) n → someS [sD o, Dt.int 1] n Q' := fun Q' q => ⟨rfl, _, o, 1, rfl, oko, by decide, by decide, by rw [← hU]; exact q⟩
  walk_at "rd"
  refine ⟨rfl, s, o, rfl, ?_⟩
  walk_at "rd"
  refine smS _ ?_
  walk_at "rd"
  refine smU _ ?_
  walk_at "rd"
  refine ⟨by simp; omega, ?_⟩
  rw [← List.map_append]
  refine ⟨rfl, _, _, _, _, rfl, by rw [List.length_append]; omega, fun x hx => ?_, due, ?_⟩
  · rcases List.mem_append.mp hx with hx | hx
    · have := bS x hx; unfold BQ AB at *; omega
    · have := bT x hx; unfold BQ AB at *; omega
  walk_at "rd"
  refine ⟨rfl, s, o, rfl, vs, bs, vo, bo, ?_⟩
  walk_at "rd"
  refine loose_sD vs (Bnd_wk (by decide) bs) (by unfold CAP at *; omega) fun d1 n1 h1 hn1 => ?_
  walk_at "rd"
  refine loose_sD vo (Bnd_wk (by decide) bo) (by unfold CAP at *; omega) fun d2 n2 h2 hn2 => ?_
  have gg : ∀ (F : Option Q4 → Option Q4 → Option Q4) (d e : Dt) (s o : Option Q4), okS d = some s → okS e = some o → g2 F [d, e] = some (sD (F s o)) := fun F d e s o h1 h2 => by simp only [g2, h1, h2]
  have ff : ∀ (F : Option Q4 → Option Q4 → Option Q4) (d e : Dt) (s o : Option Q4) (m : Nat) (Q' : Dt → Nat → Prop), okS d = some s → okS e = some o → Q' (sD (F s o)) m → fL F [d, e] m Q' := fun F d e s o m Q' h1 h2 q => ⟨rfl, d, e, s, o, rfl, h1, h2, q⟩
  have ep : permL [1, 0] [d2, d1] = [d1, d2] := rfl
  walk_at "rd"
  simp only [gg around _ _ _ _ oks oko, gg around _ _ _ _ oko oks, gg summed _ _ _ _ oks oko, gg summed _ _ _ _ oko oks, ep, gg around _ _ _ _ h1 h2, gg summed _ _ _ _ h1 h2, around_comm o s, summed_comm o s]
  refine ff _ _ _ _ _ _ _ oks oko ?_
  walk_at "rd"
  refine ff _ _ _ _ _ _ _ oko oks ?_
  rw [common_comm vo vs]
  walk_at "rd"
  refine ⟨rfl, d1, d2, s, o, rfl, h1, h2, by decide, rfl, ⟨_, rfl, ?_⟩, h _ (by omega)⟩
  have e1 := fine_sD (around s o) 0
  have e2 := fine_sD (common s o) 0
  have e3 := fine_sD (summed s o) 0
  show (decide (9 ≤ 1000000) && (fineD 1 (sD (around s o)) && (fineD 1 (sD (common s o)) && (fineD 1 (sD (summed s o)) && (fineD 1 (sD (around s o)) && (fineD 1 (sD (common s o)) && (fineD 1 (sD (summed s o)) && (fineD 1 (sD (around s o)) && (fineD 1 (sD (common s o)) && (fineD 1 (sD (summed s o)) && true)))))))))) = true
  rw [e1, e2, e3]; rfl
def oneS : Spc := fun ds n Q => ds.length = 3 ∧ ∃ s i, ds = [.strm, sD s, .int i] ∧ Valid s ∧ Bnd BQ s ∧ (-BQ ≤ i ∧ i ≤ BQ) ∧ n + 10 < CAP ∧ ∀ n', n' ≤ n + 1 → Q (.bl true) n'
theorem oneS_mono : MonoS oneS := fun ds n k k' h ⟨a, b, c, d, e, g, i, j, q⟩ => ⟨a, b, c, d, e, g, i, j, fun n' hn => h _ _ (q n' hn)⟩
abbrev s_q_one_right : Stmt := top 47
theorem sc_q_one_right : FnScope ["_law_stream_here", "_law_strip", "_law_n", "_law_some", "_law_loose_here", "_law_is_low", "_law_is_high", "_law_less", "_law_m", "_law_much"] ["_law_stream_here", "_law_strip", "_law_n"] (defScope s_q_one_right) := ⟨rfl, rfl, rfl, by decide +kernel, rfl, by decide +kernel, by decide +kernel⟩
theorem c_q_one_right (T : Txt mg) {f_q_loose : Addr} {d_q_loose : FuncData} (c_q_loose : Cal P w K mg base 3 "_law_loose" ["_law_stream_here", "_law_thing"] (looseS 2) f_q_loose d_q_loose) {f_q_same : Addr} {d_q_same : FuncData} (c_q_same : Cal P w K mg base 3 "_law_same" ["_law_found", "_law_due"] ((sameS 3)) f_q_same d_q_same) {f_q_strip_around : Addr} {d_q_strip_around : FuncData} (c_q_strip_around : Cal P w K mg base 2 "_law_strip_around" ["_law_some", "_law_is_low", "_law_is_high"] aroundS f_q_strip_around d_q_strip_around) {f_q_strip_in : Addr} {d_q_strip_in : FuncData} (c_q_strip_in : Cal P w K mg base 1 "_law_strip_in" ["_law_strip", "_law_n"] (gS 2 g_lawIn) f_q_strip_in d_q_strip_in) {f_q_strip_some : Addr} {d_q_strip_some : FuncData} (c_q_strip_some : Cal P w K mg base 2 "_law_strip_some" ["_law_strip", "_law_far"] someS f_q_strip_some d_q_strip_some) {f_strip_times : Addr} {d_strip_times : FuncData} (c_strip_times : Cal P w K mg base 5 "strip_times" ["n", "strip"] (gS 2 g_mult) f_strip_times d_strip_times) {f_strip_without : Addr} {d_strip_without : FuncData} (c_strip_without : Cal P w K mg base 5 "strip_without" ["strip", "n"] (gS 2 g_without) f_strip_without d_strip_without) (k_strip_times_1_0 : KBd K d_strip_times ["n", "strip"] ["strip", "n"] [1, 0]) (k_strip_without_1_0 : KBd K d_strip_without ["strip", "n"] ["n", "strip"] [1, 0]) (F : Fun K "_law_one_right" "_law_one_right" s_q_one_right f fd) (hm : mg "_law_one_right" = some (.ref f)) (hb : Binds K fd ["_law_stream_here", "_law_strip", "_law_n"] []) : Cal P w K mg base 6 "_law_one_right" ["_law_stream_here", "_law_strip", "_law_n"] oneS f fd := by
  refine fnD F hm hb sc_q_one_right oneS_mono (fun ds n Q h => h.1) (fun cdv A outer s H E hr => ⟨_, (dss_cons (ds_par 3 4 rfl sc_q_one_right.nd (da_cons (de_call c_q_strip_some (hr.mono (by omega)) (da_cons (dv 1) (da_cons de_int da_nil))) (da_cons (de_call c_q_loose (hr.mono (by omega)) (da_cons (dv 0) (da_cons (dv 1) da_nil))) da_nil)))
      (dss_cons (ds_par 5 6 rfl sc_q_one_right.nd (da_cons (de_or (de_cmp op_isN simIsN (dv 1) de_non (nomark _)) (de_one (de_cmp op_notN simNotN (kix (K := K) rfl (dv 1) de_int) de_non (nomark _)))) (da_cons (de_or (de_cmp op_isN simIsN (dv 1) de_non (nomark _)) (de_one (de_cmp op_notN simNotN (kix (K := K) rfl (dv 1) de_int) de_non (nomark _)))) da_nil)))
      (dss_cons (ds_set 7 sc_q_one_right.nd (de_if (dt_val (de_call c_q_strip_in (hr.mono (by omega)) (da_cons (dv 1) (da_cons (dv 2) da_nil)))) (de_call c_q_strip_around (hr.mono (by omega)) (da_cons (DF.de (df_comp rfl sc_q_one_right.nd (kiseq (K := K) rfl (dv 3)) (blkOk_by (own := [("_law_m", 8)]) (N := ["_law_stream_here", "_law_strip", "_law_n", "_law_some", "_law_loose_here", "_law_is_low", "_law_is_high", "_law_less", "_law_m", "_law_much"]) (sc := defScope s_q_one_right) (by decide +kernel)) (fun _ _ _ _ _ => (dg_name 8 sc_q_one_right.nd)) (fun _ _ _ _ _ => (dts_one (ktne (K := K) rfl hr.units (dv 8) (dv 2)))) (fun _ _ _ _ _ => (dv 8)))) (da_cons (dv 5) (da_cons (dv 6) da_nil)))) (dv 1)))
      (dss_cons (ds_if (dt_not (dt_val (de_call c_q_same (hr.mono (by omega)) (da_cons (de_lst (da_cons (de_call c_strip_without (hr.mono (by omega)) (da_cons (dv 1) (da_cons (dv 2) da_nil))) (da_cons (de_callKw k_strip_without_1_0 c_strip_without (hr.mono (by omega)) (dk_cons (dv 2) (dk_cons (dv 4) dk_nil))) da_nil))) (da_cons (de_lst (da_cons (dv 7) (da_cons (dv 7) da_nil))) da_nil))))) (dss_one (ds_ret de_bl)) dss_nil)
      (dss_cons (ds_if (dt_cmp op_lt simLt (dv 2) de_int (nomark _)) (dss_one (ds_par 5 6 rfl sc_q_one_right.nd (da_cons (dv 6) (da_cons (dv 5) da_nil)))) dss_nil)
      (dss_cons (ds_set 9 sc_q_one_right.nd (de_call c_q_strip_around (hr.mono (by omega)) (da_cons (DF.de (df_comp rfl sc_q_one_right.nd (kiseq (K := K) rfl (dv 3)) (blkOk_by (own := [("_law_m", 8)]) (N := ["_law_stream_here", "_law_strip", "_law_n", "_law_some", "_law_loose_here", "_law_is_low", "_law_is_high", "_law_less", "_law_m", "_law_much"]) (sc := defScope s_q_one_right) (by decide +kernel)) (fun _ _ _ _ _ => (dg_name 8 sc_q_one_right.nd)) (fun _ _ _ _ _ => dts_nil) (fun _ _ _ _ _ => (de_mul (dv 2) (dv 8))))) (da_cons (de_or (dv 5) (de_one (keq (K := K) rfl hr.units (dv 2) de_int))) (da_cons (de_or (dv 6) (de_one (keq (K := K) rfl hr.units (dv 2) de_int))) da_nil)))))
      (dss_one (ds_ret (de_call c_q_same (hr.mono (by omega)) (da_cons (de_lst (da_cons (de_call c_strip_times (hr.mono (by omega)) (da_cons (dv 2) (da_cons (dv 1) da_nil))) (da_cons (de_callKw k_strip_times_1_0 c_strip_times (hr.mono (by omega)) (dk_cons (dv 4) (dk_cons (dv 2) dk_nil))) da_nil))) (da_cons (de_lst (da_cons (dv 9) (da_cons (dv 9) da_nil))) da_nil)))))))))))⟩) (fun ds n Q h => ?_)
  obtain ⟨hl, h⟩ := h
  obtain ⟨s, i, rfl, vs, bs, bi, hn, h⟩ := h
  have oks := okD vs (Bnd_wk (C := BS) (by decide) bs)
  have lS := nearS_len (s := s) (far := 3) (by decide)
  have bS := nearS_bd (far := 3) (by decide) bs
  have bi2 : -BS ≤ i ∧ i ≤ BS := by unfold BQ at bi; unfold BS; omega
  have n3 : NearO s (nearS s 3) := by
    cases s with
    | none => rfl
    | some q => exact (near3 vs).toNearP
  have due := mult_due (n := i) vs n3
  have dueW : has s i = true → Around ((nearS s 3).filter (· ≠ i)) (loO s) (hiO s) (without i s) := fun hi => by
    cases s with
    | none => cases hi
    | some q => exact without_due vs (near3 vs) hi
  have nW : has s i = false → without i s = s := fun hi => by
    cases s with
    | none => rfl
    | some q => simp only [without, hi, Bool.false_eq_true, if_false]
  obtain ⟨S, hS⟩ : ∃ S, S = nearS s 3 := ⟨_, rfl⟩
  rw [← hS] at bS lS due dueW
  have smS : ∀ Q' : Dt → Nat → Prop, Q' (.lst (S.map Dt.int)) n → someS [sD s, Dt.int 3] n Q' := fun Q' q => ⟨rfl, _, s, 3, rfl, oks, by decide, by decide, by rw [← hS]; exact q⟩
  have gin : g_lawIn [sD s, .int i] = some (.bl (has s i)) := by
    simp only [g_lawIn, oks]
    rw [if_pos (by unfold BQ at bi; unfold BS; omega)]
  refine cut fun kk hkk => ?_
  have C : ∀ (d : Dt) (n1 : Nat), okS d = some s → n1 ≤ n + 1 → kk { n := n1, sl := [.d .strm, .d (sD s), .d (.int i), .d (.lst (S.map Dt.int)), .d d, .un, .un, .un, .un, .un] } := by
    intro d n1 hd hn1
    subst hkk
    refine cut fun kk hkk => ?_
    have C : kk { n := n1, sl := [.d .strm, .d (sD s), .d (.int i), .d (.lst (S.map Dt.int)), .d d, .d (.bl (loO s)), .d (.bl (hiO s)), .un, .un, .un] } := by
      subst hkk
      refine cut fun kk hkk => ?_
      have C : ∀ z, kk { n := n1, sl := [.d .strm, .d (sD s), .d (.int i), .d (.lst (S.map Dt.int)), .d d, .d (.bl (loO s)), .d (.bl (hiO s)), .d (sD (without i s)), z, .un] } := by
        intro z
        subst hkk
        have w1 : ∀ d, okS d = some s → g_without [d, .int i] = some (sD (without i s)) := fun d hd => by simp only [g_without, hd, Option.map_some]
        have w2 : ∀ d, okS d = some s → g_mult [.int i, d] = some (sD (multd i s)) := fun d hd => by
          simp only [g_mult, hd]
          rw [if_pos bi2]
        have ep : ∀ x y : Dt, permL [1, 0] [x, y] = [y, x] := fun _ _ => rfl
        have fs : ∀ t, fineD 2 (.lst [sD t, sD t]) = true := fun t => by
          have e := fine_sD t 0
          show (decide (2 ≤ 1000000) && (fineD 1 (sD t) && (fineD 1 (sD t) && true))) = true
          rw [e]; rfl
        refine cut fun kk hkk => ?_
        have C : kk { n := n1, sl := [.d .strm, .d (sD s), .d (.int i), .d (.lst (S.map Dt.int)), .d d, .d (.bl (loO s)), .d (.bl (hiO s)), .d (sD (without i s)), z, .un] } := by
          subst hkk
          refine cut fun kk hkk => ?_
          have C : kk { n := n1, sl := [.d .strm, .d (sD s), .d (.int i), .d (.lst (S.map Dt.int)), .d d, .d (.bl (if i < 0 then hiO s else loO s)), .d (.bl (if i < 0 then loO s else hiO s)), .d (sD (without i s)), z, .un] } := by
            subst hkk
            refine cut fun kk hkk => ?_
            have C : ∀ z, kk { n := n1, sl := [.d .strm, .d (sD s), .d (.int i), .d (.lst (S.map Dt.int)), .d d, .d (.bl (if i < 0 then hiO s else loO s)), .d (.bl (if i < 0 then loO s else hiO s)), .d (sD (without i s)), z, .d (sD (multd i s))] } := by
              intro z
              subst hkk
              walk_at "rd"
              simp only [w2 _ oks, ep, w2 _ hd]
              exact ⟨rfl, rfl, ⟨_, rfl, fs _⟩, h _ hn1⟩
            clear hkk
            generalize (if i < 0 then hiO s else loO s) = L at *
            generalize (if i < 0 then loO s else hiO s) = H at *
            walk_at "rd"
            refine compN { n := n1, sl := [.d .strm, .d (sD s), .d (.int i), .d (.lst (S.map Dt.int)), .d d, .d (.bl L), .d (.bl H), .d (sD (without i s)), .un, .un] } (fun _ => true) (fun t => .int (i * t)) ?_ rfl (by omega) ?_
            · intro t ht A B ha _
              have cm : CMulW i t := by have := bS t ht; unfold BQ at *; exact mulOk (by omega) (by omega)
              walk_at "rd"
              exact ⟨cm, ha rfl _ rfl⟩
            · have e1 : (S.filter fun _ => true) = S := by simp
              have e2 : S.map (fun t => Dt.int (i * t)) = (S.map (i * ·)).map Dt.int := by simp [Function.comp_def]
              simp only [e1, e2]
              walk_at "rd"
              have al : (S.map (i * ·)).length ≤ 1000 := by simp; omega
              have ab : ∀ x ∈ S.map (i * ·), -AB ≤ x ∧ x ≤ AB := fun x hx => by
                obtain ⟨t, ht, rfl⟩ := List.mem_map.mp hx
                have bt := bS t ht
                have h1 : i.natAbs * t.natAbs ≤ BQ.natAbs * (BQ * 4).natAbs := Nat.mul_le_mul (by unfold BQ at *; omega) (by unfold BQ at *; omega)
                have h2 : BQ.natAbs * (BQ * 4).natAbs ≤ AB.natAbs := by decide
                rw [← Int.natAbs_mul] at h1
                have h3 : (i * t).natAbs ≤ AB.natAbs := Nat.le_trans h1 h2
                generalize i * t = u at *
                unfold AB at *
                omega
              cases L <;> cases H <;> simp only [Bool.true_or, Bool.false_or, if_true, if_false, Bool.false_eq_true] at due ⊢
              all_goals exact ⟨rfl, _, _, _, _, rfl, al, ab, due, C _⟩
          clear hkk
          walk_at "rd"
          by_cases hi : i < 0
          · simp only [hi, if_true] at C ⊢; walk_at "rd"; exact C
          · simp only [hi, if_false] at C ⊢; exact C
        clear hkk
        walk_at "rd"
        simp only [w1 _ oks, ep, w1 _ hd]
        refine ⟨rfl, rfl, ⟨_, rfl, fs _⟩, ?_⟩
        walk_at "rd"
        exact C
      clear hkk
      walk_at "rd"
      simp only [gin]
      cases hi : has s i with
      | false =>
        walk_at "rd"
        rw [nW hi] at C
        exact C _
      | true =>
        walk_at "rd"
        refine compN { n := n1, sl := [.d .strm, .d (sD s), .d (.int i), .d (.lst (S.map Dt.int)), .d d, .d (.bl (loO s)), .d (.bl (hiO s)), .un, .un, .un] } (fun t => decide (t ≠ i)) Dt.int ?_ rfl (by omega) ?_
        · intro t ht A B ha hb'
          walk_at "rd"
          by_cases e : t = i
          · simp only [e, not_true_eq_false, if_false]
            exact hb' (by simp [e]) _ rfl
          · simp only [e, not_false_eq_true, if_true]
            exact ha (by simp [e]) _ rfl
        · walk_at "rd"
          refine ⟨rfl, _, _, _, _, rfl, Nat.le_trans (List.length_filter_le _ S) (by omega), fun x hx => ?_, dueW hi, C _⟩
          have := bS x (List.mem_filter.mp hx).1
          unfold BQ AB at *; omega
    clear hkk
    cases s with
    | none => simp only [sD] at C ⊢; walk_at "rd"; exact C
    | some q =>
      simp only [sD, q4] at C ⊢
      walk_at "rd"
      simp only [isSome_none]
      exact C
  clear hkk
  walk_at "rd"
  refine smS _ ?_
  walk_at "rd"
  refine loose_sD vs (Bnd_wk (by decide) bs) (by unfold CAP at *; omega) fun d1 n1 h1 hn1 => ?_
  walk_at "rd"
  exact C d1 n1 h1 hn1
end
end K11

set_option Elab.async false
set_option linter.all false
set_option maxRecDepth 100000
set_option maxHeartbeats 2000000
set_option autoImplicit false
namespace K11
open K10 PySem PySem.Spec L2 DL
example : (1 = 1) ∧ True := by simp only [compD, oi_non, Option.isNone_none, Option.isNone_some, ltS0, ltS1, mTru, mOrT, mAndT, truD_bl, truD_non, truD_int, truD_tup, truD_lst, List.isEmpty_cons, List.isEmpty_nil, mPar, c2, cMax2, cMin2, cGcd, insOf_map, wipeE, List.foldr_cons, List.foldr_nil, gS, mSeq, mIfS, mRet, mRetN, mAsg, gmName, mVar_app, mC, mOp, mUn, uIsi, mB, mTNot, mTAnd, mTOr, mAnd, mOr, uNot, mIf, mNil, mCons, mTup, mLst, mCB, mCall, mCallKw, mNext, mNever, mDrop, mFor, miSeq, miZip, miRng1, miRng2, mComp, mData, mApp, mExt, mOwn, mFLst, mFCat, mFCopy, mOwnIx, mOwnLen, mOwnIn, mTYes, drawS, cAll, cAny, cList, deq_bl, owns, ownOf, loopD, gmNil, gmCons, gmTup, gmSeq, seqOf_lst, seqOf_tup, seqOf_non, seqOf_int, seqOf_bl, seqOf_str, seqOf_strm, cLen, cTuple, cInt, cAbs, oAdd_ii, oAdd_ll, oSub, oMul_ii, oMul_li, oFdiv, oMod, oPow, oI, oI0, uI, uNeg, oLt, oLe, oGt, oGe, oIsN, oNotN, isNon_lst, isNon_tup, isNon_non, isNon_int, isNon_bl, isNon_str, isNon_strm, oEq, oNe, oIx, atI_0, atI_1, atI_2, atI_3, atI_4, DL.atI_last, En.put, start0, tyD_lst, tyD_tup, tyD_non, tyD_int, tyD_bl, tyD_str, tyD_strm, isiT, deq_int, List.any_cons, List.any_nil, List.map_cons, List.map_nil, List.length_cons, List.length_nil, List.cons_append, List.nil_append, List.getElem?_cons_zero, List.getElem?_cons_succ, List.set_cons_zero, List.set_cons_succ, Bool.or_false, Bool.false_or, Bool.not_true, Bool.not_false, if_true, if_false, Bool.false_eq_true, List.reduceReplicate, Nat.reduceSub, Nat.reduceAdd, decide_eq_true_eq, Bool.not_eq_true', decide_eq_false_iff_not, fineD, true_and, and_true, and_self, sizeLine_eq, Nat.reduceLeDiff, not_true_eq_false, not_false_eq_true, beq_self_eq_true, Bool.not_eq_false, Bool.not_eq_true, reduceIte, Bool.true_eq_false, Nat.reduceEqDiff, ne_eq]
local macro_rules | `(tactic| walk_at "rd") => `(tactic| try simp only [compD, oi_non, Option.isNone_none, Option.isNone_some, ltS0, ltS1, mTru, mOrT, mAndT, truD_bl, truD_non, truD_int, truD_tup, truD_lst, List.isEmpty_cons, List.isEmpty_nil, mPar, c2, cMax2, cMin2, cGcd, insOf_map, wipeE, List.foldr_cons, List.foldr_nil, gS, mSeq, mIfS, mRet, mRetN, mAsg, gmName, mVar_app, mC, mOp, mUn, uIsi, mB, mTNot, mTAnd, mTOr, mAnd, mOr, uNot, mIf, mNil, mCons, mTup, mLst, mCB, mCall, mCallKw, mNext, mNever, mDrop, mFor, miSeq, miZip, miRng1, miRng2, mComp, mData, mApp, mExt, mOwn, mFLst, mFCat, mFCopy, mOwnIx, mOwnLen, mOwnIn, mTYes, drawS, cAll, cAny, cList, deq_bl, owns, ownOf, loopD, gmNil, gmCons, gmTup, gmSeq, seqOf_lst, seqOf_tup, seqOf_non, seqOf_int, seqOf_bl, seqOf_str, seqOf_strm, cLen, cTuple, cInt, cAbs, oAdd_ii, oAdd_ll, oSub, oMul_ii, oMul_li, oFdiv, oMod, oPow, oI, oI0, uI, uNeg, oLt, oLe, oGt, oGe, oIsN, oNotN, isNon_lst, isNon_tup, isNon_non, isNon_int, isNon_bl, isNon_str, isNon_strm, oEq, oNe, oIx, atI_0, atI_1, atI_2, atI_3, atI_4, DL.atI_last, En.put, start0, tyD_lst, tyD_tup, tyD_non, tyD_int, tyD_bl, tyD_str, tyD_strm, isiT, deq_int, List.any_cons, List.any_nil, List.map_cons, List.map_nil, List.length_cons, List.length_nil, List.cons_append, List.nil_append, List.getElem?_cons_zero, List.getElem?_cons_succ, List.set_cons_zero, List.set_cons_succ, Bool.or_false, Bool.false_or, Bool.not_true, Bool.not_false, if_true, if_false, Bool.false_eq_true, List.reduceReplicate, Nat.reduceSub, Nat.reduceAdd, decide_eq_true_eq, Bool.not_eq_true', decide_eq_false_iff_not, fineD, true_and, and_true, and_self, sizeLine_eq, Nat.reduceLeDiff, not_true_eq_false, not_false_eq_true, beq_self_eq_true, Bool.not_eq_false, Bool.not_eq_true, reduceIte, Bool.true_eq_false, Nat.reduceEqDiff, ne_eq])
section
variable {k : Nat} {P : Program} {w : World} {K : PySem.W.Frag} {mg : Str → Option Value} {base : Heap} {f : Addr} {fd : FuncData}
def crossS : Spc := fun ds n Q => ds.length = 1 ∧ ds = [.strm] ∧ n + 30 < CAP ∧ ∀ s o n', Valid s → Bnd BQ s → Valid o → Bnd BQ o → n' ≤ n + 14 → Q (.tup [sD s, sD o, sD (common s o)]) n'
theorem crossS_mono : MonoS crossS := fun ds n k k' h ⟨a, b, c, q⟩ => ⟨a, b, c, fun s o n' x y z w u => h _ _ (q s o n' x y z w u)⟩
abbrev FF : Int := 1000000000000000000000000000000000000000000000000000000000000
abbrev s_q_crossing : Stmt := top 48
theorem sc_q_crossing : FnScope ["_law_stream_here", "_law_n", "_law_share", "_law_one", "_law_other", "_law_step", "_law_far", "_law_first", "_law_last"] ["_law_stream_here"] (defScope s_q_crossing) := ⟨rfl, rfl, rfl, by decide +kernel, rfl, by decide +kernel, by decide +kernel⟩
theorem c_q_crossing (T : Txt mg) {f_q_any_integer : Addr} {d_q_any_integer : FuncData} (c_q_any_integer : Cal P w K mg base 2 "_law_any_integer" ["_law_stream_here"] anyS f_q_any_integer d_q_any_integer) {f_q_draw : Addr} {d_q_draw : FuncData} (c_q_draw : Cal P w K mg base 1 "_law_draw" ["_law_stream_here", "_law_many"] drawS f_q_draw d_q_draw) {f_q_strip_brought : Addr} {d_q_strip_brought : FuncData} (c_q_strip_brought : Cal P w K mg base 1 "_law_strip_brought" ["_law_low", "_law_high", "_law_step", "_law_rest"] (gS 4 g_lawBrought) f_q_strip_brought d_q_strip_brought) {f_q_strip_gcd : Addr} {d_q_strip_gcd : FuncData} (c_q_strip_gcd : Cal P w K mg base 1 "_law_strip_gcd" ["_law_one", "_law_other"] (gS 2 g_lgcd) f_q_strip_gcd d_q_strip_gcd) (F : Fun K "_law_crossing" "_law_crossing" s_q_crossing f fd) (hm : mg "_law_crossing" = some (.ref f)) (hb : Binds K fd ["_law_stream_here"] []) : Cal P w K mg base 3 "_law_crossing" ["_law_stream_here"] crossS f fd := by
  refine fnD F hm hb sc_q_crossing crossS_mono (fun ds n Q h => h.1) (fun cdv A outer s H E hr => ⟨_, (dss_cons (ds_par 1 2 rfl sc_q_crossing.nd (da_cons (de_call c_q_any_integer (hr.mono (by omega)) (da_cons (dv 0) da_nil)) (da_cons (de_add de_int (de_callB call_abs simAbs T.abs (da_cons (de_call c_q_any_integer (hr.mono (by omega)) (da_cons (dv 0) da_nil)) da_nil))) da_nil)))
      (dss_cons (ds_par 3 4 rfl sc_q_crossing.nd (da_cons (de_mul (dv 2) (de_add de_int (de_call c_q_draw (hr.mono (by omega)) (da_cons (dv 0) (da_cons (de_pow de_int de_int) da_nil))))) (da_cons (de_mul (dv 2) (de_add de_int (de_call c_q_draw (hr.mono (by omega)) (da_cons (dv 0) (da_cons (de_pow de_int de_int) da_nil))))) da_nil)))
      (dss_cons (ds_par 5 6 rfl sc_q_crossing.nd (da_cons (de_mul (de_fdiv (dv 3) (de_call c_q_strip_gcd (hr.mono (by omega)) (da_cons (dv 3) (da_cons (dv 4) da_nil)))) (dv 4)) (da_cons (de_pow de_int de_int) da_nil)))
      (dss_cons (ds_par 7 8 rfl sc_q_crossing.nd (da_cons (de_call c_q_strip_brought (hr.mono (by omega)) (da_cons de_non (da_cons (dv 6) (da_cons (dv 3) (da_cons (dv 1) da_nil))))) (da_cons (de_call c_q_strip_brought (hr.mono (by omega)) (da_cons (de_sub de_int (dv 6)) (da_cons de_non (da_cons (dv 4) (da_cons (dv 1) da_nil))))) da_nil)))
      (dss_one (ds_ret (de_tup (da_cons (dv 7) (da_cons (dv 8) (da_cons (de_call c_q_strip_brought (hr.mono (by omega)) (da_cons (de_sub de_int (dv 6)) (da_cons (dv 6) (da_cons (dv 5) (da_cons (dv 1) da_nil))))) da_nil))))))))))⟩) (fun ds n Q h => ?_)
  obtain ⟨hl, h⟩ := h
  obtain ⟨rfl, hn, h⟩ := h
  refine cut fun kk hkk => ?_
  have C : ∀ (i s : Int) (n1 : Nat), (-AI ≤ i ∧ i ≤ AI) → 0 < s → s ≤ AI + 1 → n1 ≤ n + 12 → kk { n := n1, sl := [.d .strm, .d (.int i), .d (.int s), .un, .un, .un, .un, .un, .un] } := by
    intro i s n1 hi s0 s1 hn1
    subst hkk
    have p9 : (10 : Int) ^ Int.toNat 9 = 1000000000 := by decide
    have p60 : (10 : Int) ^ Int.toNat 60 = FF := by decide
    have c9 : CPow 10 9 := ⟨by decide, by decide, by decide⟩
    have c60 : CPow 10 60 := ⟨by decide, by decide, by decide⟩
    refine cut fun kk hkk => ?_
    have C : ∀ (a b : Int) (n2 : Nat), 0 < a → a ≤ 1000000000000000000000000000000000000000000000000000 → 0 < b → b ≤ 1000000000000000000000000000000000000000000000000000 → n2 ≤ n + 14 → kk { n := n2, sl := [.d .strm, .d (.int i), .d (.int s), .d (.int a), .d (.int b), .un, .un, .un, .un] } := by
      intro a b n2 a0 a1 b0 b1 hn2
      subst hkk
      have gp := gc_pos (b := b) a0
      have cg : CDivW a (gc a b) := divW gp (by have := gc_le (b := b) a0; unfold BS; omega)
      have gl : g_lgcd [.int a, .int b] = some (.int (gc a b)) := by
        simp only [g_lgcd]
        rw [if_pos (by unfold GB; omega)]
      obtain ⟨_, p1, _, _, _, l1, _⟩ := coprime a0 b0
      have cl : CMulW (a / gc a b) b := mulOk (by omega) (by omega)
      have lb : lc a b ≤ BS := by
        have h1 : a / gc a b * b ≤ 1000000000000000000000000000000000000000000000000000 * 1000000000000000000000000000000000000000000000000000 := Int.mul_le_mul (by omega) b1 (by omega) (by decide)
        have h2 : 1000000000000000000000000000000000000000000000000000 * 1000000000000000000000000000000000000000000000000000 ≤ BS := by decide
        exact Int.le_trans h1 h2
      have lp := Int.le_of_lt (lc_pos a0 b0)
      have z : (0 : Int) - FF = -FF := by decide
      have iB : -BS ≤ i ∧ i ≤ BS := by unfold AI at hi; unfold BS; omega
      have iF : -FF ≤ i ∧ i ≤ FF := by unfold AI at hi; unfold FF; omega
      have bF : bnd FF (some FF) := by decide
      have bF' : bnd FF (some (-FF)) := by decide
      have e1 := lawBr (l := none) (g := some FF) (m := a) (r := i) (by omega) (by unfold BS; omega) iB trivial (by decide)
      have e2 := lawBr (l := some (-FF)) (g := none) (m := b) (r := i) (by omega) (by unfold BS; omega) iB (by decide) trivial
      have e3 := lawBr (l := some (-FF)) (g := some FF) (m := a / gc a b * b) (r := i) lp lb iB (by decide) (by decide)
      have v1 := brought_valid none (some FF) (m := a) i (by omega)
      have v2 := brought_valid (some (-FF)) none (m := b) i (by omega)
      have d1 := Bnd_wk (C := BQ) (by decide) (brought_bnd (B := FF) (l := none) (h := some FF) (m := a) (r := i) (by omega) (by decide) trivial bF (by unfold FF; omega) iF)
      have d2 := Bnd_wk (C := BQ) (by decide) (brought_bnd (B := FF) (l := some (-FF)) (h := none) (m := b) (r := i) (by omega) (by decide) bF' trivial (by unfold FF; omega) iF)
      have cr := crossing (a := a) (b := b) (n := i) (F := FF) a0 b0
      have fin := h _ _ n2 v1 d1 v2 d2 hn2
      rw [cr] at fin
      simp only [oi] at e1 e2 e3
      walk_at "rd"
      simp only [gl, c60, cg, cl, p60, z, true_and, e1, e2]
      walk_at "rd"
      simp only [z, e3]
      exact fin
    clear hkk
    walk_at "rd"
    simp only [p9, c9, true_and]
    have mb : ∀ r : Int, 0 ≤ r → r < 1000000000 → 0 < s * (1 + r) ∧ s * (1 + r) ≤ 1000000000000000000000000000000000000000000000000000 ∧ CMulW s (1 + r) := fun r r0 r1 => by
      have h1 : 0 < s * (1 + r) := Int.mul_pos s0 (by omega)
      have h2 : s * (1 + r) ≤ (AI + 1) * 1000000000 := Int.mul_le_mul s1 (by omega) (by omega) (by decide)
      unfold AI at *
      exact ⟨h1, by omega, mulOk (by omega) (by omega)⟩
    refine ⟨by unfold CAP at *; omega, fun r r0 r1 => ?_⟩
    obtain ⟨x1, x2, x3⟩ := mb r r0 r1
    refine ⟨x3, by unfold CAP at *; omega, fun r' r0' r1' => ?_⟩
    obtain ⟨y1, y2, y3⟩ := mb r' r0' r1'
    exact ⟨y3, C _ _ _ x1 x2 y1 y2 (by omega)⟩
  clear hkk
  walk_at "rd"
  refine ⟨rfl, rfl, by unfold CAP at *; omega, fun i n1 i0 i1 hn1 => ?_⟩
  refine ⟨rfl, rfl, by unfold CAP at *; omega, fun j n2 j0 j1 hn2 => ?_⟩
  walk_at "rd"
  exact C _ _ _ ⟨i0, i1⟩ (by split <;> omega) (by split <;> omega) (by omega)
end
end K11

set_option Elab.async false
set_option linter.all false
set_option maxRecDepth 100000
set_option maxHeartbeats 2000000
set_option autoImplicit false
namespace K11
open K10 PySem PySem.Spec L2 DL
example : (1 = 1) ∧ True := by simp only [compD, ltS0, ltS1, mTru, mOrT, mAndT, truD_bl, truD_non, truD_int, truD_tup, truD_lst, List.isEmpty_cons, List.isEmpty_nil, mPar, c2, cMax2, cMin2, cGcd, insOf_map, wipeE, List.foldr_cons, List.foldr_nil, gS, mSeq, mIfS, mRet, mRetN, mAsg, gmName, mVar_app, mC, mOp, mUn, uIsi, mB, mTNot, mTAnd, mTOr, mAnd, mOr, uNot, mIf, mNil, mCons, mTup, mLst, mCB, mCall, mCallKw, mNext, mNever, mDrop, mFor, miSeq, miZip, miRng1, miRng2, mComp, mData, mApp, mExt, mOwn, mFLst, mFCat, mFCopy, mOwnIx, mOwnLen, mOwnIn, mTYes, drawS, cAll, cAny, cList, deq_bl, owns, ownOf, loopD, gmNil, gmCons, gmTup, gmSeq, seqOf_lst, seqOf_tup, seqOf_non, seqOf_int, seqOf_bl, seqOf_str, seqOf_strm, cLen, cTuple, cInt, cAbs, oAdd_ii, oAdd_ll, oSub, oMul_ii, oMul_li, oFdiv, oMod, oPow, oI, oI0, uI, uNeg, oLt, oLe, oGt, oGe, oIsN, oNotN, isNon_lst, isNon_tup, isNon_non, isNon_int, isNon_bl, isNon_str, isNon_strm, oEq, oNe, oIx, atI_0, atI_1, atI_2, atI_3, atI_4, DL.atI_last, En.put, start0, tyD_lst, tyD_tup, tyD_non, tyD_int, tyD_bl, tyD_str, tyD_strm, isiT, deq_int, List.any_cons, List.any_nil, List.map_cons, List.map_nil, List.length_cons, List.length_nil, List.cons_append, List.nil_append, List.getElem?_cons_zero, List.getElem?_cons_succ, List.set_cons_zero, List.set_cons_succ, Bool.or_false, Bool.false_or, Bool.not_true, Bool.not_false, if_true, if_false, Bool.false_eq_true, List.reduceReplicate, Nat.reduceSub, Nat.reduceAdd, decide_eq_true_eq, Bool.not_eq_true', decide_eq_false_iff_not, fineD, true_and, and_true, and_self, sizeLine_eq, Nat.reduceLeDiff, not_true_eq_false, not_false_eq_true, beq_self_eq_true, Bool.not_eq_false, Bool.not_eq_true, reduceIte, Bool.true_eq_false, Nat.reduceEqDiff, ne_eq]
local macro_rules | `(tactic| walk_at "rd") => `(tactic| try simp only [compD, ltS0, ltS1, mTru, mOrT, mAndT, truD_bl, truD_non, truD_int, truD_tup, truD_lst, List.isEmpty_cons, List.isEmpty_nil, mPar, c2, cMax2, cMin2, cGcd, insOf_map, wipeE, List.foldr_cons, List.foldr_nil, gS, mSeq, mIfS, mRet, mRetN, mAsg, gmName, mVar_app, mC, mOp, mUn, uIsi, mB, mTNot, mTAnd, mTOr, mAnd, mOr, uNot, mIf, mNil, mCons, mTup, mLst, mCB, mCall, mCallKw, mNext, mNever, mDrop, mFor, miSeq, miZip, miRng1, miRng2, mComp, mData, mApp, mExt, mOwn, mFLst, mFCat, mFCopy, mOwnIx, mOwnLen, mOwnIn, mTYes, drawS, cAll, cAny, cList, deq_bl, owns, ownOf, loopD, gmNil, gmCons, gmTup, gmSeq, seqOf_lst, seqOf_tup, seqOf_non, seqOf_int, seqOf_bl, seqOf_str, seqOf_strm, cLen, cTuple, cInt, cAbs, oAdd_ii, oAdd_ll, oSub, oMul_ii, oMul_li, oFdiv, oMod, oPow, oI, oI0, uI, uNeg, oLt, oLe, oGt, oGe, oIsN, oNotN, isNon_lst, isNon_tup, isNon_non, isNon_int, isNon_bl, isNon_str, isNon_strm, oEq, oNe, oIx, atI_0, atI_1, atI_2, atI_3, atI_4, DL.atI_last, En.put, start0, tyD_lst, tyD_tup, tyD_non, tyD_int, tyD_bl, tyD_str, tyD_strm, isiT, deq_int, List.any_cons, List.any_nil, List.map_cons, List.map_nil, List.length_cons, List.length_nil, List.cons_append, List.nil_append, List.getElem?_cons_zero, List.getElem?_cons_succ, List.set_cons_zero, List.set_cons_succ, Bool.or_false, Bool.false_or, Bool.not_true, Bool.not_false, if_true, if_false, Bool.false_eq_true, List.reduceReplicate, Nat.reduceSub, Nat.reduceAdd, decide_eq_true_eq, Bool.not_eq_true', decide_eq_false_iff_not, fineD, true_and, and_true, and_self, sizeLine_eq, Nat.reduceLeDiff, not_true_eq_false, not_false_eq_true, beq_self_eq_true, Bool.not_eq_false, Bool.not_eq_true, reduceIte, Bool.true_eq_false, Nat.reduceEqDiff, ne_eq])
section
variable {k : Nat} {P : Program} {w : World} {K : PySem.W.Frag} {mg : Str → Option Value} {base : Heap} {f : Addr} {fd : FuncData}
abbrev s_q_stream : Stmt := top 28
theorem sc_q_stream : FnScope ["_law_script"] ["_law_script"] (defScope s_q_stream) := ⟨rfl, rfl, rfl, by decide +kernel, rfl, by decide +kernel, by decide +kernel⟩
theorem ok_stream (T : Txt mg) (F : Fun K "_law_stream" "_law_stream" s_q_stream f fd) : FnOk P w K mg base CX0 1 f fd ["_law_script"] (spStream K) := by
  refine F.ok sc_q_stream (fun vs H Q E h => by obtain ⟨a, ns, rfl, _⟩ := h; rfl) (fun cdv A outer s H vs Q E hr h => ?_)
  obtain ⟨a, ns, rfl, hS, hlen, k⟩ := h
  refine ⟨_, pss_one (ps_ret (pe_lst (pa_cons (pe_callTy call_list_of (by rfl) T.list (by decide +kernel) (pa_cons (pv 0) pa_nil)) (pa_cons pe_int (pa_cons pe_int (pa_cons pe_int pa_nil)))))), ?_⟩
  refine ⟨_, rfl, a, _, rfl, Or.inl hS, fun c hc => ?_⟩
  refine ⟨by show 4 ≤ sizeLine; decide, fun st hst => ?_⟩
  have hcs : c ≠ st := ne_of_none upd_same hst
  have hst0 : H st = none := by rwa [upd_ne hcs.symm] at hst
  refine k st c _ hcs.symm hst0 hc (fun b o e => ?_) upd_same ?_
  · rw [upd_ne (ne_of_none e hst0), upd_ne (ne_of_none e hc)]; exact e
  · rw [upd_ne hcs]; exact upd_same
/-- kept: two strips, and what both have -/
def Trip (d : Dt) : Prop := ∃ s o, d = .tup [sD s, sD o, sD (common s o)] ∧ Valid s ∧ Bnd BQ s ∧ Valid o ∧ Bnd BQ o
theorem atI_mem {xs : List Dt} {i : Int} (h0 : -(xs.length : Int) ≤ i) (h1 : i < xs.length) : ∃ x, atI xs i = some x ∧ x ∈ xs := by
  unfold atI ixN
  by_cases h : 0 ≤ i
  · rw [if_pos h, if_pos h1]
    have hlt : i.toNat < xs.length := by omega
    exact ⟨xs[i.toNat], List.getElem?_eq_getElem hlt, List.getElem_mem hlt⟩
  · rw [if_neg h, if_pos h0]
    have hlt : (i + xs.length).toNat < xs.length := by omega
    exact ⟨xs[(i + xs.length).toNat], List.getElem?_eq_getElem hlt, List.getElem_mem hlt⟩
theorem forInv {mi : MI} {g : MG} {b : MS} {D : DEnds} {ρ0 : En} (I : List Dt → En → Prop) (h0 : ∀ ρ, I [] ρ → D.nx ρ) (hs : ∀ x xs ρ, I (x :: xs) ρ → ∀ kk : En → Prop, (∀ ρ', I xs ρ' → kk ρ') → g x ρ (fun ρ1 => b ⟨kk, D.rt, D.nx, kk⟩ ρ1))
    (h : ∀ kk : List Dt → En → Prop, (∀ xs ρ', I xs ρ' → kk xs ρ') → mi ρ0 kk) : mFor mi g b D ρ0 := h _ fun xs ρ' q => loopInv I h0 hs xs ρ' q
theorem trip_mk {s o : Option Q4} (vs : Valid s) (bs : Bnd BQ s) (vo : Valid o) (bo : Bnd BQ o) : Trip (.tup [sD s, sD o, sD (common s o)]) := ⟨s, o, rfl, vs, bs, vo, bo⟩
abbrev s_law : Stmt := top 49
theorem sc_law : FnScope ["_law_script", "_law_stream_here", "_law_kept", "_law_turn", "_law_one", "_law_other", "_law_near", "_law_first", "_law_last", "_law_met_here", "_law_n"] ["_law_script"] (defScope s_law) := ⟨rfl, rfl, rfl, by decide +kernel, rfl, by decide +kernel, by decide +kernel⟩
/-- the law's promise -/
def spLaw (K : PySem.W.Frag) : Sp := fun vs H Q _ => ∃ (a : Addr) (ns : List Int), vs = [.ref a] ∧ SqL K H a (ns.map V.int) ∧ ns.length ≤ 63 ∧ ∀ H', Q (.bl true) H'
theorem ok_law (T : Txt mg) {f_q_stream : Addr} {d_q_stream : FuncData} (o_stream : FnOk P w K mg base CX0 1 f_q_stream d_q_stream ["_law_script"] (spStream K)) (mgS : mg "_law_stream" = some (.ref f_q_stream)) (kpS : PySem.W.keepIn K (.ref f_q_stream) = true) (bdS : Binds K d_q_stream ["_law_script"] []) {f_q_any_integer : Addr} {d_q_any_integer : FuncData} (c_q_any_integer : Cal P w K mg base 2 "_law_any_integer" ["_law_stream_here"] anyS f_q_any_integer d_q_any_integer) {f_q_crossing : Addr} {d_q_crossing : FuncData} (c_q_crossing : Cal P w K mg base 3 "_law_crossing" ["_law_stream_here"] crossS f_q_crossing d_q_crossing) {f_q_draw : Addr} {d_q_draw : FuncData} (c_q_draw : Cal P w K mg base 1 "_law_draw" ["_law_stream_here", "_law_many"] drawS f_q_draw d_q_draw) {f_q_each_once : Addr} {d_q_each_once : FuncData} (c_q_each_once : Cal P w K mg base 1 "_law_each_once" ["_law_some"] onceS f_q_each_once d_q_each_once) {f_q_met : Addr} {d_q_met : FuncData} (c_q_met : Cal P w K mg base 3 "_law_met" ["_law_one", "_law_other"] metS f_q_met d_q_met) {f_q_one_right : Addr} {d_q_one_right : FuncData} (c_q_one_right : Cal P w K mg base 6 "_law_one_right" ["_law_stream_here", "_law_strip", "_law_n"] oneS f_q_one_right d_q_one_right) {f_q_pair_right : Addr} {d_q_pair_right : FuncData} (c_q_pair_right : Cal P w K mg base 6 "_law_pair_right" ["_law_stream_here", "_law_one", "_law_other", "_law_met_here"] pairS f_q_pair_right d_q_pair_right) {f_q_pick : Addr} {d_q_pick : FuncData} (c_q_pick : Cal P w K mg base 2 "_law_pick" ["_law_stream_here", "_law_things"] pickS f_q_pick d_q_pick) {f_q_strip_beside : Addr} {d_q_strip_beside : FuncData} (c_q_strip_beside : Cal P w K mg base 3 "_law_strip_beside" ["_law_stream_here", "_law_strip"] besideS f_q_strip_beside d_q_strip_beside) {f_q_strip_brought : Addr} {d_q_strip_brought : FuncData} (c_q_strip_brought : Cal P w K mg base 1 "_law_strip_brought" ["_law_low", "_law_high", "_law_step", "_law_rest"] (gS 4 g_lawBrought) f_q_strip_brought d_q_strip_brought) {f_q_strip_drawn : Addr} {d_q_strip_drawn : FuncData} (c_q_strip_drawn : Cal P w K mg base 4 "_law_strip_drawn" ["_law_stream_here"] drawnS f_q_strip_drawn d_q_strip_drawn) {f_q_strip_some : Addr} {d_q_strip_some : FuncData} (c_q_strip_some : Cal P w K mg base 2 "_law_strip_some" ["_law_strip", "_law_far"] someS f_q_strip_some d_q_strip_some) (F : Fun K "law" "law" s_law f fd) : FnOk P w K mg base CX0 8 f fd ["_law_script"] (spLaw K) := by
  refine F.ok sc_law (fun vs H Q E h => ?_) (fun cdv A outer s H vs Q E hr h => ?_)
  · obtain ⟨a, ns, rfl, _⟩ := h
    rfl
  · obtain ⟨a, ns, rfl, hS, hlen, k⟩ := h
    obtain ⟨t, m, hd, read⟩ : ∃ t m, DSs (cxOf CX0 P w K mg base ["_law_script", "_law_stream_here", "_law_kept", "_law_turn", "_law_one", "_law_other", "_law_near", "_law_first", "_law_last", "_law_met_here", "_law_n"] "law" (defScope s_law) f cdv A outer s H E).nox ((defBody s_law).drop 1) t m ∧ m { nx := fun _ => False, rt := fun d _ => d = .bl true } { n := 0, sl := [.un, .d .strm, .un, .un, .un, .un, .un, .un, .un, .un, .un] } := by
      refine ⟨_, _, (dss_cons (ds_own 2 sc_law.nd (df_lst da_nil))
      (dss_cons (ds_for PassesOwn.never rfl (di_rng1 T.range (da_cons de_int da_nil)) (dg_name 3 sc_law.nd) (dss_cons (ds_par 4 5 rfl sc_law.nd (da_cons (de_call c_q_strip_drawn (hr.mono (by omega)) (da_cons (dv 1) da_nil)) (da_cons (de_call c_q_strip_drawn (hr.mono (by omega)) (da_cons (dv 1) da_nil)) da_nil)))
      (dss_cons (ds_if (DW.dt (dw_and (dt_cmp op_notN simNotN (dv 5) de_non (nomark _)) (dw_and1 (dt_cmp op_gt simGt (kix (K := K) rfl (dv 5) de_int) de_int (nomark _))))) (dss_one (ds_set 5 sc_law.nd (de_call c_q_strip_brought (hr.mono (by omega)) (da_cons (kix (K := K) rfl (dv 5) de_int) (da_cons (kix (K := K) rfl (dv 5) de_int) (da_cons (de_add de_int (de_call c_q_draw (hr.mono (by omega)) (da_cons (dv 1) (da_cons de_int da_nil)))) (da_cons (kix (K := K) rfl (dv 5) de_int) da_nil))))))) dss_nil)
      (dss_cons (ds_set 6 sc_law.nd (de_call c_q_strip_beside (hr.mono (by omega)) (da_cons (dv 1) (da_cons (dv 4) da_nil))))
      (dss_cons (ds_app 2 (de_tup (da_cons (dv 4) (da_cons (dv 5) (da_cons (de_call c_q_met (hr.mono (by omega)) (da_cons (dv 4) (da_cons (dv 5) da_nil))) da_nil)))) (pv 2))
      (dss_cons (ds_app 2 (de_tup (da_cons (dv 4) (da_cons (dv 6) (da_cons (de_call c_q_met (hr.mono (by omega)) (da_cons (dv 4) (da_cons (dv 6) da_nil))) da_nil)))) (pv 2))
      (dss_cons (ds_for PassesOwn.never rfl (kiseq (K := K) rfl (de_tup (da_cons (kownIx (K := K) rfl 2 (de_neg de_int) (pv 2)) (da_cons (kownIx (K := K) rfl 2 (de_neg de_int) (pv 2)) (da_cons (kownIx (K := K) rfl 2 de_int (pv 2)) (da_cons (de_tup (da_cons (dv 4) (da_cons de_non (da_cons de_non da_nil)))) da_nil)))))) (kgseq (K := K) rfl 3 rfl (dgs_cons (dg_name 7 sc_law.nd) (dgs_cons (dg_name 8 sc_law.nd) (dgs_cons (dg_name 9 sc_law.nd) dgs_nil)))) (dss_one (ds_if (dt_not (dt_val (de_call c_q_pair_right (hr.mono (by omega)) (da_cons (dv 1) (da_cons (dv 7) (da_cons (dv 8) (da_cons (dv 9) da_nil))))))) (dss_one (ds_ret de_bl)) dss_nil)))
      (dss_cons (ds_for PassesOwn.never rfl (kiseq (K := K) rfl (de_call c_q_each_once (hr.mono (by omega)) (da_cons (de_lst (da_cons (de_call c_q_pick (hr.mono (by omega)) (da_cons (dv 1) (da_cons (ke_or (K := K) rfl (de_call c_q_strip_some (hr.mono (by omega)) (da_cons (dv 4) (da_cons de_int da_nil))) (de_one (de_lst (da_cons de_int da_nil)))) da_nil))) (da_cons (de_call c_q_any_integer (hr.mono (by omega)) (da_cons (dv 1) da_nil)) (da_cons de_int (da_cons de_int (da_cons (de_neg de_int) da_nil)))))) da_nil))) (dg_name 10 sc_law.nd) (dss_one (ds_if (DW.dt (dw_or (dt_not (dt_val (de_call c_q_one_right (hr.mono (by omega)) (da_cons (dv 1) (da_cons (dv 4) (da_cons (dv 10) da_nil)))))) (dw_or1 (dt_not (dt_val (de_call c_q_one_right (hr.mono (by omega)) (da_cons (dv 1) (da_cons (dv 5) (da_cons (dv 10) da_nil))))))))) (dss_one (ds_ret de_bl)) dss_nil)))
      (dss_cons (ds_asg (de_call c_q_crossing (hr.mono (by omega)) (da_cons (dv 1) da_nil)) (kgseq (K := K) rfl 3 rfl (dgs_cons (dg_name 7 sc_law.nd) (dgs_cons (dg_name 8 sc_law.nd) (dgs_cons (dg_name 9 sc_law.nd) dgs_nil)))))
      (dss_one (ds_if (dt_not (dt_val (de_call c_q_pair_right (hr.mono (by omega)) (da_cons (dv 1) (da_cons (dv 7) (da_cons (dv 8) (da_cons (dv 9) da_nil))))))) (dss_one (ds_ret de_bl)) dss_nil)))))))))))
      (dss_one (ds_ret de_bl)))), ?_⟩
      walk_at "rd"
      refine ⟨by decide, fun ka _ => ⟨by decide, ?_⟩⟩
      refine loopInv (fun xs ρ => ∃ (KL : List Dt) (n' : Nat) (y3 y4 y5 y6 y7 y8 y9 y10 : SV), xs.length ≤ 5 ∧ n' + 200 * xs.length ≤ 1000 ∧ KL.length + 2 * xs.length ≤ 10 ∧ (∀ d ∈ KL, Trip d) ∧
        ρ = { n := n', sl := [.un, .d .strm, .own ka KL, y3, y4, y5, y6, y7, y8, y9, y10] }) ?_ ?_ _ _ ⟨[], 0, .un, .un, .un, .un, .un, .un, .un, .un, by decide, by decide, by decide, fun d hd => (by cases hd), rfl⟩
      · rintro ρ ⟨KL, n', y3, y4, y5, y6, y7, y8, y9, y10, -, -, -, -, rfl⟩
        walk_at "rd"
      · rintro x xs ρ ⟨KL, n', y3, y4, y5, y6, y7, y8, y9, y10, hl, hn, hk, hT, rfl⟩ go hgo
        simp only [List.length_cons] at hl hn hk
        simp only [gmName, En.put, List.set_cons_zero, List.set_cons_succ]
        refine cut fun kk hkk => ?_
        have C : ∀ (s o : Option Q4) (n1 : Nat), Valid s → Bnd BK s → Valid o → Bnd BK o → n1 ≤ n' + 90 → kk { n := n1, sl := [.un, .d .strm, .own ka KL, .d x, .d (sD s), .d (sD o), y6, y7, y8, y9, y10] } := by
          intro s o n1 vs bs vo bo hn1
          subst hkk
          refine cut fun kk hkk => ?_
          have C : ∀ (o : Option Q4) (n2 : Nat), Valid o → Bnd BQ o → (∀ p, o = some p → p.m ≤ 1000) → n2 ≤ n' + 91 → kk { n := n2, sl := [.un, .d .strm, .own ka KL, .d x, .d (sD s), .d (sD o), y6, y7, y8, y9, y10] } := by
            clear bo vo
            intro o n2 vo bo ho hn2
            subst hkk
            have bsq : Bnd BQ s := Bnd_wk (by decide) bs
            refine cut fun kk hkk => ?_
            have C : ∀ (t : Option Q4) (n3 : Nat), Valid t → Bnd BQ t → Mate s t → n3 ≤ n' + 93 → kk { n := n3, sl := [.un, .d .strm, .own ka KL, .d x, .d (sD s), .d (sD o), .d (sD t), y7, y8, y9, y10] } := by
              intro t n3 vt bt mt hn3
              subst hkk
              refine cut fun kk hkk => ?_
              have C : kk { n := n3, sl := [.un, .d .strm, .own ka (KL ++ [.tup [sD s, sD o, sD (common s o)]]), .d x, .d (sD s), .d (sD o), .d (sD t), y7, y8, y9, y10] } := by
                subst hkk
                refine cut fun kk hkk => ?_
                have C : ∀ KK : List Dt, KK = KL ++ [.tup [sD s, sD o, sD (common s o)]] ++ [.tup [sD s, sD t, sD (common s t)]] → kk { n := n3, sl := [.un, .d .strm, .own ka KK, .d x, .d (sD s), .d (sD o), .d (sD t), y7, y8, y9, y10] } := by
                  intro KK hKK
                  have tr : ∀ d ∈ KK, Trip d := fun d hd => by
                    rw [hKK] at hd
                    rcases List.mem_append.mp hd with hd | hd
                    · rcases List.mem_append.mp hd with hd | hd
                      · exact hT d hd
                      · simp at hd; subst hd; exact trip_mk vs bsq vo bo
                    · simp at hd; subst hd; exact trip_mk vs bsq vt bt
                  have kl : KK.length = KL.length + 2 := by rw [hKK]; simp
                  clear hKK
                  subst hkk
                  refine cut fun kk hkk => ?_
                  have C : ∀ (n4 : Nat) (y7 y8 y9 : SV), n4 ≤ n' + 101 → kk { n := n4, sl := [.un, .d .strm, .own ka KK, .d x, .d (sD s), .d (sD o), .d (sD t), y7, y8, y9, y10] } := by
                    intro n4 y7 y8 y9 hn4
                    subst hkk
                    refine cut fun kk hkk => ?_
                    have C : ∀ (n5 : Nat) (y10 : SV), n5 ≤ n' + 118 → kk { n := n5, sl := [.un, .d .strm, .own ka KK, .d x, .d (sD s), .d (sD o), .d (sD t), y7, y8, y9, y10] } := by
                      intro n5 y10 hn5
                      subst hkk
                      walk_at "rd"
                      refine ⟨rfl, rfl, by unfold CAP; omega, fun s2 o2 n6 vs2 bs2 vo2 bo2 hn6 => ?_⟩
                      walk_at "rd"
                      refine ⟨rfl, s2, o2, rfl, vs2, bs2, vo2, bo2, by unfold CAP; omega, fun n7 hn7 => ?_⟩
                      walk_at "rd"
                      exact hgo _ ⟨KK, n7, _, _, _, _, _, _, _, _, by omega, by omega, by omega, tr, rfl⟩
                    clear hkk
                    have oks := okD vs (Bnd_wk (C := BS) (by decide) bs)
                    have b3 := nearS_bd (far := 3) (by decide) bs
                    have l3 := nearS_len (s := s) (far := 3) (by decide)
                    have C2 : ∀ (i j : Int) (m : Nat), -BQ ≤ i → i ≤ BQ → -BQ ≤ j → j ≤ BQ → m ≤ n' + 108 → onceS [.lst [.int i, .int j, .int 0, .int 1, .int (-1)]] m fun d m => match seqOf d with
                        | some xs => loopD (gmName 10)
                            (mIfS (mTOr (mTNot (mB (mCall oneS (mCons (mVar 1) (mCons (mVar 4) (mCons (mVar 10) mNil)))))) (mTNot (mB (mCall oneS (mCons (mVar 1) (mCons (mVar 5) (mCons (mVar 10) mNil)))))))
                              (mRet (mC (.bl false))) mNext)
                            xs { nx := kk, rt := fun d x => d = Dt.bl true, bk := fun ρ1 => True, ct := go } { n := m, sl := [.un, .d .strm, .own ka KK, .d x, .d (sD s), .d (sD o), .d (sD t), y7, y8, y9, y10] }
                        | none => False := by
                      intro i j m i0 i1 j0 j1 hm
                      refine ⟨rfl, [i, j, 0, 1, -1], rfl, by simp, ?_⟩
                      have lo := once_len [i, j, 0, 1, -1] []
                      simp only [List.length_cons, List.length_nil] at lo
                      have mo : ∀ u ∈ once [] [i, j, 0, 1, -1], -BQ ≤ u ∧ u ≤ BQ := fun u hu => by
                        have := (once_mem _ _ u).mp hu
                        simp only [List.not_mem_nil, false_or, List.mem_cons, or_false] at this
                        unfold BQ at *
                        omega
                      generalize once [] [i, j, 0, 1, -1] = NS at lo mo ⊢
                      simp only [seqOf_lst]
                      refine loopInv (fun xs ρ => ∃ (ms : List Int) (m : Nat) (y10 : SV), xs = ms.map Dt.int ∧ ms.length ≤ 5 ∧ (∀ u ∈ ms, -BQ ≤ u ∧ u ≤ BQ) ∧ m + 2 * ms.length ≤ n' + 118 ∧ ρ = { n := m, sl := [.un, .d .strm, .own ka KK, .d x, .d (sD s), .d (sD o), .d (sD t), y7, y8, y9, y10] }) ?_ ?_ _ _ ⟨NS, m, _, rfl, by omega, mo, by omega, rfl⟩
                      · rintro ρ ⟨ms, m, y10, e, _, _, hm, rfl⟩
                        exact C m y10 (by omega)
                      · rintro X xs ρ ⟨ms, m, y10, e, hl, hu, hm, rfl⟩ g2 hg2
                        cases ms with
                        | nil => cases e
                        | cons u ms =>
                          cases e
                          simp only [List.length_cons] at hl hm
                          have bu := hu u (by simp)
                          walk_at "rd"
                          refine ⟨rfl, s, u, rfl, vs, bsq, bu, by unfold CAP; omega, fun m2 hm2 => ?_⟩
                          walk_at "rd"
                          refine ⟨rfl, o, u, rfl, vo, bo, bu, by unfold CAP; omega, fun m3 hm3 => ?_⟩
                          walk_at "rd"
                          exact hg2 _ ⟨ms, m3, _, rfl, by omega, fun v hv => hu v (by simp [hv]), by omega, rfl⟩
                    walk_at "rd"
                    refine ⟨rfl, _, s, 3, rfl, oks, by decide, by decide, ?_⟩
                    generalize nearS s 3 = S3 at b3 l3 ⊢
                    cases S3 with
                    | nil =>
                      simp only [List.map_nil, truD_lst, List.isEmpty_nil, Bool.not_true, Bool.false_eq_true, if_false]
                      refine ⟨rfl, ⟨by decide, by decide, by unfold CAP; omega⟩, fun X hX => ?_⟩
                      simp only [List.mem_cons, List.not_mem_nil, or_false] at hX
                      subst hX
                      exact ⟨rfl, rfl, by unfold CAP; omega, fun j m j0 j1 hm => C2 _ _ _ (by decide) (by decide) (by unfold AI at j0; unfold BQ; omega) (by unfold AI at j1; unfold BQ; omega) (by omega)⟩
                    | cons u S3 =>
                      simp only [List.map_cons, truD_lst, List.isEmpty_cons, Bool.not_false, if_true]
                      refine ⟨rfl, ⟨by simp, by simp at l3 ⊢; omega, by unfold CAP; omega⟩, fun X hX => ?_⟩
                      obtain ⟨v, hv, rfl⟩ := mem_map_int (ns := u :: S3) hX
                      have bv := b3 v hv
                      exact ⟨rfl, rfl, by unfold CAP; omega, fun j m j0 j1 hm => C2 _ _ _ (by unfold BK at bv; unfold BQ; omega) (by unfold BK at bv; unfold BQ; omega) (by unfold AI at j0; unfold BQ; omega) (by unfold AI at j1; unfold BQ; omega) (by omega)⟩
                  clear hkk
                  obtain ⟨d1, e1, m1⟩ := atI_mem (xs := KK) (i := -2) (by omega) (by omega)
                  obtain ⟨d2, e2, m2⟩ := atI_mem (xs := KK) (i := -1) (by omega) (by omega)
                  obtain ⟨d3, e3, m3⟩ := atI_mem (xs := KK) (i := 0) (by omega) (by omega)
                  have t4 : Trip (.tup [sD s, .non, .non]) := by
                    have := trip_mk (o := none) vs bsq trivial trivial
                    have e : common s none = none := by cases s <;> rfl
                    rw [e] at this
                    exact this
                  refine forInv (fun xs ρ => ∃ (m : Nat) (y7 y8 y9 : SV), (∀ d ∈ xs, Trip d) ∧ m + 2 * xs.length ≤ n' + 101 ∧ ρ = { n := m, sl := [.un, .d .strm, .own ka KK, .d x, .d (sD s), .d (sD o), .d (sD t), y7, y8, y9, y10] }) ?_ ?_ fun k2 hk2 => ?_
                  · rintro ρ ⟨m, y7, y8, y9, _, hm, rfl⟩
                    exact C m y7 y8 y9 (by simpa using hm)
                  · rintro X xs ρ ⟨m, y7, y8, y9, ht, hm, rfl⟩ g2 hg2
                    obtain ⟨s1, o1, rfl, x1, x2, x3, x4⟩ := ht X (by simp)
                    simp only [List.length_cons] at hm
                    walk_at "rd"
                    refine ⟨rfl, s1, o1, rfl, x1, x2, x3, x4, by unfold CAP; omega, fun m2 hm2 => ?_⟩
                    walk_at "rd"
                    exact hg2 _ ⟨m2, _, _, _, fun d hd => ht d (by simp [hd]), by omega, rfl⟩
                  · clear C
                    walk_at "rd"
                    simp only [e1, e2, e3]
                    refine ⟨⟨_, _, rfl⟩, ⟨_, _, rfl⟩, ⟨_, _, rfl⟩, hk2 _ _ ⟨n3, _, _, _, fun d hd => ?_, by simp; omega, rfl⟩⟩
                    simp only [List.mem_cons, List.not_mem_nil, or_false] at hd
                    rcases hd with rfl | rfl | rfl | rfl
                    · exact tr _ m1
                    · exact tr _ m2
                    · exact tr _ m3
                    · exact t4
                clear hkk
                walk_at "rd"
                exact ⟨⟨_, _, rfl⟩, rfl, s, t, rfl, vs, bsq, vt, bt, mt, by simp; omega, C _ rfl⟩
              clear hkk
              walk_at "rd"
              exact ⟨⟨_, _, rfl⟩, rfl, s, o, rfl, vs, bsq, vo, bo, fun q p _ e => .inl (ho p e), by omega, C⟩
            clear hkk
            walk_at "rd"
            exact ⟨rfl, s, rfl, vs, bs, by unfold CAP; omega, fun t n3 vt bt mt hn3 => C t n3 vt bt mt (by omega)⟩
          clear hkk
          cases o with
          | none =>
            have C := C none n1 trivial trivial (fun p e => (by cases e)) (by omega)
            simp only [sD] at C ⊢
            walk_at "rd"
            exact C
          | some p =>
            obtain ⟨l, g, m, r⟩ := p
            obtain ⟨c1, c2, c3, c4⟩ := bo
            simp only at c1 c2 c3 c4
            have m0 := vo.1
            simp only at m0
            have C0 : m ≤ 1000 → kk { n := n1, sl := [.un, .d .strm, .own ka KL, .d x, .d (sD s), .d (sD (some ⟨l, g, m, r⟩)), y6, y7, y8, y9, y10] } := fun hm => C _ _ vo (Bnd_wk (by decide) (⟨c1, c2, c3, c4⟩ : Bnd BK (some ⟨l, g, m, r⟩))) (fun p e => by cases e; exact hm) (by omega)
            generalize hS : sD s = DS at C C0 ⊢
            simp only [sD, q4] at C0 ⊢
            walk_at "rd"
            split
            · refine ⟨by unfold CAP; omega, fun w w0 w1 => ?_⟩
              rw [lawBr (by omega) (by unfold BS; omega) (by unfold BK at c4; unfold BS; omega) (bnd_wk (by decide) c1) (bnd_wk (by decide) c2)]
              have bb := brought_bnd (B := BK) (l := l) (h := g) (m := 1 + w) (r := r) (by omega) (by decide) c1 c2 (by unfold BK; omega) c4
              refine C _ _ (brought_valid l g r (by omega)) (Bnd_wk (by decide) bb) (fun p e => ?_) (by omega)
              rcases brought_m e with e | e <;> omega
            · exact C0 (by omega)
        clear hkk
        walk_at "rd"
        refine ⟨rfl, rfl, by unfold CAP; omega, fun s n1 vs bs hn1 => ?_⟩
        refine ⟨rfl, rfl, by unfold CAP; omega, fun o n2 vo bo hn2 => ?_⟩
        exact C s o n2 vs bs vo bo (by omega)
    refine ⟨_, pss_cons (ps_set (i := 1) sc_law.nd rfl (Or.inl rfl) (pe_call o_stream (hr.mono (by omega)) (by exact rfl) mgS kpS bdS .nil pass0 (pa_cons (pv 0) pa_nil) (by decide) (by exact rfl) (by exact rfl))) hd.ps, ?_⟩
    refine ⟨_, rfl, a, ns, rfl, hS, hlen, fun st c H' hne _ _ sm h1 h2 => ?_⟩
    refine hd.sim.run ⟨some (st, c), [], H'⟩ _ _ H' _ (law_rel (H := H) (by rfl) hne h1 h2 hlen ?_) (hd.sim.mono _ _ _ ⟨fun ρ (q : False) => q.elim, fun d n' (q : d = .bl true) v H2 rt => ?_, fun _ (q : False) => q.elim, fun _ (q : False) => q.elim⟩ read)
    · intro i sv e
      rcases i with _ | _ | i
      · cases e; exact .inl rfl
      · cases e; exact .inr ⟨rfl, rfl⟩
      · have e : (List.replicate 9 SV.un)[i]? = some sv := e
        rw [List.getElem?_replicate] at e
        split at e
        · cases e; exact .inl rfl
        · cases e
    · subst q
      have e : v = V.bl true := by
        have := rt.2.2.2
        simpa only [Rp] using this
      subst e
      exact k H2
end
end K11

set_option Elab.async false
set_option linter.all false
set_option maxRecDepth 100000
set_option maxHeartbeats 4000000
set_option autoImplicit false
namespace K11
open K10 PySem PySem.Spec L2 DL
theorem all_mk {l : PySem.W.OpenLaw} {w : World} {K : PySem.W.Frag} {h : Heap} {mg : Str → Option Value} {fa : Addr} (X : K.In h) (G : h.Ns mainGlobals mg) (hfa : mg "law" = some (.ref fa))
    {f1 f2 f3 f4 f5 f6 f7 f8 f9 f10 f11 f12 f13 f14 f15 f16 f17 f18 f19 f20 f21 f22 f23 f24 f25 f26 f27 f28 f29 f30 f31 f32 f33 f34 f35 f36 f37 f38 f39 f40 f41 f42 : Addr} {od1 an1 od2 an2 od3 an3 od4 an4 od5 an5 od6 an6 od7 an7 od8 an8 od9 an9 od10 an10 od11 an11 od12 an12 od13 an13 od14 an14 od15 an15 od16 an16 od17 an17 od18 an18 od19 an19 od20 an20 od21 an21 od22 an22 od23 an23 od24 an24 od25 an25 od26 an26 od27 an27 od28 an28 od29 an29 od30 an30 od31 an31 od32 an32 od33 an33 od34 an34 od35 an35 od36 an36 od37 an37 od38 an38 od39 an39 od40 an40 od41 an41 od42 an42 : Option Addr} {sl1 sl2 sl3 sl4 sl5 sl6 sl7 sl8 sl9 sl10 sl11 sl12 sl13 sl14 sl15 sl16 sl17 sl18 sl19 sl20 sl21 sl22 sl23 sl24 sl25 sl26 sl27 sl28 sl29 sl30 sl31 sl32 sl33 sl34 sl35 sl36 sl37 sl38 sl39 sl40 sl41 sl42 : Array (Option Value)} {oc1 kV1 dc1 pm1 cd1 ct1 oc2 kV2 dc2 pm2 cd2 ct2 oc3 kV3 dc3 pm3 cd3 ct3 oc4 kV4 dc4 pm4 cd4 ct4 oc5 kV5 dc5 pm5 cd5 ct5 oc6 kV6 dc6 pm6 cd6 ct6 oc7 kV7 dc7 pm7 cd7 ct7 oc8 kV8 dc8 pm8 cd8 ct8 oc9 kV9 dc9 pm9 cd9 ct9 oc10 kV10 dc10 pm10 cd10 ct10 oc11 kV11 dc11 pm11 cd11 ct11 oc12 kV12 dc12 pm12 cd12 ct12 oc13 kV13 dc13 pm13 cd13 ct13 oc14 kV14 dc14 pm14 cd14 ct14 oc15 kV15 dc15 pm15 cd15 ct15 oc16 kV16 dc16 pm16 cd16 ct16 oc17 kV17 dc17 pm17 cd17 ct17 oc18 kV18 dc18 pm18 cd18 ct18 oc19 kV19 dc19 pm19 cd19 ct19 oc20 kV20 dc20 pm20 cd20 ct20 oc21 kV21 dc21 pm21 cd21 ct21 oc22 kV22 dc22 pm22 cd22 ct22 oc23 kV23 dc23 pm23 cd23 ct23 oc24 kV24 dc24 pm24 cd24 ct24 oc25 kV25 dc25 pm25 cd25 ct25 oc26 kV26 dc26 pm26 cd26 ct26 oc27 kV27 dc27 pm27 cd27 ct27 oc28 kV28 dc28 pm28 cd28 ct28 oc29 kV29 dc29 pm29 cd29 ct29 oc30 kV30 dc30 pm30 cd30 ct30 oc31 kV31 dc31 pm31 cd31 ct31 oc32 kV32 dc32 pm32 cd32 ct32 oc33 kV33 dc33 pm33 cd33 ct33 oc34 kV34 dc34 pm34 cd34 ct34 oc35 kV35 dc35 pm35 cd35 ct35 oc36 kV36 dc36 pm36 cd36 ct36 oc37 kV37 dc37 pm37 cd37 ct37 oc38 kV38 dc38 pm38 cd38 ct38 oc39 kV39 dc39 pm39 cd39 ct39 oc40 kV40 dc40 pm40 cd40 ct40 oc41 kV41 dc41 pm41 cd41 ct41 oc42 kV42 dc42 pm42 cd42 ct42 : Value}
    (a1 : PySem.W.nsIn K mainGlobals "is_integer" = some (some (.ref f1))) (l1 : K.lookup f1 = some ⟨oc1, od1, .func (PySem.W.fnOf "is_integer" "is_integer" (defArgs s_is_integer) (defBody s_is_integer) (defScope s_is_integer) .none kV1 dc1 pm1 an1 cd1 ct1), sl1⟩) (c1 : PySem.W.codeIn K cd1 "is_integer" = true) (k1 : PySem.W.keepIn K (.ref f1) = true)
    (a2 : PySem.W.nsIn K mainGlobals "is_number" = some (some (.ref f2))) (l2 : K.lookup f2 = some ⟨oc2, od2, .func (PySem.W.fnOf "is_number" "is_number" (defArgs s_is_number) (defBody s_is_number) (defScope s_is_number) .none kV2 dc2 pm2 an2 cd2 ct2), sl2⟩) (c2 : PySem.W.codeIn K cd2 "is_number" = true) (k2 : PySem.W.keepIn K (.ref f2) = true)
    (a3 : PySem.W.nsIn K mainGlobals "is_list" = some (some (.ref f3))) (l3 : K.lookup f3 = some ⟨oc3, od3, .func (PySem.W.fnOf "is_list" "is_list" (defArgs s_is_list) (defBody s_is_list) (defScope s_is_list) .none kV3 dc3 pm3 an3 cd3 ct3), sl3⟩) (c3 : PySem.W.codeIn K cd3 "is_list" = true) (k3 : PySem.W.keepIn K (.ref f3) = true)
    (a4 : PySem.W.nsIn K mainGlobals "brought" = some (some (.ref f4))) (l4 : K.lookup f4 = some ⟨oc4, od4, .func (PySem.W.fnOf "brought" "brought" (defArgs s_brought) (defBody s_brought) (defScope s_brought) .none kV4 dc4 pm4 an4 cd4 ct4), sl4⟩) (c4 : PySem.W.codeIn K cd4 "brought" = true) (k4 : PySem.W.keepIn K (.ref f4) = true)
    (a5 : PySem.W.nsIn K mainGlobals "one_of" = some (some (.ref f5))) (l5 : K.lookup f5 = some ⟨oc5, od5, .func (PySem.W.fnOf "one_of" "one_of" (defArgs s_one_of) (defBody s_one_of) (defScope s_one_of) .none kV5 dc5 pm5 an5 cd5 ct5), sl5⟩) (c5 : PySem.W.codeIn K cd5 "one_of" = true) (k5 : PySem.W.keepIn K (.ref f5) = true)
    (a6 : PySem.W.nsIn K mainGlobals "is_strip" = some (some (.ref f6))) (l6 : K.lookup f6 = some ⟨oc6, od6, .func (PySem.W.fnOf "is_strip" "is_strip" (defArgs s_is_strip) (defBody s_is_strip) (defScope s_is_strip) .none kV6 dc6 pm6 an6 cd6 ct6), sl6⟩) (c6 : PySem.W.codeIn K cd6 "is_strip" = true) (k6 : PySem.W.keepIn K (.ref f6) = true)
    (a7 : PySem.W.nsIn K mainGlobals "strip_from" = some (some (.ref f7))) (l7 : K.lookup f7 = some ⟨oc7, od7, .func (PySem.W.fnOf "strip_from" "strip_from" (defArgs s_strip_from) (defBody s_strip_from) (defScope s_strip_from) .none kV7 dc7 pm7 an7 cd7 ct7), sl7⟩) (c7 : PySem.W.codeIn K cd7 "strip_from" = true) (k7 : PySem.W.keepIn K (.ref f7) = true)
    (a8 : PySem.W.nsIn K mainGlobals "integer_from" = some (some (.ref f8))) (l8 : K.lookup f8 = some ⟨oc8, od8, .func (PySem.W.fnOf "integer_from" "integer_from" (defArgs s_integer_from) (defBody s_integer_from) (defScope s_integer_from) .none kV8 dc8 pm8 an8 cd8 ct8), sl8⟩) (c8 : PySem.W.codeIn K cd8 "integer_from" = true) (k8 : PySem.W.keepIn K (.ref f8) = true)
    (a9 : PySem.W.nsIn K mainGlobals "has_it" = some (some (.ref f9))) (l9 : K.lookup f9 = some ⟨oc9, od9, .func (PySem.W.fnOf "has_it" "has_it" (defArgs s_has_it) (defBody s_has_it) (defScope s_has_it) .none kV9 dc9 pm9 an9 cd9 ct9), sl9⟩) (c9 : PySem.W.codeIn K cd9 "has_it" = true) (k9 : PySem.W.keepIn K (.ref f9) = true)
    (a10 : PySem.W.nsIn K mainGlobals "how_many" = some (some (.ref f10))) (l10 : K.lookup f10 = some ⟨oc10, od10, .func (PySem.W.fnOf "how_many" "how_many" (defArgs s_how_many) (defBody s_how_many) (defScope s_how_many) .none kV10 dc10 pm10 an10 cd10 ct10), sl10⟩) (c10 : PySem.W.codeIn K cd10 "how_many" = true) (k10 : PySem.W.keepIn K (.ref f10) = true)
    (a11 : PySem.W.nsIn K mainGlobals "strip_joined" = some (some (.ref f11))) (l11 : K.lookup f11 = some ⟨oc11, od11, .func (PySem.W.fnOf "strip_joined" "strip_joined" (defArgs s_strip_joined) (defBody s_strip_joined) (defScope s_strip_joined) .none kV11 dc11 pm11 an11 cd11 ct11), sl11⟩) (c11 : PySem.W.codeIn K cd11 "strip_joined" = true) (k11 : PySem.W.keepIn K (.ref f11) = true)
    (a12 : PySem.W.nsIn K mainGlobals "least_around" = some (some (.ref f12))) (l12 : K.lookup f12 = some ⟨oc12, od12, .func (PySem.W.fnOf "least_around" "least_around" (defArgs s_least_around) (defBody s_least_around) (defScope s_least_around) .none kV12 dc12 pm12 an12 cd12 ct12), sl12⟩) (c12 : PySem.W.codeIn K cd12 "least_around" = true) (k12 : PySem.W.keepIn K (.ref f12) = true)
    (a13 : PySem.W.nsIn K mainGlobals "strip_met" = some (some (.ref f13))) (l13 : K.lookup f13 = some ⟨oc13, od13, .func (PySem.W.fnOf "strip_met" "strip_met" (defArgs s_strip_met) (defBody s_strip_met) (defScope s_strip_met) .none kV13 dc13 pm13 an13 cd13 ct13), sl13⟩) (c13 : PySem.W.codeIn K cd13 "strip_met" = true) (k13 : PySem.W.keepIn K (.ref f13) = true)
    (a14 : PySem.W.nsIn K mainGlobals "common" = some (some (.ref f14))) (l14 : K.lookup f14 = some ⟨oc14, od14, .func (PySem.W.fnOf "common" "common" (defArgs s_common) (defBody s_common) (defScope s_common) .none kV14 dc14 pm14 an14 cd14 ct14), sl14⟩) (c14 : PySem.W.codeIn K cd14 "common" = true) (k14 : PySem.W.keepIn K (.ref f14) = true)
    (a15 : PySem.W.nsIn K mainGlobals "inverse" = some (some (.ref f15))) (l15 : K.lookup f15 = some ⟨oc15, od15, .func (PySem.W.fnOf "inverse" "inverse" (defArgs s_inverse) (defBody s_inverse) (defScope s_inverse) .none kV15 dc15 pm15 an15 cd15 ct15), sl15⟩) (c15 : PySem.W.codeIn K cd15 "inverse" = true) (k15 : PySem.W.keepIn K (.ref f15) = true)
    (a16 : PySem.W.nsIn K mainGlobals "strip_without" = some (some (.ref f16))) (l16 : K.lookup f16 = some ⟨oc16, od16, .func (PySem.W.fnOf "strip_without" "strip_without" (defArgs s_strip_without) (defBody s_strip_without) (defScope s_strip_without) .none kV16 dc16 pm16 an16 cd16 ct16), sl16⟩) (c16 : PySem.W.codeIn K cd16 "strip_without" = true) (k16 : PySem.W.keepIn K (.ref f16) = true)
    (a17 : PySem.W.nsIn K mainGlobals "strip_sum" = some (some (.ref f17))) (l17 : K.lookup f17 = some ⟨oc17, od17, .func (PySem.W.fnOf "strip_sum" "strip_sum" (defArgs s_strip_sum) (defBody s_strip_sum) (defScope s_strip_sum) .none kV17 dc17 pm17 an17 cd17 ct17), sl17⟩) (c17 : PySem.W.codeIn K cd17 "strip_sum" = true) (k17 : PySem.W.keepIn K (.ref f17) = true)
    (a18 : PySem.W.nsIn K mainGlobals "summed" = some (some (.ref f18))) (l18 : K.lookup f18 = some ⟨oc18, od18, .func (PySem.W.fnOf "summed" "summed" (defArgs s_summed) (defBody s_summed) (defScope s_summed) .none kV18 dc18 pm18 an18 cd18 ct18), sl18⟩) (c18 : PySem.W.codeIn K cd18 "summed" = true) (k18 : PySem.W.keepIn K (.ref f18) = true)
    (a19 : PySem.W.nsIn K mainGlobals "strip_times" = some (some (.ref f19))) (l19 : K.lookup f19 = some ⟨oc19, od19, .func (PySem.W.fnOf "strip_times" "strip_times" (defArgs s_strip_times) (defBody s_strip_times) (defScope s_strip_times) .none kV19 dc19 pm19 an19 cd19 ct19), sl19⟩) (c19 : PySem.W.codeIn K cd19 "strip_times" = true) (k19 : PySem.W.keepIn K (.ref f19) = true)
    (a20 : PySem.W.nsIn K mainGlobals "multiplied" = some (some (.ref f20))) (l20 : K.lookup f20 = some ⟨oc20, od20, .func (PySem.W.fnOf "multiplied" "multiplied" (defArgs s_multiplied) (defBody s_multiplied) (defScope s_multiplied) .none kV20 dc20 pm20 an20 cd20 ct20), sl20⟩) (c20 : PySem.W.codeIn K cd20 "multiplied" = true) (k20 : PySem.W.keepIn K (.ref f20) = true)
    (a21 : PySem.W.nsIn K mainGlobals "_law_stream" = some (some (.ref f21))) (l21 : K.lookup f21 = some ⟨oc21, od21, .func (PySem.W.fnOf "_law_stream" "_law_stream" (defArgs s_q_stream) (defBody s_q_stream) (defScope s_q_stream) .none kV21 dc21 pm21 an21 cd21 ct21), sl21⟩) (c21 : PySem.W.codeIn K cd21 "_law_stream" = true) (k21 : PySem.W.keepIn K (.ref f21) = true)
    (a22 : PySem.W.nsIn K mainGlobals "_law_draw" = some (some (.ref f22))) (l22 : K.lookup f22 = some ⟨oc22, od22, .func (PySem.W.fnOf "_law_draw" "_law_draw" (defArgs s_q_draw) (defBody s_q_draw) (defScope s_q_draw) .none kV22 dc22 pm22 an22 cd22 ct22), sl22⟩) (c22 : PySem.W.codeIn K cd22 "_law_draw" = true) (k22 : PySem.W.keepIn K (.ref f22) = true)
    (a23 : PySem.W.nsIn K mainGlobals "_law_pick" = some (some (.ref f23))) (l23 : K.lookup f23 = some ⟨oc23, od23, .func (PySem.W.fnOf "_law_pick" "_law_pick" (defArgs s_q_pick) (defBody s_q_pick) (defScope s_q_pick) .none kV23 dc23 pm23 an23 cd23 ct23), sl23⟩) (c23 : PySem.W.codeIn K cd23 "_law_pick" = true) (k23 : PySem.W.keepIn K (.ref f23) = true)
    (a24 : PySem.W.nsIn K mainGlobals "_law_same" = some (some (.ref f24))) (l24 : K.lookup f24 = some ⟨oc24, od24, .func (PySem.W.fnOf "_law_same" "_law_same" (defArgs s_q_same) (defBody s_q_same) (defScope s_q_same) .none kV24 dc24 pm24 an24 cd24 ct24), sl24⟩) (c24 : PySem.W.codeIn K cd24 "_law_same" = true) (k24 : PySem.W.keepIn K (.ref f24) = true)
    (a25 : PySem.W.nsIn K mainGlobals "_law_loose" = some (some (.ref f25))) (l25 : K.lookup f25 = some ⟨oc25, od25, .func (PySem.W.fnOf "_law_loose" "_law_loose" (defArgs s_q_loose) (defBody s_q_loose) (defScope s_q_loose) .none kV25 dc25 pm25 an25 cd25 ct25), sl25⟩) (c25 : PySem.W.codeIn K cd25 "_law_loose" = true) (k25 : PySem.W.keepIn K (.ref f25) = true)
    (a26 : PySem.W.nsIn K mainGlobals "_law_each_once" = some (some (.ref f26))) (l26 : K.lookup f26 = some ⟨oc26, od26, .func (PySem.W.fnOf "_law_each_once" "_law_each_once" (defArgs s_q_each_once) (defBody s_q_each_once) (defScope s_q_each_once) .none kV26 dc26 pm26 an26 cd26 ct26), sl26⟩) (c26 : PySem.W.codeIn K cd26 "_law_each_once" = true) (k26 : PySem.W.keepIn K (.ref f26) = true)
    (a27 : PySem.W.nsIn K mainGlobals "_law_strip_gcd" = some (some (.ref f27))) (l27 : K.lookup f27 = some ⟨oc27, od27, .func (PySem.W.fnOf "_law_strip_gcd" "_law_strip_gcd" (defArgs s_q_strip_gcd) (defBody s_q_strip_gcd) (defScope s_q_strip_gcd) .none kV27 dc27 pm27 an27 cd27 ct27), sl27⟩) (c27 : PySem.W.codeIn K cd27 "_law_strip_gcd" = true) (k27 : PySem.W.keepIn K (.ref f27) = true)
    (a28 : PySem.W.nsIn K mainGlobals "_law_strip_brought" = some (some (.ref f28))) (l28 : K.lookup f28 = some ⟨oc28, od28, .func (PySem.W.fnOf "_law_strip_brought" "_law_strip_brought" (defArgs s_q_strip_brought) (defBody s_q_strip_brought) (defScope s_q_strip_brought) .none kV28 dc28 pm28 an28 cd28 ct28), sl28⟩) (c28 : PySem.W.codeIn K cd28 "_law_strip_brought" = true) (k28 : PySem.W.keepIn K (.ref f28) = true)
    (a29 : PySem.W.nsIn K mainGlobals "_law_strip_in" = some (some (.ref f29))) (l29 : K.lookup f29 = some ⟨oc29, od29, .func (PySem.W.fnOf "_law_strip_in" "_law_strip_in" (defArgs s_q_strip_in) (defBody s_q_strip_in) (defScope s_q_strip_in) .none kV29 dc29 pm29 an29 cd29 ct29), sl29⟩) (c29 : PySem.W.codeIn K cd29 "_law_strip_in" = true) (k29 : PySem.W.keepIn K (.ref f29) = true)
    (a30 : PySem.W.nsIn K mainGlobals "_law_strip_some" = some (some (.ref f30))) (l30 : K.lookup f30 = some ⟨oc30, od30, .func (PySem.W.fnOf "_law_strip_some" "_law_strip_some" (defArgs s_q_strip_some) (defBody s_q_strip_some) (defScope s_q_strip_some) .none kV30 dc30 pm30 an30 cd30 ct30), sl30⟩) (c30 : PySem.W.codeIn K cd30 "_law_strip_some" = true) (k30 : PySem.W.keepIn K (.ref f30) = true)
    (a31 : PySem.W.nsIn K mainGlobals "_law_strip_around" = some (some (.ref f31))) (l31 : K.lookup f31 = some ⟨oc31, od31, .func (PySem.W.fnOf "_law_strip_around" "_law_strip_around" (defArgs s_q_strip_around) (defBody s_q_strip_around) (defScope s_q_strip_around) .none kV31 dc31 pm31 an31 cd31 ct31), sl31⟩) (c31 : PySem.W.codeIn K cd31 "_law_strip_around" = true) (k31 : PySem.W.keepIn K (.ref f31) = true)
    (a32 : PySem.W.nsIn K mainGlobals "_law_any_integer" = some (some (.ref f32))) (l32 : K.lookup f32 = some ⟨oc32, od32, .func (PySem.W.fnOf "_law_any_integer" "_law_any_integer" (defArgs s_q_any_integer) (defBody s_q_any_integer) (defScope s_q_any_integer) .none kV32 dc32 pm32 an32 cd32 ct32), sl32⟩) (c32 : PySem.W.codeIn K cd32 "_law_any_integer" = true) (k32 : PySem.W.keepIn K (.ref f32) = true)
    (a33 : PySem.W.nsIn K mainGlobals "_law_strip_quadruple" = some (some (.ref f33))) (l33 : K.lookup f33 = some ⟨oc33, od33, .func (PySem.W.fnOf "_law_strip_quadruple" "_law_strip_quadruple" (defArgs s_q_strip_quadruple) (defBody s_q_strip_quadruple) (defScope s_q_strip_quadruple) .none kV33 dc33 pm33 an33 cd33 ct33), sl33⟩) (c33 : PySem.W.codeIn K cd33 "_law_strip_quadruple" = true) (k33 : PySem.W.keepIn K (.ref f33) = true)
    (a34 : PySem.W.nsIn K mainGlobals "_law_strip_drawn" = some (some (.ref f34))) (l34 : K.lookup f34 = some ⟨oc34, od34, .func (PySem.W.fnOf "_law_strip_drawn" "_law_strip_drawn" (defArgs s_q_strip_drawn) (defBody s_q_strip_drawn) (defScope s_q_strip_drawn) .none kV34 dc34 pm34 an34 cd34 ct34), sl34⟩) (c34 : PySem.W.codeIn K cd34 "_law_strip_drawn" = true) (k34 : PySem.W.keepIn K (.ref f34) = true)
    (a35 : PySem.W.nsIn K mainGlobals "_law_strip_beside" = some (some (.ref f35))) (l35 : K.lookup f35 = some ⟨oc35, od35, .func (PySem.W.fnOf "_law_strip_beside" "_law_strip_beside" (defArgs s_q_strip_beside) (defBody s_q_strip_beside) (defScope s_q_strip_beside) .none kV35 dc35 pm35 an35 cd35 ct35), sl35⟩) (c35 : PySem.W.codeIn K cd35 "_law_strip_beside" = true) (k35 : PySem.W.keepIn K (.ref f35) = true)
    (a36 : PySem.W.nsIn K mainGlobals "_law_met" = some (some (.ref f36))) (l36 : K.lookup f36 = some ⟨oc36, od36, .func (PySem.W.fnOf "_law_met" "_law_met" (defArgs s_q_met) (defBody s_q_met) (defScope s_q_met) .none kV36 dc36 pm36 an36 cd36 ct36), sl36⟩) (c36 : PySem.W.codeIn K cd36 "_law_met" = true) (k36 : PySem.W.keepIn K (.ref f36) = true)
    (a37 : PySem.W.nsIn K mainGlobals "_law_strip_open" = some (some (.ref f37))) (l37 : K.lookup f37 = some ⟨oc37, od37, .func (PySem.W.fnOf "_law_strip_open" "_law_strip_open" (defArgs s_q_strip_open) (defBody s_q_strip_open) (defScope s_q_strip_open) .none kV37 dc37 pm37 an37 cd37 ct37), sl37⟩) (c37 : PySem.W.codeIn K cd37 "_law_strip_open" = true) (k37 : PySem.W.keepIn K (.ref f37) = true)
    (a38 : PySem.W.nsIn K mainGlobals "_law_strip_sums" = some (some (.ref f38))) (l38 : K.lookup f38 = some ⟨oc38, od38, .func (PySem.W.fnOf "_law_strip_sums" "_law_strip_sums" (defArgs s_q_strip_sums) (defBody s_q_strip_sums) (defScope s_q_strip_sums) .none kV38 dc38 pm38 an38 cd38 ct38), sl38⟩) (c38 : PySem.W.codeIn K cd38 "_law_strip_sums" = true) (k38 : PySem.W.keepIn K (.ref f38) = true)
    (a39 : PySem.W.nsIn K mainGlobals "_law_pair_right" = some (some (.ref f39))) (l39 : K.lookup f39 = some ⟨oc39, od39, .func (PySem.W.fnOf "_law_pair_right" "_law_pair_right" (defArgs s_q_pair_right) (defBody s_q_pair_right) (defScope s_q_pair_right) .none kV39 dc39 pm39 an39 cd39 ct39), sl39⟩) (c39 : PySem.W.codeIn K cd39 "_law_pair_right" = true) (k39 : PySem.W.keepIn K (.ref f39) = true)
    (a40 : PySem.W.nsIn K mainGlobals "_law_one_right" = some (some (.ref f40))) (l40 : K.lookup f40 = some ⟨oc40, od40, .func (PySem.W.fnOf "_law_one_right" "_law_one_right" (defArgs s_q_one_right) (defBody s_q_one_right) (defScope s_q_one_right) .none kV40 dc40 pm40 an40 cd40 ct40), sl40⟩) (c40 : PySem.W.codeIn K cd40 "_law_one_right" = true) (k40 : PySem.W.keepIn K (.ref f40) = true)
    (a41 : PySem.W.nsIn K mainGlobals "_law_crossing" = some (some (.ref f41))) (l41 : K.lookup f41 = some ⟨oc41, od41, .func (PySem.W.fnOf "_law_crossing" "_law_crossing" (defArgs s_q_crossing) (defBody s_q_crossing) (defScope s_q_crossing) .none kV41 dc41 pm41 an41 cd41 ct41), sl41⟩) (c41 : PySem.W.codeIn K cd41 "_law_crossing" = true) (k41 : PySem.W.keepIn K (.ref f41) = true)
    (a42 : PySem.W.nsIn K mainGlobals "law" = some (some (.ref f42))) (l42 : K.lookup f42 = some ⟨oc42, od42, .func (PySem.W.fnOf "law" "law" (defArgs s_law) (defBody s_law) (defScope s_law) .none kV42 dc42 pm42 an42 cd42 ct42), sl42⟩) (c42 : PySem.W.codeIn K cd42 "law" = true) (k42 : PySem.W.keepIn K (.ref f42) = true)
    (z1 : PySem.W.nsIn K mainGlobals "isinstance" = some none)
    (z2 : PySem.W.nsIn K mainGlobals "int" = some none)
    (z3 : PySem.W.nsIn K mainGlobals "bool" = some none)
    (z4 : PySem.W.nsIn K mainGlobals "list" = some none)
    (z5 : PySem.W.nsIn K mainGlobals "tuple" = some none)
    (z6 : PySem.W.nsIn K mainGlobals "dict" = some none)
    (z7 : PySem.W.nsIn K mainGlobals "len" = some none)
    (z8 : PySem.W.nsIn K mainGlobals "abs" = some none)
    (z9 : PySem.W.nsIn K mainGlobals "all" = some none)
    (z10 : PySem.W.nsIn K mainGlobals "zip" = some none)
    (z11 : PySem.W.nsIn K mainGlobals "range" = some none)
    (z12 : PySem.W.nsIn K mainGlobals "min" = some none)
    (z13 : PySem.W.nsIn K mainGlobals "max" = some none)
    (z14 : PySem.W.nsIn K mainGlobals "gcd" = some (some (.builtin "math.gcd"))) :
    ∃ fd : FuncData, (∀ (s : Shared) (v : Value), BindsTo s fd ⟨[v], []⟩ [("_law_script", v)]) ∧ ∀ base : Heap, K.In base → base.Ns mainGlobals mg → FnOk l.prog w K mg base CX0 8 fa fd ["_law_script"] (spLaw K) := by
  have e := hfa.symm.trans (PySem.W.mg_of X G a42)
  cases e
  have T : Txt mg := ⟨PySem.W.mg_none_of X G z1, PySem.W.mg_none_of X G z2, PySem.W.mg_none_of X G z3, PySem.W.mg_none_of X G z4, PySem.W.mg_none_of X G z5, PySem.W.mg_none_of X G z6, PySem.W.mg_none_of X G z7, PySem.W.mg_none_of X G z8, PySem.W.mg_none_of X G z9, PySem.W.mg_none_of X G z10, PySem.W.mg_none_of X G z11, PySem.W.mg_none_of X G z12, PySem.W.mg_none_of X G z13, PySem.W.mg_of X G z14⟩
  have F1 := fun_mk (st := s_is_integer) l1 c1 k1
  have m1 := PySem.W.mg_of X G a1
  have b1 := F1.binds (ps := ["thing"]) fun _ _ _ _ _ _ us hl => match us, hl with | [_], _ => rfl
  have F2 := fun_mk (st := s_is_number) l2 c2 k2
  have m2 := PySem.W.mg_of X G a2
  have b2 := F2.binds (ps := ["thing"]) fun _ _ _ _ _ _ us hl => match us, hl with | [_], _ => rfl
  have F3 := fun_mk (st := s_is_list) l3 c3 k3
  have m3 := PySem.W.mg_of X G a3
  have b3 := F3.binds (ps := ["thing"]) fun _ _ _ _ _ _ us hl => match us, hl with | [_], _ => rfl
  have F4 := fun_mk (st := s_brought) l4 c4 k4
  have m4 := PySem.W.mg_of X G a4
  have b4 := F4.binds (ps := ["low", "high", "modulus", "remainder"]) fun _ _ _ _ _ _ us hl => match us, hl with | [_, _, _, _], _ => rfl
  have F5 := fun_mk (st := s_one_of) l5 c5 k5
  have m5 := PySem.W.mg_of X G a5
  have b5 := F5.binds (ps := ["n"]) fun _ _ _ _ _ _ us hl => match us, hl with | [_], _ => rfl
  have F6 := fun_mk (st := s_is_strip) l6 c6 k6
  have m6 := PySem.W.mg_of X G a6
  have b6 := F6.binds (ps := ["thing"]) fun _ _ _ _ _ _ us hl => match us, hl with | [_], _ => rfl
  have F7 := fun_mk (st := s_strip_from) l7 c7 k7
  have m7 := PySem.W.mg_of X G a7
  have b7 := F7.binds (ps := ["thing"]) fun _ _ _ _ _ _ us hl => match us, hl with | [_], _ => rfl
  have F8 := fun_mk (st := s_integer_from) l8 c8 k8
  have m8 := PySem.W.mg_of X G a8
  have b8 := F8.binds (ps := ["n"]) fun _ _ _ _ _ _ us hl => match us, hl with | [_], _ => rfl
  have F9 := fun_mk (st := s_has_it) l9 c9 k9
  have m9 := PySem.W.mg_of X G a9
  have b9 := F9.binds (ps := ["strip", "n"]) fun _ _ _ _ _ _ us hl => match us, hl with | [_, _], _ => rfl
  have F10 := fun_mk (st := s_how_many) l10 c10 k10
  have m10 := PySem.W.mg_of X G a10
  have b10 := F10.binds (ps := ["strip"]) fun _ _ _ _ _ _ us hl => match us, hl with | [_], _ => rfl
  have F11 := fun_mk (st := s_strip_joined) l11 c11 k11
  have m11 := PySem.W.mg_of X G a11
  have b11 := F11.binds (ps := ["strip", "other"]) fun _ _ _ _ _ _ us hl => match us, hl with | [_, _], _ => rfl
  have F12 := fun_mk (st := s_least_around) l12 c12 k12
  have m12 := PySem.W.mg_of X G a12
  have b12 := F12.binds (ps := ["strip", "other"]) fun _ _ _ _ _ _ us hl => match us, hl with | [_, _], _ => rfl
  have F13 := fun_mk (st := s_strip_met) l13 c13 k13
  have m13 := PySem.W.mg_of X G a13
  have b13 := F13.binds (ps := ["strip", "other"]) fun _ _ _ _ _ _ us hl => match us, hl with | [_, _], _ => rfl
  have F14 := fun_mk (st := s_common) l14 c14 k14
  have m14 := PySem.W.mg_of X G a14
  have b14 := F14.binds (ps := ["strip", "other"]) fun _ _ _ _ _ _ us hl => match us, hl with | [_, _], _ => rfl
  have F15 := fun_mk (st := s_inverse) l15 c15 k15
  have m15 := PySem.W.mg_of X G a15
  have b15 := F15.binds (ps := ["n", "modulus"]) fun _ _ _ _ _ _ us hl => match us, hl with | [_, _], _ => rfl
  have F16 := fun_mk (st := s_strip_without) l16 c16 k16
  have m16 := PySem.W.mg_of X G a16
  have b16 := F16.binds (ps := ["strip", "n"]) fun _ _ _ _ _ _ us hl => match us, hl with | [_, _], _ => rfl
  have F17 := fun_mk (st := s_strip_sum) l17 c17 k17
  have m17 := PySem.W.mg_of X G a17
  have b17 := F17.binds (ps := ["strip", "other"]) fun _ _ _ _ _ _ us hl => match us, hl with | [_, _], _ => rfl
  have F18 := fun_mk (st := s_summed) l18 c18 k18
  have m18 := PySem.W.mg_of X G a18
  have b18 := F18.binds (ps := ["strip", "other"]) fun _ _ _ _ _ _ us hl => match us, hl with | [_, _], _ => rfl
  have F19 := fun_mk (st := s_strip_times) l19 c19 k19
  have m19 := PySem.W.mg_of X G a19
  have b19 := F19.binds (ps := ["n", "strip"]) fun _ _ _ _ _ _ us hl => match us, hl with | [_, _], _ => rfl
  have F20 := fun_mk (st := s_multiplied) l20 c20 k20
  have m20 := PySem.W.mg_of X G a20
  have b20 := F20.binds (ps := ["n", "strip"]) fun _ _ _ _ _ _ us hl => match us, hl with | [_, _], _ => rfl
  have F21 := fun_mk (st := s_q_stream) l21 c21 k21
  have m21 := PySem.W.mg_of X G a21
  have b21 := F21.binds (ps := ["_law_script"]) fun _ _ _ _ _ _ us hl => match us, hl with | [_], _ => rfl
  have F22 := fun_mk (st := s_q_draw) l22 c22 k22
  have m22 := PySem.W.mg_of X G a22
  have b22 := F22.binds (ps := ["_law_stream_here", "_law_many"]) fun _ _ _ _ _ _ us hl => match us, hl with | [_, _], _ => rfl
  have F23 := fun_mk (st := s_q_pick) l23 c23 k23
  have m23 := PySem.W.mg_of X G a23
  have b23 := F23.binds (ps := ["_law_stream_here", "_law_things"]) fun _ _ _ _ _ _ us hl => match us, hl with | [_, _], _ => rfl
  have F24 := fun_mk (st := s_q_same) l24 c24 k24
  have m24 := PySem.W.mg_of X G a24
  have b24 := F24.binds (ps := ["_law_found", "_law_due"]) fun _ _ _ _ _ _ us hl => match us, hl with | [_, _], _ => rfl
  have F25 := fun_mk (st := s_q_loose) l25 c25 k25
  have m25 := PySem.W.mg_of X G a25
  have b25 := F25.binds (ps := ["_law_stream_here", "_law_thing"]) fun _ _ _ _ _ _ us hl => match us, hl with | [_, _], _ => rfl
  have F26 := fun_mk (st := s_q_each_once) l26 c26 k26
  have m26 := PySem.W.mg_of X G a26
  have b26 := F26.binds (ps := ["_law_some"]) fun _ _ _ _ _ _ us hl => match us, hl with | [_], _ => rfl
  have F27 := fun_mk (st := s_q_strip_gcd) l27 c27 k27
  have m27 := PySem.W.mg_of X G a27
  have b27 := F27.binds (ps := ["_law_one", "_law_other"]) fun _ _ _ _ _ _ us hl => match us, hl with | [_, _], _ => rfl
  have F28 := fun_mk (st := s_q_strip_brought) l28 c28 k28
  have m28 := PySem.W.mg_of X G a28
  have b28 := F28.binds (ps := ["_law_low", "_law_high", "_law_step", "_law_rest"]) fun _ _ _ _ _ _ us hl => match us, hl with | [_, _, _, _], _ => rfl
  have F29 := fun_mk (st := s_q_strip_in) l29 c29 k29
  have m29 := PySem.W.mg_of X G a29
  have b29 := F29.binds (ps := ["_law_strip", "_law_n"]) fun _ _ _ _ _ _ us hl => match us, hl with | [_, _], _ => rfl
  have F30 := fun_mk (st := s_q_strip_some) l30 c30 k30
  have m30 := PySem.W.mg_of X G a30
  have b30 := F30.binds (ps := ["_law_strip", "_law_far"]) fun _ _ _ _ _ _ us hl => match us, hl with | [_, _], _ => rfl
  have F31 := fun_mk (st := s_q_strip_around) l31 c31 k31
  have m31 := PySem.W.mg_of X G a31
  have b31 := F31.binds (ps := ["_law_some", "_law_is_low", "_law_is_high"]) fun _ _ _ _ _ _ us hl => match us, hl with | [_, _, _], _ => rfl
  have F32 := fun_mk (st := s_q_any_integer) l32 c32 k32
  have m32 := PySem.W.mg_of X G a32
  have b32 := F32.binds (ps := ["_law_stream_here"]) fun _ _ _ _ _ _ us hl => match us, hl with | [_], _ => rfl
  have F33 := fun_mk (st := s_q_strip_quadruple) l33 c33 k33
  have m33 := PySem.W.mg_of X G a33
  have b33 := F33.binds (ps := ["_law_stream_here"]) fun _ _ _ _ _ _ us hl => match us, hl with | [_], _ => rfl
  have F34 := fun_mk (st := s_q_strip_drawn) l34 c34 k34
  have m34 := PySem.W.mg_of X G a34
  have b34 := F34.binds (ps := ["_law_stream_here"]) fun _ _ _ _ _ _ us hl => match us, hl with | [_], _ => rfl
  have F35 := fun_mk (st := s_q_strip_beside) l35 c35 k35
  have m35 := PySem.W.mg_of X G a35
  have b35 := F35.binds (ps := ["_law_stream_here", "_law_strip"]) fun _ _ _ _ _ _ us hl => match us, hl with | [_, _], _ => rfl
  have F36 := fun_mk (st := s_q_met) l36 c36 k36
  have m36 := PySem.W.mg_of X G a36
  have b36 := F36.binds (ps := ["_law_one", "_law_other"]) fun _ _ _ _ _ _ us hl => match us, hl with | [_, _], _ => rfl
  have F37 := fun_mk (st := s_q_strip_open) l37 c37 k37
  have m37 := PySem.W.mg_of X G a37
  have b37 := F37.binds (ps := ["_law_one", "_law_other"]) fun _ _ _ _ _ _ us hl => match us, hl with | [_, _], _ => rfl
  have F38 := fun_mk (st := s_q_strip_sums) l38 c38 k38
  have m38 := PySem.W.mg_of X G a38
  have b38 := F38.binds (ps := ["_law_one", "_law_other"]) fun _ _ _ _ _ _ us hl => match us, hl with | [_, _], _ => rfl
  have F39 := fun_mk (st := s_q_pair_right) l39 c39 k39
  have m39 := PySem.W.mg_of X G a39
  have b39 := F39.binds (ps := ["_law_stream_here", "_law_one", "_law_other", "_law_met_here"]) fun _ _ _ _ _ _ us hl => match us, hl with | [_, _, _, _], _ => rfl
  have F40 := fun_mk (st := s_q_one_right) l40 c40 k40
  have m40 := PySem.W.mg_of X G a40
  have b40 := F40.binds (ps := ["_law_stream_here", "_law_strip", "_law_n"]) fun _ _ _ _ _ _ us hl => match us, hl with | [_, _, _], _ => rfl
  have F41 := fun_mk (st := s_q_crossing) l41 c41 k41
  have m41 := PySem.W.mg_of X G a41
  have b41 := F41.binds (ps := ["_law_stream_here"]) fun _ _ _ _ _ _ us hl => match us, hl with | [_], _ => rfl
  have F42 := fun_mk (st := s_law) l42 c42 k42
  have m42 := PySem.W.mg_of X G a42
  have b42 := F42.binds (ps := ["_law_script"]) fun _ _ _ _ _ _ us hl => match us, hl with | [_], _ => rfl
  refine ⟨PySem.W.fnOf "law" "law" (defArgs s_law) (defBody s_law) (defScope s_law) .none kV42 dc42 pm42 an42 cd42 ct42, fun s v => .of_eq rfl, fun base _ _ => ?_⟩
  obtain ⟨P, hP⟩ : ∃ P, P = l.prog := ⟨_, rfl⟩
  rw [← hP]
  have C_is_integer := c_is_integer (P := P) (w := w) (K := K) (mg := mg) (base := base) (T := T) (F := F1) (hm := m1) (hb := b1)
  have C_is_number := c_is_number (P := P) (w := w) (K := K) (mg := mg) (base := base) (T := T) (c_is_integer := C_is_integer) (F := F2) (hm := m2) (hb := b2)
  have C_is_list := c_is_list (P := P) (w := w) (K := K) (mg := mg) (base := base) (T := T) (F := F3) (hm := m3) (hb := b3)
  have C_brought := c_brought (P := P) (w := w) (K := K) (mg := mg) (base := base) (T := T) (F := F4) (hm := m4) (hb := b4)
  have C_one_of := c_one_of (P := P) (w := w) (K := K) (mg := mg) (base := base) (T := T) (F := F5) (hm := m5) (hb := b5)
  have C_is_strip := c_is_strip (P := P) (w := w) (K := K) (mg := mg) (base := base) (T := T) (c_brought := C_brought) (c_is_integer := C_is_integer) (c_is_list := C_is_list) (c_is_number := C_is_number) (F := F6) (hm := m6) (hb := b6)
  have C_strip_from := c_strip_from (P := P) (w := w) (K := K) (mg := mg) (base := base) (T := T) (c_is_strip := C_is_strip) (F := F7) (hm := m7) (hb := b7)
  have C_integer_from := c_integer_from (P := P) (w := w) (K := K) (mg := mg) (base := base) (T := T) (c_is_integer := C_is_integer) (F := F8) (hm := m8) (hb := b8)
  have C_has_it := c_has_it (P := P) (w := w) (K := K) (mg := mg) (base := base) (T := T) (F := F9) (hm := m9) (hb := b9)
  have C_how_many := c_how_many (P := P) (w := w) (K := K) (mg := mg) (base := base) (T := T) (F := F10) (hm := m10) (hb := b10)
  have C_least_around := c_least_around (P := P) (w := w) (K := K) (mg := mg) (base := base) (T := T) (c_brought := C_brought) (F := F12) (hm := m12) (hb := b12)
  have C_strip_joined := c_strip_joined (P := P) (w := w) (K := K) (mg := mg) (base := base) (T := T) (c_least_around := C_least_around) (c_strip_from := C_strip_from) (F := F11) (hm := m11) (hb := b11)
  have C_inverse := c_inverse (P := P) (w := w) (K := K) (mg := mg) (base := base) (T := T) (F := F15) (hm := m15) (hb := b15)
  have C_common := c_common (P := P) (w := w) (K := K) (mg := mg) (base := base) (T := T) (c_brought := C_brought) (c_has_it := C_has_it) (c_inverse := C_inverse) (F := F14) (hm := m14) (hb := b14)
  have C_strip_met := c_strip_met (P := P) (w := w) (K := K) (mg := mg) (base := base) (T := T) (c_common := C_common) (c_strip_from := C_strip_from) (F := F13) (hm := m13) (hb := b13)
  have C_strip_without := c_strip_without (P := P) (w := w) (K := K) (mg := mg) (base := base) (T := T) (c_brought := C_brought) (c_has_it := C_has_it) (c_how_many := C_how_many) (c_integer_from := C_integer_from) (c_least_around := C_least_around) (c_one_of := C_one_of) (c_strip_from := C_strip_from) (F := F16) (hm := m16) (hb := b16)
  have C_summed := c_summed (P := P) (w := w) (K := K) (mg := mg) (base := base) (T := T) (c_brought := C_brought) (F := F18) (hm := m18) (hb := b18)
  have C_strip_sum := c_strip_sum (P := P) (w := w) (K := K) (mg := mg) (base := base) (T := T) (c_strip_from := C_strip_from) (c_summed := C_summed) (F := F17) (hm := m17) (hb := b17)
  have C_multiplied := c_multiplied (P := P) (w := w) (K := K) (mg := mg) (base := base) (T := T) (c_brought := C_brought) (c_one_of := C_one_of) (F := F20) (hm := m20) (hb := b20)
  have C_strip_times := c_strip_times (P := P) (w := w) (K := K) (mg := mg) (base := base) (T := T) (c_integer_from := C_integer_from) (c_multiplied := C_multiplied) (c_strip_from := C_strip_from) (F := F19) (hm := m19) (hb := b19)
  have C_q_draw := c_q_draw (P := P) (w := w) (K := K) (mg := mg) (base := base) (T := T) (F := F22) (hm := m22) (hb := b22)
  have C_q_pick := c_q_pick (P := P) (w := w) (K := K) (mg := mg) (base := base) (T := T) (c_q_draw := C_q_draw) (F := F23) (hm := m23) (hb := b23)
  have S0 : Cal P w K mg base 0 "_law_same" ["_law_found", "_law_due"] (sameS 0) f24 _ := cal_no 0 F24 m24 b24
  have S1 := c_q_same (k := 0) (T := T) (c_q_same := S0) (F := F24) (hm := m24) (hb := b24)
  have S2 := c_q_same (k := 1) (T := T) (c_q_same := S1) (F := F24) (hm := m24) (hb := b24)
  have S3 := c_q_same (k := 2) (T := T) (c_q_same := S2) (F := F24) (hm := m24) (hb := b24)
  have C_q_same := S3
  have L0 : Cal P w K mg base 1 "_law_loose" ["_law_stream_here", "_law_thing"] noS f25 _ := cal_no 1 F25 m25 b25
  have L1 := c_q_loose1 (T := T) (c_q_draw := C_q_draw) (c_q_loose := L0) (F := F25) (hm := m25) (hb := b25)
  have C_q_loose := c_q_loose2 (T := T) (c_q_draw := C_q_draw) (c_q_loose := L1) (F := F25) (hm := m25) (hb := b25)
  have C_q_each_once := c_q_each_once (P := P) (w := w) (K := K) (mg := mg) (base := base) (T := T) (F := F26) (hm := m26) (hb := b26)
  have C_q_strip_gcd := c_q_strip_gcd (P := P) (w := w) (K := K) (mg := mg) (base := base) (T := T) (F := F27) (hm := m27) (hb := b27)
  have C_q_strip_brought := c_q_strip_brought (P := P) (w := w) (K := K) (mg := mg) (base := base) (T := T) (F := F28) (hm := m28) (hb := b28)
  have C_q_strip_in := c_q_strip_in (P := P) (w := w) (K := K) (mg := mg) (base := base) (T := T) (F := F29) (hm := m29) (hb := b29)
  have C_q_strip_some := c_q_strip_some (P := P) (w := w) (K := K) (mg := mg) (base := base) (T := T) (c_q_each_once := C_q_each_once) (c_q_strip_in := C_q_strip_in) (F := F30) (hm := m30) (hb := b30)
  have C_q_strip_around := c_q_strip_around (P := P) (w := w) (K := K) (mg := mg) (base := base) (T := T) (c_q_strip_brought := C_q_strip_brought) (c_q_strip_gcd := C_q_strip_gcd) (F := F31) (hm := m31) (hb := b31)
  have C_q_any_integer := c_q_any_integer (P := P) (w := w) (K := K) (mg := mg) (base := base) (T := T) (c_q_draw := C_q_draw) (F := F32) (hm := m32) (hb := b32)
  have C_q_strip_quadruple := c_q_strip_quadruple (P := P) (w := w) (K := K) (mg := mg) (base := base) (T := T) (c_q_any_integer := C_q_any_integer) (c_q_draw := C_q_draw) (c_q_pick := C_q_pick) (F := F33) (hm := m33) (hb := b33)
  have C_q_strip_drawn := c_q_strip_drawn (P := P) (w := w) (K := K) (mg := mg) (base := base) (T := T) (c_q_draw := C_q_draw) (c_q_strip_brought := C_q_strip_brought) (c_q_strip_quadruple := C_q_strip_quadruple) (F := F34) (hm := m34) (hb := b34)
  have C_q_strip_beside := c_q_strip_beside (P := P) (w := w) (K := K) (mg := mg) (base := base) (T := T) (c_q_draw := C_q_draw) (c_q_pick := C_q_pick) (c_q_strip_brought := C_q_strip_brought) (F := F35) (hm := m35) (hb := b35)
  have C_q_met := c_q_met (P := P) (w := w) (K := K) (mg := mg) (base := base) (T := T) (c_q_strip_brought := C_q_strip_brought) (c_q_strip_gcd := C_q_strip_gcd) (c_q_strip_in := C_q_strip_in) (F := F36) (hm := m36) (hb := b36)
  have C_q_strip_open := c_q_strip_open (P := P) (w := w) (K := K) (mg := mg) (base := base) (T := T) (F := F37) (hm := m37) (hb := b37)
  have C_q_strip_sums := c_q_strip_sums (P := P) (w := w) (K := K) (mg := mg) (base := base) (T := T) (c_q_strip_around := C_q_strip_around) (c_q_strip_open := C_q_strip_open) (c_q_strip_some := C_q_strip_some) (F := F38) (hm := m38) (hb := b38)
  have C_q_pair_right := c_q_pair_right (P := P) (w := w) (K := K) (mg := mg) (base := base) (T := T) (c_q_loose := C_q_loose) (c_q_same := C_q_same) (c_q_strip_around := C_q_strip_around) (c_q_strip_open := C_q_strip_open) (c_q_strip_some := C_q_strip_some) (c_q_strip_sums := C_q_strip_sums) (c_strip_joined := C_strip_joined) (c_strip_met := C_strip_met) (c_strip_sum := C_strip_sum) (k_strip_sum_1_0 := Fun.kbd F17 (ps := ["strip", "other"]) (ks := ["other", "strip"]) (ix := [1, 0]) fun _ _ _ _ _ _ ws hl => match ws, hl with | [], hl => absurd hl (by simp [permL]) | [_], hl => absurd hl (by simp [permL]) | _ :: _ :: _, _ => rfl) (k_strip_met_1_0 := Fun.kbd F13 (ps := ["strip", "other"]) (ks := ["other", "strip"]) (ix := [1, 0]) fun _ _ _ _ _ _ ws hl => match ws, hl with | [], hl => absurd hl (by simp [permL]) | [_], hl => absurd hl (by simp [permL]) | _ :: _ :: _, _ => rfl) (k_strip_joined_1_0 := Fun.kbd F11 (ps := ["strip", "other"]) (ks := ["other", "strip"]) (ix := [1, 0]) fun _ _ _ _ _ _ ws hl => match ws, hl with | [], hl => absurd hl (by simp [permL]) | [_], hl => absurd hl (by simp [permL]) | _ :: _ :: _, _ => rfl) (F := F39) (hm := m39) (hb := b39)
  have C_q_one_right := c_q_one_right (P := P) (w := w) (K := K) (mg := mg) (base := base) (T := T) (c_q_loose := C_q_loose) (c_q_same := C_q_same) (c_q_strip_around := C_q_strip_around) (c_q_strip_in := C_q_strip_in) (c_q_strip_some := C_q_strip_some) (c_strip_times := C_strip_times) (c_strip_without := C_strip_without) (k_strip_times_1_0 := Fun.kbd F19 (ps := ["n", "strip"]) (ks := ["strip", "n"]) (ix := [1, 0]) fun _ _ _ _ _ _ ws hl => match ws, hl with | [], hl => absurd hl (by simp [permL]) | [_], hl => absurd hl (by simp [permL]) | _ :: _ :: _, _ => rfl) (k_strip_without_1_0 := Fun.kbd F16 (ps := ["strip", "n"]) (ks := ["n", "strip"]) (ix := [1, 0]) fun _ _ _ _ _ _ ws hl => match ws, hl with | [], hl => absurd hl (by simp [permL]) | [_], hl => absurd hl (by simp [permL]) | _ :: _ :: _, _ => rfl) (F := F40) (hm := m40) (hb := b40)
  have C_q_crossing := c_q_crossing (P := P) (w := w) (K := K) (mg := mg) (base := base) (T := T) (c_q_any_integer := C_q_any_integer) (c_q_draw := C_q_draw) (c_q_strip_brought := C_q_strip_brought) (c_q_strip_gcd := C_q_strip_gcd) (F := F41) (hm := m41) (hb := b41)
  exact ok_law (T := T) (o_stream := ok_stream T F21) (mgS := m21) (kpS := k21) (bdS := b21) (c_q_any_integer := C_q_any_integer) (c_q_crossing := C_q_crossing) (c_q_draw := C_q_draw) (c_q_each_once := C_q_each_once) (c_q_met := C_q_met) (c_q_one_right := C_q_one_right) (c_q_pair_right := C_q_pair_right) (c_q_pick := C_q_pick) (c_q_strip_beside := C_q_strip_beside) (c_q_strip_brought := C_q_strip_brought) (c_q_strip_drawn := C_q_strip_drawn) (c_q_strip_some := C_q_strip_some) (F := F42)
theorem walk {l : PySem.W.OpenLaw} {q : Program} {loose : List Str} {XP : (Str → Option Value) → Heap → Prop} {YP : World → Heap → Prop} {d : DefRec} {K : Params → PySem.W.Frag} (hn : l.most = some 63) (hdf : d.params.defaults = [])
    (hY : ∀ (w : World) (h : Heap), YP w h → (K w.params).In h)
    (F : ∀ (w : World) (mg : Str → Option Value) (fa : Addr) (h : Heap), (K w.params).In h → h.Ns mainGlobals mg → mg d.name = some (.ref fa) →
      ∃ fd : FuncData, (∀ (s : Shared) (u : Value), BindsTo s fd ⟨[u], []⟩ [("_law_script", u)]) ∧ ∀ base : Heap, (K w.params).In base → base.Ns mainGlobals mg → FnOk l.prog w (K w.params) mg base CX0 8 fa fd ["_law_script"] (spLaw (K w.params))) :
    PySem.W.WalkO q loose XP YP l.row.toRowW d [] (fun f vs => PySem.call f vs) :=
  L2.walk_of (n := 63) (k := 8) (x := "_law_script") (CX := fun _ => CX0) (sp := fun w => spLaw (K w.params)) hn (by decide) hdf ⟨rfl, by decide, by decide⟩ hY F (fun _ _ a ns hl _ hS => ⟨a, ns, rfl, hS, hl, fun _ => rfl⟩) fun _ _ _ _ _ z => z
end K11
open PySem PySem.W PyProof.Rows
set_option maxRecDepth 100000 in
set_option maxHeartbeats 0 in
theorem PySem.Challenge.cw_everypath_k11_whole_least_strips_holds : PySem.Challenge.rw_everypath_k11_whole_least_strips.Holds := by
  w_on; o_law; k_head; (case hw => w_witness2)
  k_fill
  refine K11.walk (l := PySem.Challenge.rw_everypath_k11_whole_least_strips) rfl rfl (fun w h Y => PySem.W.kIn_of Y) ?F
  case F =>
    intro w mg fa h KX G hmg
    refine' K11.all_mk KX G hmg ?a1 ?l1 ?c1 ?k1 ?a2 ?l2 ?c2 ?k2 ?a3 ?l3 ?c3 ?k3 ?a4 ?l4 ?c4 ?k4 ?a5 ?l5 ?c5 ?k5 ?a6 ?l6 ?c6 ?k6 ?a7 ?l7 ?c7 ?k7 ?a8 ?l8 ?c8 ?k8 ?a9 ?l9 ?c9 ?k9 ?a10 ?l10 ?c10 ?k10 ?a11 ?l11 ?c11 ?k11 ?a12 ?l12 ?c12 ?k12 ?a13 ?l13 ?c13 ?k13 ?a14 ?l14 ?c14 ?k14 ?a15 ?l15 ?c15 ?k15 ?a16 ?l16 ?c16 ?k16 ?a17 ?l17 ?c17 ?k17 ?a18 ?l18 ?c18 ?k18 ?a19 ?l19 ?c19 ?k19 ?a20 ?l20 ?c20 ?k20 ?a21 ?l21 ?c21 ?k21 ?a22 ?l22 ?c22 ?k22 ?a23 ?l23 ?c23 ?k23 ?a24 ?l24 ?c24 ?k24 ?a25 ?l25 ?c25 ?k25 ?a26 ?l26 ?c26 ?k26 ?a27 ?l27 ?c27 ?k27 ?a28 ?l28 ?c28 ?k28 ?a29 ?l29 ?c29 ?k29 ?a30 ?l30 ?c30 ?k30 ?a31 ?l31 ?c31 ?k31 ?a32 ?l32 ?c32 ?k32 ?a33 ?l33 ?c33 ?k33 ?a34 ?l34 ?c34 ?k34 ?a35 ?l35 ?c35 ?k35 ?a36 ?l36 ?c36 ?k36 ?a37 ?l37 ?c37 ?k37 ?a38 ?l38 ?c38 ?k38 ?a39 ?l39 ?c39 ?k39 ?a40 ?l40 ?c40 ?k40 ?a41 ?l41 ?c41 ?k41 ?a42 ?l42 ?c42 ?k42 ?z1 ?z2 ?z3 ?z4 ?z5 ?z6 ?z7 ?z8 ?z9 ?z10 ?z11 ?z12 ?z13 ?z14
    (case a1 => k_is)
    (case l1 => k_is)
    (case c1 => k_is)
    (case k1 => k_is)
    (case a2 => k_is)
    (case l2 => k_is)
    (case c2 => k_is)
    (case k2 => k_is)
    (case a3 => k_is)
    (case l3 => k_is)
    (case c3 => k_is)
    (case k3 => k_is)
    (case a4 => k_is)
    (case l4 => k_is)
    (case c4 => k_is)
    (case k4 => k_is)
    (case a5 => k_is)
    (case l5 => k_is)
    (case c5 => k_is)
    (case k5 => k_is)
    (case a6 => k_is)
    (case l6 => k_is)
    (case c6 => k_is)
    (case k6 => k_is)
    (case a7 => k_is)
    (case l7 => k_is)
    (case c7 => k_is)
    (case k7 => k_is)
    (case a8 => k_is)
    (case l8 => k_is)
    (case c8 => k_is)
    (case k8 => k_is)
    (case a9 => k_is)
    (case l9 => k_is)
    (case c9 => k_is)
    (case k9 => k_is)
    (case a10 => k_is)
    (case l10 => k_is)
    (case c10 => k_is)
    (case k10 => k_is)
    (case a11 => k_is)
    (case l11 => k_is)
    (case c11 => k_is)
    (case k11 => k_is)
    (case a12 => k_is)
    (case l12 => k_is)
    (case c12 => k_is)
    (case k12 => k_is)
    (case a13 => k_is)
    (case l13 => k_is)
    (case c13 => k_is)
    (case k13 => k_is)
    (case a14 => k_is)
    (case l14 => k_is)
    (case c14 => k_is)
    (case k14 => k_is)
    (case a15 => k_is)
    (case l15 => k_is)
    (case c15 => k_is)
    (case k15 => k_is)
    (case a16 => k_is)
    (case l16 => k_is)
    (case c16 => k_is)
    (case k16 => k_is)
    (case a17 => k_is)
    (case l17 => k_is)
    (case c17 => k_is)
    (case k17 => k_is)
    (case a18 => k_is)
    (case l18 => k_is)
    (case c18 => k_is)
    (case k18 => k_is)
    (case a19 => k_is)
    (case l19 => k_is)
    (case c19 => k_is)
    (case k19 => k_is)
    (case a20 => k_is)
    (case l20 => k_is)
    (case c20 => k_is)
    (case k20 => k_is)
    (case a21 => k_is)
    (case l21 => k_is)
    (case c21 => k_is)
    (case k21 => k_is)
    (case a22 => k_is)
    (case l22 => k_is)
    (case c22 => k_is)
    (case k22 => k_is)
    (case a23 => k_is)
    (case l23 => k_is)
    (case c23 => k_is)
    (case k23 => k_is)
    (case a24 => k_is)
    (case l24 => k_is)
    (case c24 => k_is)
    (case k24 => k_is)
    (case a25 => k_is)
    (case l25 => k_is)
    (case c25 => k_is)
    (case k25 => k_is)
    (case a26 => k_is)
    (case l26 => k_is)
    (case c26 => k_is)
    (case k26 => k_is)
    (case a27 => k_is)
    (case l27 => k_is)
    (case c27 => k_is)
    (case k27 => k_is)
    (case a28 => k_is)
    (case l28 => k_is)
    (case c28 => k_is)
    (case k28 => k_is)
    (case a29 => k_is)
    (case l29 => k_is)
    (case c29 => k_is)
    (case k29 => k_is)
    (case a30 => k_is)
    (case l30 => k_is)
    (case c30 => k_is)
    (case k30 => k_is)
    (case a31 => k_is)
    (case l31 => k_is)
    (case c31 => k_is)
    (case k31 => k_is)
    (case a32 => k_is)
    (case l32 => k_is)
    (case c32 => k_is)
    (case k32 => k_is)
    (case a33 => k_is)
    (case l33 => k_is)
    (case c33 => k_is)
    (case k33 => k_is)
    (case a34 => k_is)
    (case l34 => k_is)
    (case c34 => k_is)
    (case k34 => k_is)
    (case a35 => k_is)
    (case l35 => k_is)
    (case c35 => k_is)
    (case k35 => k_is)
    (case a36 => k_is)
    (case l36 => k_is)
    (case c36 => k_is)
    (case k36 => k_is)
    (case a37 => k_is)
    (case l37 => k_is)
    (case c37 => k_is)
    (case k37 => k_is)
    (case a38 => k_is)
    (case l38 => k_is)
    (case c38 => k_is)
    (case k38 => k_is)
    (case a39 => k_is)
    (case l39 => k_is)
    (case c39 => k_is)
    (case k39 => k_is)
    (case a40 => k_is)
    (case l40 => k_is)
    (case c40 => k_is)
    (case k40 => k_is)
    (case a41 => k_is)
    (case l41 => k_is)
    (case c41 => k_is)
    (case k41 => k_is)
    (case a42 => k_is)
    (case l42 => k_is)
    (case c42 => k_is)
    (case k42 => k_is)
    (case z1 => k_is)
    (case z2 => k_is)
    (case z3 => k_is)
    (case z4 => k_is)
    (case z5 => k_is)
    (case z6 => k_is)
    (case z7 => k_is)
    (case z8 => k_is)
    (case z9 => k_is)
    (case z10 => k_is)
    (case z11 => k_is)
    (case z12 => k_is)
    (case z13 => k_is)
    (case z14 => k_is)
